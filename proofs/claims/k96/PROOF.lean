import PyProof.Rows.All
import Wide.All
import OpenK.AllK
import Wide.FinOn
import HandS.ForMost
import HandS.Evl
import HandS.HeadHook1
import HandS.HeadHook2
import KE.KMathGC
import HandS.List
import KE.SortData
import HandS.Conv
import HandS.Wide
import HandS.Gcd
import HandS.TupAny
import HandS.IsInst
import HandS.Style
import HandS.Flow
import HandS.HeadWalk
import HandS.More
import HandS.NoneIn
import HandS.Rev
import HandS.Zip
import HandS.Steps
import HandS.Deep
import HandS.DictComp
import HandS.Set
import HandS.SetFor
import HandS.SetKeys
import HandS.SortInts
import HandS.Defaults
import HandS.Words
import HandS.Head3
import HandS.HeadEnd
import PySem.Challenge.RW_fairmarks_k96_whole_suspicions
set_option Elab.async false
set_option linter.all false
set_option maxRecDepth 100000
set_option maxHeartbeats 0
/-! Trees of values, and what stands for them in the abstract heap. -/
namespace Pv
open PySem L2
abbrev Ex := Evl.Ex
abbrev FP := Addr → Prop
def Dj (p q : FP) : Prop := ∀ a, p a → q a → False
theorem Dj.symm {p q : FP} (h : Dj p q) : Dj q p := fun a x y => h a y x

/-- a dict: owned; frozen; frozen and locked for good (it may be walked) -/
inductive Dw where
  | own | frz | lok
  deriving DecidableEq
def Dw.fz : Dw → Dw
  | .own => .frz
  | .frz => .frz
  | .lok => .lok
def Dw.fr : Dw → Bool
  | .own => false
  | .frz => true
  | .lok => true
inductive T where
  | hole | non | bl (b : Bool) | int (i : Int) | str (x : Str)
  | tup (ts : List T)
  | lst (o : Bool) (ts : List T)
  | dct (o : Dw) (kd : Bool) (ks : List (List Key)) (ts : List T)
  | ins (o : Bool) (c : Str) (ns : List Str) (ts : List T)

mutual
def frz : T → T
  | .tup ts => .tup (frzs ts)
  | .lst _ ts => .lst false (frzs ts)
  | .dct o k ks ts => .dct o.fz k ks (frzs ts)
  | .ins _ c ns ts => .ins false c ns (frzs ts)
  | .hole => .hole
  | .non => .non
  | .bl b => .bl b
  | .int i => .int i
  | .str x => .str x
def frzs : List T → List T
  | [] => []
  | t :: ts => frz t :: frzs ts
end
mutual
/-- nothing owned in it -/
def isF : T → Bool
  | .tup ts => isFs ts
  | .lst o ts => !o && isFs ts
  | .dct o _ _ ts => o.fr && isFs ts
  | .ins o _ _ ts => !o && isFs ts
  | .hole => false
  | .non => true
  | .bl _ => true
  | .int _ => true
  | .str _ => true
def isFs : List T → Bool
  | [] => true
  | t :: ts => isF t && isFs ts
end

/-- the keys of a dict as HandS has them -/
def key1 : List Key → Key
  | k :: _ => k
  | [] => .inl 0
def dho (kd : Bool) (ks : List (List Key)) (vs : List V) : HO := if kd then .dT (ks.zip vs) else .dK ((ks.map key1).zip vs)
structure DW (kd : Bool) (ks : List (List Key)) (n : Nat) : Prop where
  len : ks.length = n
  one : kd = false → ∀ k ∈ ks, ∃ x, k = [x]
  nd : ks.Nodup

mutual
inductive Rep (K : PySem.W.Frag) (F H : Hp) : T → V → FP → Prop
  | hole {v p} (e : ∀ a, ¬ p a) : Rep K F H .hole v p
  | non {p} (e : ∀ a, ¬ p a) : Rep K F H .non .non p
  | bl {b p} (e : ∀ a, ¬ p a) : Rep K F H (.bl b) (.bl b) p
  | int {i p} (e : ∀ a, ¬ p a) : Rep K F H (.int i) (.int i) p
  | str {x p} (e : ∀ a, ¬ p a) : Rep K F H (.str x) (.str x) p
  | tup {a xs ts p} (s : SqT K F a xs) (r : Reps K F H ts xs p) : Rep K F H (.tup ts) (.ref a) p
  | lstF {a xs ts p} (s : Rd F a (.lst xs)) (r : Reps K F H ts xs p) : Rep K F H (.lst false ts) (.ref a) p
  | lstO {a xs ts p q} (n : F a = none) (h : H a = some (.lst xs)) (r : Reps K F H ts xs q) (d : ¬ q a) (e : ∀ b, p b ↔ b = a ∨ q b) : Rep K F H (.lst true ts) (.ref a) p
  | dctF {a xs kd ks ts p} (h : F a = some (dho kd ks xs)) (w : DW kd ks xs.length) (r : Reps K F H ts xs p) : Rep K F H (.dct .frz kd ks ts) (.ref a) p
  | dctL {a xs od kd ks ts p} (h : F a = some (.frz od (dho kd ks xs))) (w : DW kd ks xs.length) (r : Reps K F H ts xs p) : Rep K F H (.dct .lok kd ks ts) (.ref a) p
  | dctO {a xs kd ks ts p q} (n : F a = none) (h : H a = some (dho kd ks xs)) (w : DW kd ks xs.length) (r : Reps K F H ts xs q) (d : ¬ q a) (e : ∀ b, p b ↔ b = a ∨ q b) : Rep K F H (.dct .own kd ks ts) (.ref a) p
  | insF {a dx c fs ns ts p} (h : F a = some (.ins (He.ga K c) dx fs)) (w : fs.map (·.1) = ns) (r : Reps K F H ts (fs.map (·.2)) p) : Rep K F H (.ins false c ns ts) (.ref a) p
  | insO {a dx c fs ns ts p q} (n : F a = none) (h : H a = some (.ins (He.ga K c) dx fs)) (w : fs.map (·.1) = ns) (r : Reps K F H ts (fs.map (·.2)) q) (d : ¬ q a) (e : ∀ b, p b ↔ b = a ∨ q b) : Rep K F H (.ins true c ns ts) (.ref a) p
inductive Reps (K : PySem.W.Frag) (F H : Hp) : List T → List V → FP → Prop
  | nil {p} (e : ∀ a, ¬ p a) : Reps K F H [] [] p
  | cons {t v ts vs p q r} (h : Rep K F H t v p) (hs : Reps K F H ts vs q) (d : Dj p q) (e : ∀ b, r b ↔ p b ∨ q b) : Reps K F H (t :: ts) (v :: vs) r
end

section
variable {K : PySem.W.Frag} {F F' H H' : Hp}

theorem Reps.length : ∀ {ts vs p}, Reps K F H ts vs p → ts.length = vs.length
  | _, _, _, .nil _ => rfl
  | _, _, _, .cons _ hs _ _ => congrArg Nat.succ (Reps.length hs)

mutual
theorem Rep.cg : ∀ {t v p p'}, Rep K F H t v p → (∀ b, p b ↔ p' b) → Rep K F H t v p'
  | _, _, _, _, .hole e, g => .hole fun a x => e a ((g a).mpr x)
  | _, _, _, _, .non e, g => .non fun a x => e a ((g a).mpr x)
  | _, _, _, _, .bl e, g => .bl fun a x => e a ((g a).mpr x)
  | _, _, _, _, .int e, g => .int fun a x => e a ((g a).mpr x)
  | _, _, _, _, .str e, g => .str fun a x => e a ((g a).mpr x)
  | _, _, _, _, .tup s r, g => .tup s (Reps.cg r g)
  | _, _, _, _, .lstF s r, g => .lstF s (Reps.cg r g)
  | _, _, _, _, .lstO n h r d e, g => .lstO n h r d fun b => (g b).symm.trans (e b)
  | _, _, _, _, .dctF h w r, g => .dctF h w (Reps.cg r g)
  | _, _, _, _, .dctL h w r, g => .dctL h w (Reps.cg r g)
  | _, _, _, _, .dctO n h w r d e, g => .dctO n h w r d fun b => (g b).symm.trans (e b)
  | _, _, _, _, .insF h w r, g => .insF h w (Reps.cg r g)
  | _, _, _, _, .insO n h w r d e, g => .insO n h w r d fun b => (g b).symm.trans (e b)
theorem Reps.cg : ∀ {t v p p'}, Reps K F H t v p → (∀ b, p b ↔ p' b) → Reps K F H t v p'
  | _, _, _, _, .nil e, g => .nil fun a x => e a ((g a).mpr x)
  | _, _, _, _, .cons h hs d e, g => .cons h hs d fun b => (g b).symm.trans (e b)
end
theorem Rep.eq {t v p p'} (h : Rep K F H t v p) (e : p = p') : Rep K F H t v p' := e ▸ h

mutual
/-- what is owned is not frozen, and stands -/
theorem Rep.own : ∀ {t v p}, Rep K F H t v p → ∀ a, p a → F a = none ∧ ∃ o, H a = some o
  | _, _, _, .hole e, a, x => (e a x).elim
  | _, _, _, .non e, a, x => (e a x).elim
  | _, _, _, .bl e, a, x => (e a x).elim
  | _, _, _, .int e, a, x => (e a x).elim
  | _, _, _, .str e, a, x => (e a x).elim
  | _, _, _, .tup s r, a, x => Reps.own r a x
  | _, _, _, .lstF s r, a, x => Reps.own r a x
  | _, _, _, .lstO n h r d e, a, x => ((e a).mp x).elim (fun z => z ▸ ⟨n, _, h⟩) (Reps.own r a)
  | _, _, _, .dctF h w r, a, x => Reps.own r a x
  | _, _, _, .dctL h w r, a, x => Reps.own r a x
  | _, _, _, .dctO n h w r d e, a, x => ((e a).mp x).elim (fun z => z ▸ ⟨n, _, h⟩) (Reps.own r a)
  | _, _, _, .insF h w r, a, x => Reps.own r a x
  | _, _, _, .insO n h w r d e, a, x => ((e a).mp x).elim (fun z => z ▸ ⟨n, _, h⟩) (Reps.own r a)
theorem Reps.own : ∀ {ts vs p}, Reps K F H ts vs p → ∀ a, p a → F a = none ∧ ∃ o, H a = some o
  | _, _, _, .nil e, a, x => (e a x).elim
  | _, _, _, .cons h hs _ e, a, x => ((e a).mp x).elim (Rep.own h a) (Reps.own hs a)
end

mutual
/-- FRAME: what is frozen stays, what is owned here is left alone -/
theorem Rep.frame (ex : Ex F F') : ∀ {t v p}, Rep K F H t v p → (∀ a, p a → F' a = none ∧ H' a = H a) → Rep K F' H' t v p
  | _, _, _, .hole e, _ => .hole e
  | _, _, _, .non e, _ => .non e
  | _, _, _, .bl e, _ => .bl e
  | _, _, _, .int e, _ => .int e
  | _, _, _, .str e, _ => .str e
  | _, _, _, .tup s r, g => .tup (Evl.ex_t ex s) (Reps.frame ex r g)
  | _, _, _, .lstF s r, g => .lstF (Evl.ex_rd ex s) (Reps.frame ex r g)
  | _, _, _, .lstO n h r d e, g => .lstO (g _ ((e _).mpr (.inl rfl))).1 ((g _ ((e _).mpr (.inl rfl))).2.trans h) (Reps.frame ex r fun b x => g b ((e b).mpr (.inr x))) d e
  | _, _, _, .dctF h w r, g => .dctF (ex _ _ h) w (Reps.frame ex r g)
  | _, _, _, .dctL h w r, g => .dctL (ex _ _ h) w (Reps.frame ex r g)
  | _, _, _, .dctO n h w r d e, g => .dctO (g _ ((e _).mpr (.inl rfl))).1 ((g _ ((e _).mpr (.inl rfl))).2.trans h) w (Reps.frame ex r fun b x => g b ((e b).mpr (.inr x))) d e
  | _, _, _, .insF h w r, g => .insF (ex _ _ h) w (Reps.frame ex r g)
  | _, _, _, .insO n h w r d e, g => .insO (g _ ((e _).mpr (.inl rfl))).1 ((g _ ((e _).mpr (.inl rfl))).2.trans h) w (Reps.frame ex r fun b x => g b ((e b).mpr (.inr x))) d e
theorem Reps.frame (ex : Ex F F') : ∀ {ts vs p}, Reps K F H ts vs p → (∀ a, p a → F' a = none ∧ H' a = H a) → Reps K F' H' ts vs p
  | _, _, _, .nil e, _ => .nil e
  | _, _, _, .cons h hs d e, g => .cons (Rep.frame ex h fun b x => g b ((e b).mpr (.inl x))) (Reps.frame ex hs fun b x => g b ((e b).mpr (.inr x))) d e
end

mutual
/-- what holds nothing owned -/
theorem Rep.of_isF : ∀ {t v p}, Rep K F H t v p → isF t = true → ∀ a, ¬ p a
  | _, _, _, .hole e, _ => e
  | _, _, _, .non e, _ => e
  | _, _, _, .bl e, _ => e
  | _, _, _, .int e, _ => e
  | _, _, _, .str e, _ => e
  | _, _, _, .tup s r, g => Reps.of_isFs r (by simpa [isF] using g)
  | _, _, _, .lstF s r, g => Reps.of_isFs r (by simpa [isF] using g)
  | _, _, _, .lstO n h r d e, g => by simp [isF, Dw.fr] at g
  | _, _, _, .dctF h w r, g => Reps.of_isFs r (by simpa [isF, Dw.fr] using g)
  | _, _, _, .dctL h w r, g => Reps.of_isFs r (by simpa [isF, Dw.fr] using g)
  | _, _, _, .dctO n h w r d e, g => by simp [isF, Dw.fr] at g
  | _, _, _, .insF h w r, g => Reps.of_isFs r (by simpa [isF] using g)
  | _, _, _, .insO n h w r d e, g => by simp [isF, Dw.fr] at g
theorem Reps.of_isFs : ∀ {ts vs p}, Reps K F H ts vs p → isFs ts = true → ∀ a, ¬ p a
  | _, _, _, .nil e, _ => e
  | _, _, _, .cons h hs d e, g => fun a x => by
    simp only [isFs, Bool.and_eq_true] at g
    rcases (e a).mp x with x | x
    · exact Rep.of_isF h g.1 a x
    · exact Reps.of_isFs hs g.2 a x
end

def nop : FP := fun _ => False
/-- the owned addresses p frozen -/
noncomputable def frF (F H : Hp) (p : FP) : Hp := fun a => open Classical in if p a then H a else F a
theorem frF_in {p : FP} {a : Addr} (h : p a) : frF F H p a = H a := if_pos h
theorem frF_out {p : FP} {a : Addr} (h : ¬ p a) : frF F H p a = F a := if_neg h
theorem frF_ex {p : FP} (h : ∀ a, p a → F a = none) : Ex F (frF F H p) := fun a o e => by
  by_cases x : p a
  · rw [h a x] at e; cases e
  · rw [frF_out x]; exact e
theorem frF_sub {p : FP} (h : Ex F H) : Ex (frF F H p) H := fun a o e => by
  by_cases x : p a
  · rw [frF_in x] at e; exact e
  · rw [frF_out x] at e; exact h a o e
mutual
theorem Rep.frz (ex : Ex F F') : ∀ {t v p}, Rep K F H t v p → (∀ a, p a → F' a = H a) → Rep K F' H' (frz t) v nop
  | _, _, _, .hole e, _ => .hole fun _ x => x
  | _, _, _, .non e, _ => .non fun _ x => x
  | _, _, _, .bl e, _ => .bl fun _ x => x
  | _, _, _, .int e, _ => .int fun _ x => x
  | _, _, _, .str e, _ => .str fun _ x => x
  | _, _, _, .tup s r, g => .tup (Evl.ex_t ex s) (Reps.frz ex r g)
  | _, _, _, .lstF s r, g => .lstF (Evl.ex_rd ex s) (Reps.frz ex r g)
  | _, _, _, .lstO n h r d e, g => .lstF (.inl ((g _ ((e _).mpr (.inl rfl))).trans h)) (Reps.frz ex r fun b x => g b ((e b).mpr (.inr x)))
  | _, _, _, .dctF h w r, g => .dctF (ex _ _ h) w (Reps.frz ex r g)
  | _, _, _, .dctL h w r, g => .dctL (ex _ _ h) w (Reps.frz ex r g)
  | _, _, _, .dctO n h w r d e, g => .dctF ((g _ ((e _).mpr (.inl rfl))).trans h) w (Reps.frz ex r fun b x => g b ((e b).mpr (.inr x)))
  | _, _, _, .insF h w r, g => .insF (ex _ _ h) w (Reps.frz ex r g)
  | _, _, _, .insO n h w r d e, g => .insF ((g _ ((e _).mpr (.inl rfl))).trans h) w (Reps.frz ex r fun b x => g b ((e b).mpr (.inr x)))
theorem Reps.frz (ex : Ex F F') : ∀ {ts vs p}, Reps K F H ts vs p → (∀ a, p a → F' a = H a) → Reps K F' H' (frzs ts) vs nop
  | _, _, _, .nil e, _ => .nil fun _ x => x
  | _, _, _, .cons h hs d e, g => .cons (Rep.frz ex h fun b x => g b ((e b).mpr (.inl x))) (Reps.frz ex hs fun b x => g b ((e b).mpr (.inr x))) (fun _ x => x.elim) fun b => ⟨fun x => .inl x, fun x => x.elim id id⟩
end

/-! ### rows -/
theorem Reps.focus : ∀ {ts vs p} {i : Nat} {t : T}, Reps K F H ts vs p → ts[i]? = some t →
    ∃ v q r, vs[i]? = some v ∧ Rep K F H t v q ∧ Dj q r ∧ (∀ b, p b ↔ q b ∨ r b) ∧ Reps K F H (ts.set i .hole) vs r
  | _, _, _, i, t, .nil e, h => by simp at h
  | _, _, _, 0, t, .cons (q := q) h hs d e, g => by
    simp at g; subst g
    exact ⟨_, _, q, rfl, h, d, e, .cons (.hole (p := nop) fun _ x => x) hs (fun _ x => x.elim) fun b => ⟨.inr, fun x => x.elim (fun z => z.elim) id⟩⟩
  | _, _, _, i + 1, t, .cons (p := p0) h hs d e, g => by
    obtain ⟨v, q, r, e1, r1, dj, e2, r2⟩ := Reps.focus (i := i) (t := t) hs (by simpa using g)
    refine ⟨v, q, fun b => p0 b ∨ r b, by simpa using e1, r1, fun b x y => ?_, fun b => ?_, .cons h r2 (fun b x y => d b x ((e2 b).mpr (.inr y))) fun b => Iff.rfl⟩
    · rcases y with y | y
      · exact d b y ((e2 b).mpr (.inl x))
      · exact dj b x y
    · rw [e b, e2 b]
      exact or_left_comm
theorem Reps.put : ∀ {ts vs r} {i : Nat} {t : T} {v : V} {q : FP}, Reps K F H ts vs r → ts[i]? = some .hole → Rep K F H t v q → Dj q r →
    Reps K F H (ts.set i t) (vs.set i v) (fun b => q b ∨ r b)
  | _, _, _, i, t, v, q, .nil e, h, _, _ => by simp at h
  | _, _, _, 0, t, v, q, .cons (p := p0) (q := q0) h hs d e, g, ht, dj => by
    simp at g; subst g
    have e0 : ∀ a, ¬ p0 a := by cases h with | hole e => exact e
    exact .cons ht hs (fun b x y => dj b x ((e b).mpr (.inr y))) fun b => ⟨fun x => x.elim .inl fun y => ((e b).mp y).elim (fun z => (e0 b z).elim) .inr, fun x => x.elim .inl fun y => .inr ((e b).mpr (.inr y))⟩
  | _, _, _, i + 1, t, v, q, .cons (p := p0) (q := q0) h hs d e, g, ht, dj => by
    have z := Reps.put (i := i) (t := t) (v := v) (q := q) hs (by simpa using g) ht fun b x y => dj b x ((e b).mpr (.inr y))
    refine .cons h z (fun b x y => ?_) fun b => ?_
    · rcases y with y | y
      · exact dj b y ((e b).mpr (.inl x))
      · exact d b x y
    · rw [e b]
      exact or_left_comm
theorem Reps.app : ∀ {ts vs p us ws q}, Reps K F H ts vs p → Reps K F H us ws q → Dj p q → Reps K F H (ts ++ us) (vs ++ ws) (fun b => p b ∨ q b)
  | _, _, _, _, _, _, .nil e, s, _ => Reps.cg s fun b => ⟨.inr, fun x => x.elim (fun y => (e b y).elim) id⟩
  | _, _, _, _, _, _, .cons h hs d e, s, dj => by
    refine .cons h (Reps.app hs s fun b x y => dj b ((e b).mpr (.inr x)) y) (fun b x y => ?_) fun b => ?_
    · rcases y with y | y
      · exact d b x y
      · exact dj b ((e b).mpr (.inl x)) y
    · rw [e b]; exact or_assoc
theorem Reps.get {ts vs p} (h : Reps K F H ts vs p) (f : isFs ts = true) {i : Nat} {t : T} (g : ts[i]? = some t) : ∃ v, vs[i]? = some v ∧ Rep K F H t v nop := by
  obtain ⟨v, q, r, e1, r1, _, e2, _⟩ := h.focus g
  have z := h.of_isFs f
  exact ⟨v, e1, r1.cg fun b => ⟨fun x => z b ((e2 b).mpr (.inl x)), fun x => x.elim⟩⟩
end

/-! ### a step of the world -/
structure Stp (p : FP) (F H : Hp) (p' : FP) (F' H' : Hp) : Prop where
  ex : Ex F F'
  keep : ∀ a o, H a = some o → ¬ p a → H' a = some o
  grow : ∀ a o, H a = some o → ¬ p a → F' a = F a
  own : ∀ a, p' a → p a ∨ H a = none
section
variable {K : PySem.W.Frag} {F F' F'' H H' H'' : Hp} {p p' p'' q r : FP}
theorem Stp.refl : Stp p F H p F H := ⟨Evl.Ex.refl F, fun _ _ h _ => h, fun _ _ _ _ => rfl, fun _ h => .inl h⟩
theorem Stp.sub (s : Stp p F H p' F' H') (h : ∀ a, q a → p' a) : Stp p F H q F' H' := ⟨s.ex, s.keep, s.grow, fun a x => s.own a (h a x)⟩
theorem Stp.cg (s : Stp p F H p' F' H') (h : ∀ a, p a ↔ q a) : Stp q F H p' F' H' :=
  ⟨s.ex, fun a o e n => s.keep a o e fun x => n ((h a).mp x), fun a o e n => s.grow a o e fun x => n ((h a).mp x), fun a x => (s.own a x).imp (h a).mp id⟩
/-- more may be owned ahead -/
theorem Stp.more (s : Stp p F H p' F' H') (h : ∀ a, p a → q a) : Stp q F H p' F' H' :=
  ⟨s.ex, fun a o e n => s.keep a o e fun x => n (h a x), fun a o e n => s.grow a o e fun x => n (h a x), fun a x => (s.own a x).imp (h a) id⟩
theorem Stp.trans (s : Stp p F H p' F' H') (t : Stp p' F' H' p'' F'' H'') : Stp p F H p'' F'' H'' where
  ex := s.ex.trans t.ex
  keep := fun a o h n => by
    have h1 := s.keep a o h n
    refine t.keep a o h1 fun x => ?_
    rcases s.own a x with y | y
    · exact n y
    · rw [h] at y; cases y
  grow := fun a o h n => by
    have h1 := s.keep a o h n
    rw [t.grow a o h1 fun x => ?_]
    · exact s.grow a o h n
    · rcases s.own a x with y | y
      · exact n y
      · rw [h] at y; cases y
  own := fun a x => by
    rcases t.own a x with y | y
    · exact s.own a y
    · by_cases z : p a
      · exact .inl z
      · refine .inr ?_
        cases e : H a with
        | none => rfl
        | some o => rw [s.keep a o e z] at y; cases y
/-- what is beside is left alone -/
theorem Stp.frame (s : Stp p F H p' F' H') (hr : ∀ a, r a → F a = none ∧ ∃ o, H a = some o) (d : Dj p r) : (∀ a, r a → F' a = none ∧ H' a = H a) ∧ Dj p' r ∧ Stp (fun a => p a ∨ r a) F H (fun a => p' a ∨ r a) F' H' := by
  refine ⟨fun a x => ?_, fun a x y => ?_, s.ex, fun a o e n => s.keep a o e fun x => n (.inl x), fun a o e n => s.grow a o e fun x => n (.inl x), fun a x => ?_⟩
  · obtain ⟨e1, o, e2⟩ := hr a x
    have n : ¬ p a := fun z => d a z x
    exact ⟨(s.grow a o e2 n).trans e1, (s.keep a o e2 n).trans e2.symm⟩
  · obtain ⟨e1, o, e2⟩ := hr a y
    rcases s.own a x with z | z
    · exact d a z y
    · rw [e2] at z; cases z
  · rcases x with x | x
    · exact (s.own a x).imp .inl id
    · exact .inl (.inr x)
end
end Pv

/-! The small language and its evaluator over trees. -/
namespace Pv
open PySem L2

instance keyLaw : LawfulBEq (Int ⊕ Str) where
  rfl := fun {a} => by
    cases a with
    | inl i => show (i == i) = true; exact beq_self_eq_true i
    | inr i => show (i == i) = true; exact beq_self_eq_true i
  eq_of_beq := fun {a b} h => by
    cases a with
    | inl i => cases b with
      | inl j => exact congrArg Sum.inl (eq_of_beq (show (i == j) = true from h))
      | inr j => cases h
    | inr i => cases b with
      | inl j => cases h
      | inr j => exact congrArg Sum.inr (eq_of_beq (show (i == j) = true from h))
inductive O1 where
  | neg | len | list | tuple | sum | sorted | abs | int | str | all | any | isi (k : Nat)
  | lenset | sortset | dict | max1 | min1 | revl | vals | keysl
inductive O2 where
  | add | sub | mul | fdiv | mod | pow | bxor | lt | le | gt | ge | eq | ne | isS | notS | isin | notin | min2 | max2 | gcd | comb | slcl | slcr | lcount | lindex | join | split | part
inductive MK where
  | append | extend | insert | pop | popi | setdef | update
  deriving DecidableEq
/-- a target: a name, a tuple of names -/
inductive G0 where
  | nm (i : Nat) | tp (is : List Nat) | at (r : Nat) (f : Str)
inductive G where
  | one (g : G0) | tp (gs : List G0)
inductive Md where
  | o | e | t
  deriving DecidableEq

mutual
inductive E where
  | var (i : Nat) | mov (i : Nat) | cst (t : T) | glb (x : Str) (t : T)
  | op1 (o : O1) (a : E) | op2 (o : O2) (a b : E) | idx (a b : E) | slc (a b c : E)
  | fld (a : E) (f : Str)
  | nt (a : E) | an (a b : E) | orr (a b : E) | ite (c a b : E) | chn (a : E) (c : Ch)
  | tup (es : Es) | lst (es : Es) | dnew | dsp (es : Es) | dget (a k : E) | dget2 (a k x : E)
  | call (f : Nat) (es : Es) | mk (c : Str) (f : Nat) (es : Es) | meth (i : Nat) (m : Str) (es : Es)
  | mut (i : Nat) (m : MK) (es : Es) | mutp (pl : E) (m : MK) (es : Es)
  | lc (own : List Nat) (g : G) (it : It) (c : E) (elt : E) | dc (own : List Nat) (g : G) (it : It) (c : E) (k v : E) | bad | frzp (e pl : E)
inductive Es where
  | nil | cons (e : E) (es : Es)
inductive Ch where
  | last (o : O2) (e : E) | more (o : O2) (e : E) (c : Ch)
inductive It where
  | seq (e : E) | rng1 (a : E) | rng2 (a b : E) | rng3 (a b c : E) | enum (e : E) | zip (a b : E) | rev (e : E) | var (i : Nat) | vals (e : E) | itms (e : E) | valsv (i : Nat) | itmsv (i : Nat) | bad
end
mutual
inductive S where
  | asg (g : G) (e : E) | par (is : List Nat) (es : Es)
  | aug (i : Nat) (o : O2) (e : E)
  | faug (r : Nat) (f : Str) (o : O2) (e : E)
  | pst (pl k e : E) | paug (pl k : E) (o : O2) (e : E)
  | exp (e : E) | ret (e : E) | retn | pass | brk | cnt | bad
  | iff (c : E) (a b : Ss) | whl (c : E) (a : Ss) | forr (g : G) (it : It) (a : Ss)
inductive Ss where
  | nil | cons (s : S) (ss : Ss)
end

/-! ### operations on values -/
mutual
def pd : T → Option PyData
  | .non => some .none
  | .bl b => some (.bool b)
  | .int i => some (.int i)
  | .str x => some (.str x)
  | .tup ts => (pds ts).map .tuple
  | .lst _ ts => (pds ts).map .list
  | .hole => none
  | .dct .. => none
  | .ins .. => none
def pds : List T → Option (List PyData)
  | [] => some []
  | t :: ts => match pd t, pds ts with
    | some d, some ds => some (d :: ds)
    | _, _ => none
end
def eqT (t u : T) : Option Bool := match pd t, pd u with
  | some d, some e => if SeqAt.shaped d && SeqAt.shaped e then some (PyData.eqv d e) else none
  | _, _ => none
def tru : T → Option Bool
  | .non => some false
  | .bl b => some b
  | .int i => some (i != 0)
  | .str x => if x.length ≤ sizeLine then some (x.length != 0) else none
  | .tup ts => some (!ts.isEmpty)
  | .lst _ ts => some (!ts.isEmpty)
  | .dct .lok _ _ _ => none
  | .dct .own false ks _ => some (!ks.isEmpty)
  | .dct .frz false ks _ => some (!ks.isEmpty)
  | .dct _ true _ _ => none
  | .hole => none
  | .ins .. => none
def items : T → Option (List T)
  | .tup ts => some ts
  | .lst _ ts => some ts
  | _ => none
def intsT : List T → Option (List Int)
  | [] => some []
  | .int i :: ts => (intsT ts).map (i :: ·)
  | _ :: _ => none
def boolsT : List T → Option (List Bool)
  | [] => some []
  | .bl i :: ts => (boolsT ts).map (i :: ·)
  | _ :: _ => none
/-- whole numbers that are not too large -/
def smallI (i : Int) : Bool := decide (i.natAbs.log2 < 400000)
def tinyI (i : Int) : Bool := decide (i.natAbs.log2 < 60)
def mulOk (i j : Int) : Bool := (smallI i && smallI j) || (tinyI i || tinyI j)
/-- what is compared at once -/
def flT : T → Option L2.V
  | .non => some .non
  | .bl b => some (.bl b)
  | .int i => some (.int i)
  | .str x => some (.str x)
  | _ => none
def flTs : List T → Option (List L2.V)
  | [] => some []
  | t :: ts => (flT t).bind fun v => (flTs ts).bind fun vs => some (v :: vs)
def inT (t : T) (ts : List T) : Option Bool := (flT t).bind fun v => (flTs ts).bind fun vs => some (L2.inV v vs)
/-- .. or deep, in a list -/
def inL (t : T) (ts : List T) : Option Bool := match inT t ts with
  | some b => some b
  | none => match pd t, pds ts with
    | some d, some ds => if SeqAt.shaped d && SeqAt.shaped (.list ds) then some (ds.any fun z => PyData.eqv z d) else none
    | _, _ => none
/-- what may be a dict's key -/
def keyT : T → Option L2.Key
  | .int i => some (.inl i)
  | .str x => some (.inr x)
  | _ => none
def unK : L2.Key → T
  | .inl i => .int i
  | .inr x => .str x
/-- a dict's entry stored -/
def putD (ks : List (List L2.Key)) (ts : List T) (k : List L2.Key) (v : T) : List (List L2.Key) × List T := match ks.idxOf? k with
  | some i => (ks, ts.set i v)
  | none => (ks ++ [k], ts ++ [v])
/-- sorted by insertion -/
def insB {α : Type} (le : α → α → Bool) (x : α) : List α → List α
  | [] => [x]
  | y :: ys => if le x y then x :: y :: ys else y :: insB le x ys
def isort {α : Type} (le : α → α → Bool) : List α → List α
  | [] => []
  | x :: xs => insB le x (isort le xs)
def leI (i j : Int) : Bool := decide (i ≤ j)
def leS (x y : Str) : Bool := !Spec.ltCps y.cps.toList x.cps.toList
def strsT : List T → Option (List Str)
  | [] => some []
  | .str x :: ts => (strsT ts).map (x :: ·)
  | _ :: _ => none
def keysT : List T → Option (List L2.Key)
  | [] => some []
  | t :: ts => (keyT t).bind fun k => (keysT ts).bind fun ks => some (k :: ks)
def sortT (ts : List T) : Option (List T) := match intsT ts with
  | some is => some ((isort leI is).map .int)
  | none => match strsT ts with
    | some ss => if decide (ss.length < 64) then some ((isort leS ss).map .str) else none
    | none => none
def dOf (t : T) : PyData := (pd t).getD .none
def allAlikeB (ds : List PyData) : Bool := ds.all fun d => ds.all fun e => W.alike d e
def tupB : PyData → Bool
  | .tuple (_ :: _) => true
  | _ => false
def othB : PyData → Bool
  | .none => false
  | .tuple _ => false
  | _ => true
def leD (a b : T) : Bool := !W.dataLt (dOf b) (dOf a)
/-- sorted data of any depth -/
def sortD (ts : List T) : Option (List T) := match pds ts with
  | some ds => if isFs ts && allAlikeB ds && (ds.all tupB || ds.all othB) && ds.all (fun d => decide (d.depth ≤ 20)) && decide (ts.length < 10000000) then some (ts.mergeSort leD) else none
  | none => none
def addQ (l : List L2.Key) (k : L2.Key) : List L2.Key := if k ∈ l then l else l ++ [k]
/-- the first of each, in their order -/
def dedK (l : List L2.Key) : List L2.Key := l.foldl addQ []
/-- pairs of keys and values -/
def prsT : List T → Option (List (L2.Key × T))
  | [] => some []
  | .tup [k, v] :: ts => (keyT k).bind fun k => (prsT ts).bind fun r => some ((k, v) :: r)
  | _ :: _ => none
def mrgD : List (L2.Key × T) → List (List L2.Key) × List T → List (List L2.Key) × List T
  | [], z => z
  | p :: ps, z => mrgD ps (putD z.1 z.2 [p.1] p.2)
/-- every second one a key -/
def altT : List T → Option (List (L2.Key × T))
  | [] => some []
  | k :: v :: ts => (keyT k).bind fun k => (altT ts).bind fun r => some ((k, v) :: r)
  | [_] => none
def isNon : T → Option Bool
  | .non => some true
  | .hole => none
  | _ => some false
def op2 : O2 → T → T → Option T
  | .add, .int i, .int j => some (.int (i + j))
  | .add, .str i, .str j => if i.length + j.length ≤ sizeLine then some (.str (i ++ j)) else none
  | .add, .lst _ ts, .lst _ us => if isFs ts && isFs us && decide (ts.length + us.length < 10000000) then some (.lst true (ts ++ us)) else none
  | .add, .tup ts, .tup us => if isFs ts && isFs us && decide (ts.length + us.length < 10000000) then some (.tup (ts ++ us)) else none
  | .sub, .int i, .int j => some (.int (i - j))
  | .mul, .int i, .int j => if mulOk i j then some (.int (i * j)) else none
  | .fdiv, .int i, .int j => if decide (0 < j) && decide (j.natAbs.log2 < 9000) then some (.int (i / j)) else none
  | .mod, .int i, .int j => if decide (0 < j) then some (.int (i % j)) else none
  | .pow, .int i, .int j => if decide (0 ≤ j) && decide (j ≤ 1000000) && decide (i.natAbs < 2 ^ 64) then some (.int (i ^ j.toNat)) else none
  | .bxor, .int i, .int j => some (.int (Builtin.bitXor i j))
  | .lt, .int i, .int j => some (.bl (decide (i < j)))
  | .le, .int i, .int j => some (.bl (decide (i ≤ j)))
  | .gt, .int i, .int j => some (.bl (decide (j < i)))
  | .ge, .int i, .int j => some (.bl (decide (j ≤ i)))
  | .eq, t, u => (eqT t u).map .bl
  | .ne, t, u => (eqT t u).map fun b => .bl (!b)
  | .min2, .int i, .int j => some (.int (if j < i then j else i))
  | .max2, .int i, .int j => some (.int (if j > i then j else i))
  | .isin, t, .lst _ ts => (inL t ts).map .bl
  | .isin, t, .tup ts => (inT t ts).map .bl
  | .notin, t, .lst _ ts => (inL t ts).map fun b => .bl (!b)
  | .notin, t, .tup ts => (inT t ts).map fun b => .bl (!b)
  | .isin, t, .dct _ false ks _ => (keyT t).map fun k => .bl (ks.contains [k])
  | .notin, t, .dct _ false ks _ => (keyT t).map fun k => .bl (!ks.contains [k])
  | .lcount, .lst _ ts, t => (flT t).bind fun v => (flTs ts).bind fun vs => some (.int (vs.countP fun z => L2.eqV z v : Nat))
  | .lindex, .lst _ ts, t => (flT t).bind fun v => (flTs ts).bind fun vs => (vs.findIdx? fun z => L2.eqV z v).map fun j => .int (j : Nat)
  | .isS, .bl a, .bl b => some (.bl (decide (a = b)))
  | .isS, t, .non => (isNon t).map .bl
  | .notS, .bl a, .bl b => some (.bl (!decide (a = b)))
  | .notS, t, .non => (isNon t).map fun b => .bl (!b)
  | .comb, .int i, .int j => if decide (0 ≤ i) && decide (0 ≤ j) && decide (i ≤ 18000) then some (.int (PySem.W.mcComb i j)) else none
  | .gcd, .int i, .int j => some (.int ((Nat.gcd i.natAbs j.natAbs : Nat) : Int))
  | _, _, _ => none
/-- x op= y -/
def iop : O2 → T → T → Option T
  | .add, .int i, .int j => some (.int (i + j))
  | .sub, .int i, .int j => some (.int (i - j))
  | _, _, _ => none
def idxT : T → T → Option T
  | .lst _ ts, .int i => atI ts i
  | .tup ts, .int i => atI ts i
  | .dct _ false ks ts, k => (keyT k).bind fun k => (ks.idxOf? [k]).bind fun i => ts[i]?
  | _, _ => none
/-- d.get(k): there, or not -/
def getD : T → T → Option (Option T)
  | .dct _ false ks ts, k => (keyT k).map fun k => (ks.idxOf? [k]).bind fun i => ts[i]?
  | _, _ => none
def key1k : List L2.Key → L2.Key
  | k :: _ => k
  | [] => .inl 0
def op1 : O1 → T → Option T
  | .neg, .int i => some (.int (-i))
  | .abs, .int i => some (.int (if i < 0 then -i else i))
  | .int, .int i => some (.int i)
  | .int, .bl b => some (.int (if b then 1 else 0))
  | .str, .int i => if decide (i.natAbs.log2 < 1920) then some (.str (Str.ofString (toString i))) else none
  | .len, .lst _ ts => some (.int ts.length)
  | .len, .tup ts => some (.int ts.length)
  | .len, .dct _ false ks _ => some (.int ks.length)
  | .dict, .dct _ false ks ts => if isFs ts then some (.dct .own false ks ts) else none
  | .dict, .lst _ ts => if isFs ts && decide (ts.length < 10000000) then (prsT ts).map fun ps => let z := mrgD ps ([], []); .dct .own false z.1 z.2 else none
  | .sorted, .lst _ ts => ((sortT ts).orElse fun _ => sortD ts).map (.lst true)
  | .sorted, .dct _ false ks _ => if decide (ks.length < 64) then (sortT (ks.map fun k => unK (key1k k))).map (.lst true) else none
  | .lenset, .lst _ ts => if decide (ts.length < 4000) then (keysT ts).map fun ks => .int (dedK ks).length else none
  | .sortset, .lst _ ts => if decide (ts.length < 4000) then (keysT ts).bind fun ks => (strsT ((dedK ks).map unK)).bind fun ss => if decide (ss.length < 64) then some (.lst true ((isort leS ss).map .str)) else none else none
  | .list, .dct _ false ks _ => some (.lst true (ks.map fun k => unK (key1k k)))
  | .list, .lst _ ts => if isFs ts then some (.lst true ts) else none
  | .list, .tup ts => if isFs ts then some (.lst true ts) else none
  | .tuple, .lst _ ts => if isFs ts then some (.tup ts) else none
  | .tuple, .tup ts => if isFs ts then some (.tup ts) else none
  | .sum, .lst _ ts => (intsT ts).map fun is => .int is.sum
  | .all, .lst _ ts => (boolsT ts).map fun bs => .bl (bs.all id)
  | .any, .lst _ ts => (boolsT ts).map fun bs => .bl (bs.any id)
  -- isinstance: 0 bool, 1 int, 2 str, 3 tuple, 4 list, 5 dict
  | .isi k, .non => some (.bl false)
  | .isi k, .bl _ => some (.bl (k == 0 || k == 1))
  | .isi k, .int _ => some (.bl (k == 1))
  | .isi k, .str _ => some (.bl (k == 2))
  | .isi k, .tup _ => some (.bl (k == 3))
  | .isi k, .lst _ _ => some (.bl (k == 4))
  | _, _ => none

/-! ### the evaluator -/
abbrev SL := List T
abbrev CF := Nat → List T → Option (T × List T)
def fin (m : Md) (path : Bool) (t : T) (sl : SL) : Option (T × SL) := match m with
  | .o => some (t, sl)
  | .e => if path && !isF t then none else some (t, sl)
  | .t => (tru t).map fun b => (.bl b, sl)
def isHole : T → Bool
  | .hole => true
  | _ => false
/-- only what is frozen is to be seen -/
def fro (sl : SL) : SL := sl.map fun t => if isF t then t else .hole
/-- everything frozen for a while -/
def brw (sl : SL) : SL := frzs sl
def atom : T → Bool
  | .non => true
  | .bl _ => true
  | .int _ => true
  | .str _ => true
  | _ => false
mutual
/-- nothing in it stood before -/
def flat : T → Bool
  | .non => true
  | .bl _ => true
  | .int _ => true
  | .str _ => true
  | .tup ts => flats ts
  | .lst true ts => flats ts
  | .lst false _ => false
  | .hole => false
  | .dct .. => false
  | .ins .. => false
def flats : List T → Bool
  | [] => true
  | t :: ts => flat t && flats ts
end
/-- read only -/
def bor2 (vs : List Nat) (f : SL → Option (T × SL)) (sl : SL) : Option T := if vs.all fun i => match sl[i]? with
    | some t => isF t
    | none => true
  then (f (fro sl)).bind fun r => some r.1
  else (f (brw sl)).bind fun r => if flat r.1 then some r.1 else none
mutual
/-- the names that are read -/
def vars : E → List Nat
  | .var i => [i]
  | .mov i => [i]
  | .cst _ => []
  | .glb _ _ => []
  | .op1 _ a => vars a
  | .op2 _ a b => vars a ++ vars b
  | .idx a b => vars a ++ vars b
  | .slc a b c => vars a ++ vars b ++ vars c
  | .fld a _ => vars a
  | .nt a => vars a
  | .an a b => vars a ++ vars b
  | .orr a b => vars a ++ vars b
  | .ite a b c => vars a ++ vars b ++ vars c
  | .chn a c => vars a ++ varsC c
  | .tup es => varsL es
  | .lst es => varsL es
  | .dnew => []
  | .dsp es => varsL es
  | .dget a k => vars a ++ vars k
  | .dget2 a k x => vars a ++ vars k ++ vars x
  | .call _ es => varsL es
  | .mk _ _ es => varsL es
  | .meth i _ es => i :: varsL es
  | .mut i _ es => i :: varsL es
  | .mutp a _ es => vars a ++ varsL es
  | .lc _ _ it c e => varsI it ++ vars c ++ vars e
  | .dc _ _ it c k e => varsI it ++ vars c ++ vars k ++ vars e
  | .bad => []
  | .frzp e pl => vars e ++ vars pl
def varsL : Es → List Nat
  | .nil => []
  | .cons e es => vars e ++ varsL es
def varsC : Ch → List Nat
  | .last _ e => vars e
  | .more _ e c => vars e ++ varsC c
def varsI : It → List Nat
  | .seq e => vars e
  | .rng1 a => vars a
  | .rng2 a b => vars a ++ vars b
  | .rng3 a b c => vars a ++ vars b ++ vars c
  | .enum e => vars e
  | .zip a b => vars a ++ vars b
  | .rev e => vars e
  | .var i => [i]
  | .vals e => vars e
  | .itms e => vars e
  | .valsv i => [i]
  | .itmsv i => [i]
  | .bad => []
end
/-- a part of a slice: left out (.cst .non), or an int -/
def partE : E → T → Option (Option Int)
  | .cst .non, _ => some none
  | _, .int i => some (some i)
  | _, _ => none
def cutT (ts : List T) (lo hi : Option Int) : List T := (ts.drop (HT.sIx ts.length 0 lo)).take (HT.sIx ts.length ts.length hi - HT.sIx ts.length 0 lo)
def sliceT : T → Option Int → Option Int → Option T
  | .lst _ ts, lo, hi => if isFs ts then some (.lst true (cutT ts lo hi)) else none
  | .tup ts, lo, hi => if isFs ts then some (.tup (cutT ts lo hi)) else none
  | _, _, _ => none
/-- may the operand's value be a part of the slots? -/
def over : E → Bool
  | .var _ => true
  | .fld a _ => over a
  | .idx a _ => over a
  | .frzp a _ => over a
  | .dget a _ => over a
  | .dget2 a _ _ => over a
  | _ => false
/-- the slot's value taken out -/
def look (sl : SL) (i : Nat) : Option T := match sl[i]? with
  | some .hole => none
  | some t => some t
  | none => none
def rngU (lo hi : Int) : List T := (List.range (hi - lo).toNat).map fun (k : Nat) => T.int (lo + (k : Int))
def rngD (lo hi : Int) : List T := (List.range (lo - hi).toNat).map fun (k : Nat) => T.int (lo + (k : Int) * -1)
def rngOk (lo hi : Int) : Bool := decide (-(2 ^ 60) ≤ lo) && decide (lo < 2 ^ 60) && decide (-(2 ^ 60) ≤ hi) && decide (hi < 2 ^ 60)
def okN (n : Nat) : Bool := decide (n < 10000000)
def mutT : MK → T → List T → Option (T × T)
  | .append, .lst true ts, [x] => if okN ts.length then some (.lst true (ts ++ [x]), .non) else none
  | .extend, .lst true ts, [.lst _ us] => if okN (ts.length + us.length) then some (.lst true (ts ++ us), .non) else none
  | .insert, .lst true ts, [.int i, x] => if decide (0 ≤ i) && decide (i < 2 ^ 62) && okN ts.length then some (.lst true (ts.take i.toNat ++ [x] ++ ts.drop i.toNat), .non) else none
  | .pop, .lst true ts, [] => (ts[ts.length - 1]?).map fun t => (.lst true ts.dropLast, t)
  | .popi, .lst true ts, [.int i] => if okN ts.length then (ixN ts.length i).bind fun j => (ts[j]?).map fun t => (.lst true (ts.eraseIdx j), t) else none
  | _, _, _ => none
/-- the receiver is what the method is of -/
def kindM : MK → T → Bool
  | .setdef, _ => false
  | .update, _ => false
  | _, .lst _ _ => true
  | _, _ => false
/-- the borrowed values put back -/
def back : List (Option Nat) → List T → SL → SL
  | some i :: bs, t :: ts, sl => back bs ts (sl.set i t)
  | none :: bs, _ :: ts, sl => back bs ts sl
  | _, _, sl => sl
/-- a turn of a comprehension -/
def lcGo (set : T → SL → Option SL) (cnd elt : SL → Option (T × SL)) (wipe : SL → SL) : List T → SL → List T → Option (List T × SL)
  | [], sl, acc => some (acc, sl)
  | x :: xs, sl, acc => (set x (wipe sl)).bind fun sl1 => (cnd sl1).bind fun r => match r.1 with
    | .bl true => (elt r.2).bind fun r2 => if okN acc.length then lcGo set cnd elt wipe xs r2.2 (acc ++ [r2.1]) else none
    | .bl false => lcGo set cnd elt wipe xs r.2 acc
    | _ => none
/-- a turn of a dict comprehension -/
def dcGo (set : T → SL → Option SL) (cnd key elt : SL → Option (T × SL)) (wipe : SL → SL) : List T → SL → List (List L2.Key) × List T → Option ((List (List L2.Key) × List T) × SL)
  | [], sl, acc => some (acc, sl)
  | x :: xs, sl, acc => (set x (wipe sl)).bind fun sl1 => (cnd sl1).bind fun r => match r.1 with
    | .bl true => (key r.2).bind fun rk => (keyT rk.1).bind fun k => (elt rk.2).bind fun r2 => if okN acc.1.length then dcGo set cnd key elt wipe xs r2.2 (putD acc.1 acc.2 [k] r2.1) else none
    | .bl false => dcGo set cnd key elt wipe xs r.2 acc
    | _ => none
def wipeS : List Nat → SL → SL
  | [], sl => sl
  | i :: is, sl => (wipeS is sl).set i .hole
/-- the block's own slots as they were -/
def restS (sl0 : SL) : List Nat → SL → SL
  | [], sl => sl
  | i :: is, sl => (restS sl0 is sl).set i (sl0.getD i .hole)
def ownOk (own : List Nat) (sl : SL) : Bool := own.all fun i => match sl[i]? with
  | some t => isF t || isHole t
  | none => true

/-- what the evaluator knows of the program: its defs, the methods of its classes, the attributes of its instances -/
structure Pg where
  cf : CF
  mt : Str → Str → Option Nat
  fd : Str → Str → Bool
def child (P : Pg) (t : T) (f : Str) : Option T := match t with
  | .ins _ c ns ts => if P.fd c f then (ns.idxOf? f).bind fun i => ts[i]? else none
  | _ => none

def setC (P : Pg) (t : T) (f : Str) (x : T) : Option T := match t with
  | .ins o c ns ts => if P.fd c f && decide (ns.length < 900) then (match ns.idxOf? f with
    | some i => some (.ins o c ns (ts.set i x))
    | none => some (.ins o c (ns ++ [f]) (ts ++ [x]))) else none
  | _ => none
def setNs : List Nat → List T → SL → Option SL
  | [], [], sl => some sl
  | i :: is, t :: ts, sl => setNs is ts (sl.set i t)
  | _, _, _ => none
def setG0 (P : Pg) : G0 → T → SL → Option SL
  | .nm i, t, sl => some (sl.set i t)
  | .tp is, .tup ts, sl => setNs is ts sl
  | .tp _, _, _ => none
  | .at r f, t, sl => (look sl r).bind fun z => match z with
    | .ins true c ns ts => (setC P z f t).bind fun z' => some (sl.set r z')
    | _ => none
def setGs (P : Pg) : List G0 → List T → SL → Option SL
  | [], [], sl => some sl
  | g :: gs, t :: ts, sl => (setG0 P g t sl).bind fun sl => setGs P gs ts sl
  | _, _, _ => none
def setG (P : Pg) : G → T → SL → Option SL
  | .one g, t, sl => setG0 P g t sl
  | .tp gs, .tup ts, sl => setGs P gs ts sl
  | .tp gs, .lst _ ts, sl => setGs P gs ts sl
  | .tp _, _, _ => none
/-- a dict that is walked: it is locked from there on -/
def dctT : T → Option (List (List L2.Key) × List T)
  | .dct .own false ks ts => some (ks, ts)
  | .dct .lok false ks ts => some (ks, ts)
  | _ => none
def itmT (ks : List (List L2.Key)) (ts : List T) : List T := List.zipWith (fun k t => .tup [unK (key1k k), t]) ks (frzs ts)
/-- what is walked, frozen -/
def items2 : T → Option (List T)
  | .tup ts => some (frzs ts)
  | .lst _ ts => some (frzs ts)
  | .dct .own false ks _ => some (ks.map fun k => unK (key1k k))
  | .dct .lok false ks _ => some (ks.map fun k => unK (key1k k))
  | _ => none
mutual
def ev (P : Pg) : Md → E → SL → Option (T × SL)
  | m, .var i, sl => (look sl i).bind fun t => match m with
    | .o => some (t, sl)
    | .e => some (frz t, sl.set i (frz t))
    | .t => (tru t).map fun b => (.bl b, sl)
  | m, .mov i, sl => (look sl i).bind fun t => fin m false t (sl.set i .hole)
  | m, .cst t, sl => fin m false t sl
  | m, .glb _ t, sl => fin m false t sl
  | m, .op1 o a, sl => (ev P .o a sl).bind fun r => (op1 o r.1).bind fun t => fin m false t r.2
  | m, .op2 o a b, sl => (ev P .o a sl).bind fun r =>
      (if over a && !isF r.1 then (ev P .o b (brw r.2)).bind fun r2 => if atom r2.1 then some (r2.1, r.2) else none else ev P .o b r.2).bind fun r2 =>
      (op2 o r.1 r2.1).bind fun t => fin m false t r2.2
  | m, .idx a b, sl => (ev P .o a sl).bind fun r =>
      (if over a && !isF r.1 then (ev P .o b (brw r.2)).bind fun r2 => if atom r2.1 then some (r2.1, r.2) else none else ev P .o b r.2).bind fun r2 =>
      (idxT r.1 r2.1).bind fun t => fin m true t r2.2
  | m, .slc a b c, sl => (ev P .o a sl).bind fun r => (ev P .o b (brw r.2)).bind fun x => (ev P .o c (brw r.2)).bind fun y => (partE b x.1).bind fun lo => (partE c y.1).bind fun hi => (sliceT r.1 lo hi).bind fun t => fin m false t r.2
  | m, .bad, sl => none
  | .e, .frzp e pl, sl => (ev P .o e sl).bind fun r => if isF r.1 then some r else (plc P pl sl).bind fun z => some (frz z.1, z.2 (frz z.1))
  | m, .frzp e pl, sl => ev P m e sl
  | m, .fld a f, sl => (ev P .o a sl).bind fun r => (child P r.1 f).bind fun t => fin m true t r.2
  | .t, .nt a, sl => (ev P .t a sl).bind fun r => match r.1 with
    | .bl b => some (.bl (!b), r.2)
    | _ => none
  | _, .nt a, sl => (ev P .o a sl).bind fun r => (tru r.1).bind fun b => some (.bl (!b), r.2)
  | .t, .an a b, sl => (ev P .t a sl).bind fun r => match r.1 with
    | .bl true => ev P .t b r.2
    | .bl false => some (.bl false, r.2)
    | _ => none
  | _, .an a b, sl => (ev P .e a sl).bind fun r => (tru r.1).bind fun k => if k then ev P .e b r.2 else some r
  | .t, .orr a b, sl => (ev P .t a sl).bind fun r => match r.1 with
    | .bl true => some (.bl true, r.2)
    | .bl false => ev P .t b r.2
    | _ => none
  | _, .orr a b, sl => (ev P .e a sl).bind fun r => (tru r.1).bind fun k => if k then some r else ev P .e b r.2
  | .t, .ite c a b, sl => none
  | _, .ite c a b, sl => (ev P .t c sl).bind fun r => match r.1 with
    | .bl true => ev P .e a r.2
    | .bl false => ev P .e b r.2
    | _ => none
  | m, .chn a c, sl => (ev P .e a sl).bind fun r => (evC P r.1 c r.2).bind fun z => match z.1 with
    | .bl b => some (.bl b, z.2)
    | _ => none
  | m, .tup es, sl => (evL P es sl).bind fun r => if okN r.1.length then fin m false (.tup r.1) r.2 else none
  | m, .lst es, sl => (evL P es sl).bind fun r => if okN r.1.length then fin m false (.lst true r.1) r.2 else none
  | m, .dnew, sl => fin m false (.dct .own false [] []) sl
  | m, .dsp es, sl => (evL P es sl).bind fun r => (altT r.1).bind fun ps => if decide (ps.length ≤ 15) && !ps.isEmpty then (let z := mrgD ps ([], []); fin m false (.dct .own false z.1 z.2) r.2) else none
  | m, .dget a b, sl => (ev P .o a sl).bind fun r =>
      (if over a && !isF r.1 then (ev P .o b (brw r.2)).bind fun r2 => if atom r2.1 then some (r2.1, r.2) else none else ev P .o b r.2).bind fun r2 =>
      (getD r.1 r2.1).bind fun t => match t with
      | some t => fin m true t r2.2
      | none => fin m false .non r2.2
  | m, .dget2 a b x, sl => (ev P .o a sl).bind fun r =>
      (ev P .o b (brw r.2)).bind fun r2 => if atom r2.1 then (ev P .e x (brw r.2)).bind fun r3 => if flat r3.1 then
      (getD r.1 r2.1).bind fun t => (match t with
      | some t => fin m true t r.2
      | none => fin m false r3.1 r.2) else none else none
  | m, .call f es, sl => (evA P es sl).bind fun r => (P.cf f r.1).bind fun z => fin m false z.1 (back r.2.1 z.2 r.2.2)
  | m, .mk c f es, sl => (evA P es sl).bind fun r => (P.cf f (.ins true c [] [] :: r.1)).bind fun z => match z with
    | (.non, t :: ts) => fin m false t (back r.2.1 ts r.2.2)
    | _ => none
  | m, .meth i q es, sl => (look sl i).bind fun t0 => match t0 with
    | .ins _ c0 ns0 _ => if ns0.contains q then none else (P.mt c0 q).bind fun f => (evA P es sl).bind fun r => (look r.2.2 i).bind fun t =>
      if isF t then (P.cf f (t :: r.1)).bind fun z => match z.2 with
        | _ :: ts' => fin m false z.1 (back r.2.1 ts' r.2.2)
        | [] => none
      else (P.cf f (t :: r.1)).bind fun z => fin m false z.1 (back (some i :: r.2.1) z.2 (r.2.2.set i .hole))
    | _ => none
  | m, .mut i q es, sl => (look sl i).bind fun t0 => if kindM q t0 then (evL P es sl).bind fun r => (look r.2 i).bind fun t => (mutT q t r.1).bind fun z => fin m false z.2 (r.2.set i z.1) else none
  | m, .mutp pl q es, sl => (plc P pl sl).bind fun y => if kindM q y.1 then (evBs P es sl).bind fun us => (mutT q y.1 us).bind fun z => fin m false z.2 (y.2 z.1) else none
  | m, .lc own g it c elt, sl => (evI P it sl).bind fun r => if ownOk own r.2 then
      (lcGo (setG P g) (ev P .t c) (ev P .e elt) (wipeS own) r.1 r.2 []).bind fun z => fin m false (.lst true z.1) (restS r.2 own (wipeS own z.2)) else none
  | m, .dc own g it c k elt, sl => (evI P it sl).bind fun r => if ownOk own r.2 then
      (dcGo (setG P g) (ev P .t c) (ev P .e k) (ev P .e elt) (wipeS own) r.1 r.2 ([], [])).bind fun z => fin m false (.dct .own false z.1.1 z.1.2) (restS r.2 own (wipeS own z.2)) else none
/-- read only, in a row -/
def evBs (P : Pg) : Es → SL → Option (List T)
  | .nil, _ => some []
  | .cons e es, sl => (bor2 (vars e) (ev P .e e) sl).bind fun t => (evBs P es sl).bind fun ts => some (t :: ts)
/-- a chain of comparisons, the value to its left -/
def evC (P : Pg) : T → Ch → SL → Option (T × SL)
  | t, .last o e, sl => (ev P .e e sl).bind fun r => (op2 o t r.1).bind fun z => some (z, r.2)
  | t, .more o e c, sl => (ev P .e e sl).bind fun r => (op2 o t r.1).bind fun z => match z with
    | .bl true => evC P r.1 c r.2
    | .bl false => some (.bl false, r.2)
    | _ => none
def evL (P : Pg) : Es → SL → Option (List T × SL)
  | .nil, sl => some ([], sl)
  | .cons e es, sl => (ev P .e e sl).bind fun r => (evL P es r.2).bind fun r2 => some (r.1 :: r2.1, r2.2)
/-- arguments: a name whose value is owned is lent -/
def evA (P : Pg) : Es → SL → Option (List T × List (Option Nat) × SL)
  | .nil, sl => some ([], [], sl)
  | .cons (.var i) es, sl => (look sl i).bind fun t => if isF t then (evA P es sl).bind fun r => some (t :: r.1, none :: r.2.1, r.2.2)
      else (evA P es (sl.set i .hole)).bind fun r => some (t :: r.1, some i :: r.2.1, r.2.2)
  | .cons e es, sl => (ev P .e e sl).bind fun r => (evA P es r.2).bind fun r2 => some (r.1 :: r2.1, none :: r2.2.1, r2.2.2)
/-- a place: what stands there, and the slots with another value there -/
def plc (P : Pg) : E → SL → Option (T × (T → SL))
  | .var i, sl => (look sl i).bind fun t => some (t, fun u => sl.set i u)
  | .fld a f, sl => (plc P a sl).bind fun z => match z.1 with
    | .ins o c ns ts => if P.fd c f then (ns.idxOf? f).bind fun j => (ts[j]?).bind fun t => some (t, fun u => z.2 (.ins o c ns (ts.set j u))) else none
    | _ => none
  | .idx a b, sl => (plc P a sl).bind fun z => (ev P .o b (brw sl)).bind fun y => match z.1, y.1 with
    | .lst o ts, .int i => (ixN ts.length i).bind fun j => (ts[j]?).bind fun t => some (t, fun u => z.2 (.lst o (ts.set j u)))
    | .tup ts, .int i => (ixN ts.length i).bind fun j => (ts[j]?).bind fun t => some (t, fun u => z.2 (.tup (ts.set j u)))
    | _, _ => none
  | _, _ => none
/-- what is walked, frozen -/
def evI (P : Pg) : It → SL → Option (List T × SL)
  | .seq e, sl => (ev P .e e sl).bind fun r => (items2 r.1).bind fun ts => some (ts, r.2)
  | .vals e, sl => (ev P .e e sl).bind fun r => (dctT r.1).bind fun z => some (frzs z.2, r.2)
  | .itms e, sl => (ev P .e e sl).bind fun r => (dctT r.1).bind fun z => some (itmT z.1 z.2, r.2)
  | .var i, sl => (look sl i).bind fun t => match t with
    | .dct .own false ks ts => some (ks.map fun k => unK (key1k k), sl.set i (.dct .lok false ks (frzs ts)))
    | t => (items2 t).bind fun ts => some (ts, sl.set i (frz t))
  | .valsv i, sl => (look sl i).bind fun t => (dctT t).bind fun z => some (frzs z.2, sl.set i (.dct .lok false z.1 (frzs z.2)))
  | .itmsv i, sl => (look sl i).bind fun t => (dctT t).bind fun z => some (itmT z.1 z.2, sl.set i (.dct .lok false z.1 (frzs z.2)))
  | .rng1 a, sl => (ev P .e a sl).bind fun r => match r.1 with
    | .int n => if rngOk 0 n then some (rngU 0 n, r.2) else none
    | _ => none
  | .rng2 a b, sl => (ev P .e a sl).bind fun r => (ev P .e b r.2).bind fun r2 => match r.1, r2.1 with
    | .int n, .int k => if rngOk n k then some (rngU n k, r2.2) else none
    | _, _ => none
  | .rng3 a b c, sl => (ev P .e a sl).bind fun r => (ev P .e b r.2).bind fun r2 => (ev P .e c r2.2).bind fun r3 => match r.1, r2.1, r3.1 with
    | .int n, .int k, .int j => if rngOk n k && decide (j = -1) then some (rngD n k, r3.2) else none
    | _, _, _ => none
  | .enum e, sl => (ev P .e e sl).bind fun r => match r.1 with
    | .lst _ ts => some ((frzs ts).mapIdx fun i t => .tup [.int (i : Nat), t], r.2)
    | _ => none
  | .zip a b, sl => (ev P .e a sl).bind fun r => (ev P .e b r.2).bind fun r2 => match r.1, r2.1 with
    | .lst _ ts, .lst _ us => some (List.zipWith (fun t u => .tup [t, u]) (frzs ts) (frzs us), r2.2)
    | .tup ts, .tup us => some (List.zipWith (fun t u => .tup [t, u]) (frzs ts) (frzs us), r2.2)
    | _, _ => none
  | .bad, sl => none
  | .rev e, sl => (ev P .e e sl).bind fun r => (items r.1).bind fun ts => some ((frzs ts).reverse, r.2)
end

inductive Fl where
  | nx | rt (t : T) | bk | ct
abbrev Out := Option (Fl × SL)
def whlGo (c : SL → Option (T × SL)) (b : SL → Out) : Nat → SL → Out
  | 0, _ => none
  | n + 1, sl => (c sl).bind fun r => match r.1 with
    | .bl true => (b r.2).bind fun z => match z.1 with
      | .nx => whlGo c b n z.2
      | .ct => whlGo c b n z.2
      | .bk => some (.nx, z.2)
      | .rt t => some (.rt t, z.2)
    | .bl false => some (.nx, r.2)
    | _ => none
def forGo (set : T → SL → Option SL) (b : SL → Out) : List T → SL → Out
  | [], sl => some (.nx, sl)
  | x :: xs, sl => (set x sl).bind fun sl1 => (b sl1).bind fun z => match z.1 with
      | .nx => forGo set b xs z.2
      | .ct => forGo set b xs z.2
      | .bk => some (.nx, z.2)
      | .rt t => some (.rt t, z.2)
def fuel : Nat := 1000000
mutual
def evS (P : Pg) : S → SL → Out
  | .asg g e, sl => (ev P .e e sl).bind fun r => (setG P g r.1 r.2).bind fun sl => some (.nx, sl)
  | .par is es, sl => (evL P es sl).bind fun r => (setNs is r.1 r.2).bind fun sl => some (.nx, sl)
  | .aug i o e, sl => (look sl i).bind fun t => (ev P .e e sl).bind fun r => (iop o t r.1).bind fun z => some (.nx, r.2.set i z)
  | .faug r f o e, sl => (look sl r).bind fun t => match t with
    | .ins true c ns ts => (child P t f).bind fun x => (ev P .o e (brw sl)).bind fun z => (iop o x z.1).bind fun y => (setC P t f y).bind fun t' => some (.nx, sl.set r t')
    | _ => none
  | .pst pl k e, sl => (ev P .e e sl).bind fun z => (plc P pl z.2).bind fun y => (ev P .o k (brw z.2)).bind fun zk => match y.1, zk.1 with
    | .lst true ts, .int i => (ixN ts.length i).bind fun j => some (.nx, y.2 (.lst true (ts.set j z.1)))
    | .dct .own false ks ts, k => (keyT k).bind fun k => if okN ks.length then (let w := putD ks ts [k] z.1; some (.nx, y.2 (.dct .own false w.1 w.2))) else none
    | _, _ => none
  | .paug pl k o e, sl => (plc P pl sl).bind fun y => (ev P .o k (brw sl)).bind fun zk => match y.1, zk.1 with
    | .lst true ts, .int i => (ixN ts.length i).bind fun j => (ts[j]?).bind fun x => (ev P .o e (brw sl)).bind fun z => (iop o x z.1).bind fun w => some (.nx, y.2 (.lst true (ts.set j w)))
    | _, _ => none
  | .exp e, sl => (ev P .e e sl).bind fun r => some (.nx, r.2)
  | .ret e, sl => (ev P .e e sl).bind fun r => some (.rt r.1, r.2)
  | .retn, sl => some (.rt .non, sl)
  | .pass, sl => some (.nx, sl)
  | .bad, sl => none
  | .brk, sl => some (.bk, sl)
  | .cnt, sl => some (.ct, sl)
  | .iff c a b, sl => (ev P .t c sl).bind fun r => match r.1 with
    | .bl true => evSs P a r.2
    | .bl false => evSs P b r.2
    | _ => none
  | .whl c a, sl => whlGo (ev P .t c) (evSs P a) fuel sl
  | .forr g it a, sl => (evI P it sl).bind fun r => forGo (setG P g) (evSs P a) r.1 r.2
def evSs (P : Pg) : Ss → SL → Out
  | .nil, sl => some (.nx, sl)
  | .cons s ss, sl => (evS P s sl).bind fun z => match z.1 with
    | .nx => evSs P ss z.2
    | _ => some z
end
def stG0 : G0 → List Nat
  | .nm i => [i]
  | .tp is => is
  | .at _ _ => []
def stG : G → List Nat
  | .one g => stG0 g
  | .tp gs => gs.flatMap stG0
mutual
/-- the slots that are stored -/
def stS : S → List Nat
  | .asg g _ => stG g
  | .par is _ => is
  | .aug i _ _ => [i]
  | .iff _ a b => stSs a ++ stSs b
  | .whl _ a => stSs a
  | .forr g _ a => stG g ++ stSs a
  | _ => []
def stSs : Ss → List Nat
  | .nil => []
  | .cons s ss => stS s ++ stSs ss
end
/-- a def: parameters, slots, the parameters that it never stores, its body -/
structure Fn where
  np : Nat
  ns : Nat
  st : List Nat
  body : Ss
def runF (P : Pg) (f : Fn) (ts : List T) : Option (T × List T) := if ts.length = f.np then
    (evSs P f.body (ts ++ List.replicate (f.ns - f.np) .hole)).bind fun z => match z.1 with
      | .rt t => some (t, (wipeS f.st z.2).take f.np)
      | .nx => some (.non, (wipeS f.st z.2).take f.np)
      | _ => none
  else none
structure Prg where
  fns : List Fn
  mt : List ((Str × Str) × Nat)
  fd : List (Str × Str)
def callF (R : Prg) : Nat → CF
  | 0, _, _ => none
  | n + 1, f, ts => (R.fns[f]?).bind fun fn => runF ⟨callF R n, fun c m => R.mt.lookup (c, m), fun c f => R.fd.contains (c, f)⟩ fn ts
end Pv

/-! The slots and the abstract heap; what the evaluator says as a reading. -/
namespace Pv
open PySem L2
section
variable {K : PySem.W.Frag} {F F' H H' : Hp} {σ : L2.St} {sl sl' : SL} {p p' q r : FP}
/-! ### weaker readings -/
section
variable {X : Cx}
theorem pe_any {e : Expr} {t' : TE} (h : ∀ σ H Q, t' σ H Q → ∃ t, PE X e t ∧ t σ H Q) : PE X e t' := ⟨fun pins s σ H Q I w => let ⟨t, h1, h2⟩ := h σ H Q w; h1.run pins s σ H Q I h2⟩
theorem pe_imp {e : Expr} {t t' : TE} (h1 : PE X e t) (h : ∀ σ H Q, t' σ H Q → t σ H Q) : PE X e t' := ⟨fun pins s σ H Q I w => h1.run pins s σ H Q I (h σ H Q w)⟩
theorem pt_imp {e : Expr} {t t' : TT} (h1 : PT X e t) (h : ∀ σ H Q, t' σ H Q → t σ H Q) : PT X e t' := ⟨fun pins s σ H Q I w => h1.run pins s σ H Q I (h σ H Q w)⟩
theorem pa_imp {e : List Expr} {t t' : TA} (h1 : PA X e t) (h : ∀ σ H Q, t' σ H Q → t σ H Q) : PA X e t' := ⟨fun pos pins s σ H Q I w => h1.run pos pins s σ H Q I (h σ H Q w)⟩
theorem ps_imp {e : Stmt} {t t' : TS} (h1 : PS X e t) (h : ∀ D σ H, t' D σ H → t D σ H) : PS X e t' := ⟨fun pins s σ H D I w => h1.run pins s σ H D I (h D σ H w)⟩
theorem ps_any {e : Stmt} {t' : TS} (h : ∀ D σ H, t' D σ H → ∃ t, PS X e t ∧ t D σ H) : PS X e t' := ⟨fun pins s σ H D I w => let ⟨t, h1, h2⟩ := h D σ H w; h1.run pins s σ H D I h2⟩
theorem pss_imp {e : List Stmt} {t t' : TS} (h1 : PSs X e t) (h : ∀ D σ H, t' D σ H → t D σ H) : PSs X e t' := ⟨fun pins s σ H D I w => h1.run pins s σ H D I (h D σ H w)⟩
theorem pi_any {tg e : Expr} {t' : TI} (h : ∀ σ H Q, t' σ H Q → ∃ t, PI X tg e t ∧ t σ H Q) : PI X tg e t' := ⟨fun pins s σ H Q I w => let ⟨t, h1, h2⟩ := h σ H Q w; h1.run pins s σ H Q I h2⟩
theorem pi_imp {tg e : Expr} {t t' : TI} (h1 : PI X tg e t) (h : ∀ σ H Q, t' σ H Q → t σ H Q) : PI X tg e t' := ⟨fun pins s σ H Q I w => h1.run pins s σ H Q I (h σ H Q w)⟩
theorem pg_any {e : Expr} {t' : TG} (h : ∀ v σ H Q, t' v σ H Q → ∃ t, PG X e t ∧ t v σ H Q) : PG X e t' := ⟨fun pins s σ H v u Q I r w => let ⟨t, h1, h2⟩ := h v σ H Q w; h1.run pins s σ H v u Q I r h2⟩
theorem opr_any {f : Value → Value → Sem Value} {r' : R2} (h : ∀ x y H Q, r' x y H Q → ∃ r, OpR X f r ∧ r x y H Q) : OpR X f r' := fun pins s σ H x y v u Q I rx ry w => let ⟨r, h1, h2⟩ := h x y H Q w; h1 pins s σ H x y v u Q I rx ry h2
theorem unr_any {f : Value → Sem Value} {r' : V → Hp → VK → Prop} (h : ∀ x H Q, r' x H Q → ∃ r, UnR X f r ∧ r x H Q) : UnR X f r' := fun pins s σ H x v Q I rx w => let ⟨r, h1, h2⟩ := h x H Q w; h1 pins s σ H x v Q I rx h2
theorem callr_any {f : Value} {r' : List V → Hp → VK → Prop} (h : ∀ x H Q, r' x H Q → ∃ r, CallR X f r ∧ r x H Q) : CallR X f r' := fun pins s σ H x v Q I rx w => let ⟨r, h1, h2⟩ := h x H Q w; h1 pins s σ H x v Q I rx h2
end

/-! ### slots -/
def SlR (K : PySem.W.Frag) (F H : Hp) (sl : SL) (σ : L2.St) (p : FP) : Prop :=
  ∃ vs : List V, Reps K F H sl vs p ∧ sl.length = σ.length ∧ ∀ (i : Nat) (t : T) (v : V), sl[i]? = some t → isHole t = false → vs[i]? = some v → σ[i]? = some (some v)
theorem isHole_eq {t : T} (h : isHole t = true) : t = .hole := by
  cases t <;> first | rfl | cases h
theorem look_some {i : Nat} {t : T} (h : look sl i = some t) : sl[i]? = some t ∧ isHole t = false := by
  unfold look at h
  cases e : sl[i]? with
  | none => rw [e] at h; cases h
  | some u =>
    rw [e] at h
    cases u <;> first | (cases h; done) | (cases h; exact ⟨rfl, rfl⟩)
theorem SlR.own (s : SlR K F H sl σ p) : ∀ a, p a → F a = none ∧ ∃ o, H a = some o := let ⟨_, h, _⟩ := s; h.own
theorem SlR.cg (s : SlR K F H sl σ p) (h : ∀ a, p a ↔ q a) : SlR K F H sl σ q := let ⟨vs, a, b⟩ := s; ⟨vs, a.cg h, b⟩
theorem SlR.frame (s : SlR K F H sl σ p) (ex : Ex F F') (h : ∀ a, p a → F' a = none ∧ H' a = H a) : SlR K F' H' sl σ p := let ⟨vs, a, b⟩ := s; ⟨vs, a.frame ex h, b⟩
theorem SlR.len (s : SlR K F H sl σ p) : sl.length = σ.length := s.choose_spec.2.1
/-- a slot's value is taken out -/
theorem SlR.take {i : Nat} {t : T} (s : SlR K F H sl σ p) (h : look sl i = some t) :
    ∃ v q r, σ[i]? = some (some v) ∧ Rep K F H t v q ∧ Dj q r ∧ (∀ b, p b ↔ q b ∨ r b) ∧ SlR K F H (sl.set i .hole) σ r := by
  obtain ⟨vs, R, l, ag⟩ := s
  obtain ⟨h1, h2⟩ := look_some h
  obtain ⟨v, q, r, e1, r1, dj, e2, r2⟩ := R.focus h1
  refine ⟨v, q, r, ag i t v h1 h2 e1, r1, dj, e2, vs, r2, by simpa using l, fun j u w g1 g2 g3 => ?_⟩
  by_cases hj : i = j
  · subst hj
    have hi : i < sl.length := (List.getElem?_eq_some_iff.mp h1).1
    rw [List.getElem?_set_self hi] at g1
    cases g1; cases g2
  · rw [List.getElem?_set_ne hj] at g1
    exact ag j u w g1 g2 g3
/-- .. and put back -/
theorem SlR.put {i : Nat} {t : T} {v : V} (s : SlR K F H sl σ r) (h : sl[i]? = some .hole) (hv : σ[i]? = some (some v)) (ht : Rep K F H t v q) (dj : Dj q r) : SlR K F H (sl.set i t) σ (fun b => q b ∨ r b) := by
  obtain ⟨vs, R, l, ag⟩ := s
  refine ⟨vs.set i v, R.put h ht dj, by simpa using l, fun j u w g1 g2 g3 => ?_⟩
  have hi : i < sl.length := (List.getElem?_eq_some_iff.mp h).1
  by_cases hj : i = j
  · subst hj
    have hi2 : i < vs.length := by rw [← R.length]; exact hi
    rw [List.getElem?_set_self hi2] at g3
    cases g3; exact hv
  · rw [List.getElem?_set_ne hj] at g1 g3
    exact ag j u w g1 g2 g3
theorem SlR.peek {i : Nat} {t : T} (s : SlR K F H sl σ p) (h : look sl i = some t) : ∃ v q, σ[i]? = some (some v) ∧ Rep K F H t v q ∧ ∀ a, q a → p a := by
  obtain ⟨v, q, r, e, h1, _, h2, _⟩ := s.take h
  exact ⟨v, q, e, h1, fun a x => (h2 a).mpr (.inl x)⟩
theorem set_hole_put {i : Nat} {t : T} (h : look sl i = some t) : (sl.set i .hole)[i]? = some .hole := by
  rw [List.getElem?_set_self (List.getElem?_eq_some_iff.mp (look_some h).1).1]
/-- what stood in a slot is forgotten, whatever is stored there -/
theorem SlR.drop (s : SlR K F H sl σ p) (i : Nat) (x : Option V) : ∃ r, (∀ a, r a → p a) ∧ SlR K F H (sl.set i .hole) (σ.set i x) r := by
  obtain ⟨vs, R, l, ag⟩ := s
  by_cases hi : i < sl.length
  · obtain ⟨t, ht⟩ : ∃ t, sl[i]? = some t := ⟨sl[i], by simp [hi]⟩
    obtain ⟨v, q, r, e1, r1, dj, e2, r2⟩ := R.focus ht
    refine ⟨r, fun a x => (e2 a).mpr (.inr x), vs, r2, by simpa using l, fun j u w g1 g2 g3 => ?_⟩
    by_cases hj : i = j
    · subst hj
      rw [List.getElem?_set_self hi] at g1
      cases g1; cases g2
    · rw [List.getElem?_set_ne hj] at g1 ⊢
      exact ag j u w g1 g2 g3
  · have e1 : sl.set i .hole = sl := List.set_eq_of_length_le (by omega)
    have e2 : σ.set i x = σ := List.set_eq_of_length_le (by omega)
    rw [e1, e2]
    exact ⟨p, fun _ x => x, vs, R, l, ag⟩
theorem SlR.put2 {i : Nat} {t : T} {v : V} (s : SlR K F H (sl.set i .hole) (σ.set i (some v)) r) (hi : i < sl.length) (ht : Rep K F H t v q) (dj : Dj q r) : SlR K F H (sl.set i t) (σ.set i (some v)) (fun b => q b ∨ r b) := by
  have l := s.len
  have z := s.put (i := i) (t := t) (v := v) (q := q) (by rw [List.getElem?_set_self hi]) (by rw [List.getElem?_set_self (by simp at l; omega)]) ht dj
  rw [List.set_set] at z
  exact z
/-- only what is frozen -/
theorem Reps.fro : ∀ {sl : List T} {vs p}, Reps K F H sl vs p → Reps K F H (fro sl) vs nop
  | _, _, _, .nil e => .nil fun _ x => x
  | t :: _, _, _, .cons h hs d e => by
    have ih := Reps.fro hs
    show Reps K F H ((if isF t then t else .hole) :: Pv.fro _) _ _
    refine .cons (p := nop) ?_ ih (fun _ x => x.elim) fun b => ⟨fun x => x.elim, fun x => x.elim id id⟩
    by_cases f : isF t = true
    · rw [if_pos f]; exact h.cg fun b => ⟨fun x => h.of_isF f b x, fun x => x.elim⟩
    · rw [if_neg f]; exact .hole fun _ x => x
theorem SlR.fro (s : SlR K F H sl σ p) : SlR K F H (fro sl) σ nop := by
  obtain ⟨vs, R, l, ag⟩ := s
  refine ⟨vs, R.fro, by simpa [Pv.fro] using l, fun j u w g1 g2 g3 => ?_⟩
  unfold Pv.fro at g1
  rw [List.getElem?_map] at g1
  cases e : sl[j]? with
  | none => rw [e] at g1; cases g1
  | some t =>
    rw [e] at g1
    by_cases f : isF t = true
    · simp [f] at g1; subst g1
      exact ag j t w e (by cases t <;> first | rfl | (simp [isF] at f)) g3
    · simp [f] at g1; subst g1; cases g2

/-! ### reading values -/
theorem Rep.seqL {o : Bool} {ts : List T} {v : V} (h : Rep K F H (.lst o ts) v p) (ex : Ex F H) : ∃ a xs q, v = .ref a ∧ Rd H a (.lst xs) ∧ Reps K F H ts xs q ∧ (∀ b, q b → p b) ∧ (o = true → H a = some (.lst xs) ∧ p a ∧ F a = none ∧ ¬ q a ∧ ∀ b, p b ↔ b = a ∨ q b) := by
  cases h with
  | lstF s r => exact ⟨_, _, _, rfl, Evl.ex_rd ex s, r, fun _ x => x, fun z => by cases z⟩
  | lstO n h r d e => exact ⟨_, _, _, rfl, .inl h, r, fun b x => (e b).mpr (.inr x), fun _ => ⟨h, (e _).mpr (.inl rfl), n, d, e⟩⟩
theorem Rep.seqT {ts : List T} {v : V} (h : Rep K F H (.tup ts) v p) (ex : Ex F H) : ∃ a xs, v = .ref a ∧ SqT K H a xs ∧ Reps K F H ts xs p := by
  cases h with
  | tup s r => exact ⟨_, _, rfl, Evl.ex_t ex s, r⟩
theorem Rep.int' {i : Int} {v : V} (h : Rep K F H (.int i) v p) : v = .int i ∧ ∀ a, ¬ p a := by cases h with | int e => exact ⟨rfl, e⟩
theorem Rep.bl' {i : Bool} {v : V} (h : Rep K F H (.bl i) v p) : v = .bl i ∧ ∀ a, ¬ p a := by cases h with | bl e => exact ⟨rfl, e⟩
theorem Rep.str' {i : Str} {v : V} (h : Rep K F H (.str i) v p) : v = .str i ∧ ∀ a, ¬ p a := by cases h with | str e => exact ⟨rfl, e⟩
theorem Rep.non' {v : V} (h : Rep K F H .non v p) : v = .non ∧ ∀ a, ¬ p a := by cases h with | non e => exact ⟨rfl, e⟩
/-- at one place of a row: the value there -/
theorem Reps.at_ {ts : List T} {xs : List V} (h : Reps K F H ts xs p) {i : Nat} {t : T} (g : ts[i]? = some t) : ∃ v q, xs[i]? = some v ∧ Rep K F H t v q ∧ ∀ a, q a → p a := by
  obtain ⟨v, q, r, e1, r1, _, e2, _⟩ := h.focus g
  exact ⟨v, q, e1, r1, fun a x => (e2 a).mpr (.inl x)⟩
theorem truV {t : T} {v : V} {b : Bool} (h : Rep K F H t v p) (ex : Ex F H) (e : tru t = some b) : TruV K v H b := by
  cases t with
  | hole => cases e
  | non => obtain ⟨rfl, _⟩ := h.non'; cases e; rfl
  | bl c => obtain ⟨rfl, _⟩ := h.bl'; cases e; rfl
  | int i => obtain ⟨rfl, _⟩ := h.int'; cases e; rfl
  | str x =>
    obtain ⟨rfl, _⟩ := h.str'
    have e' : (if x.length ≤ sizeLine then some (x.length != 0) else none) = some b := e
    by_cases hz : x.length ≤ sizeLine
    · rw [if_pos hz] at e'
      cases e'
      refine ⟨hz, ?_⟩
      by_cases hx : x.length = 0
      · rw [hx]; rfl
      · have h2 : (x.length : Int) ≠ 0 := by omega
        rw [bne_iff_ne.mpr hx, bne_iff_ne.mpr h2]
    · rw [if_neg hz] at e'; cases e'
  | tup ts =>
    obtain ⟨a, xs, rfl, s, r⟩ := h.seqT ex
    cases e
    refine .inr (.inl ⟨xs, s, ?_⟩)
    have := r.length
    cases ts <;> cases xs <;> first | rfl | cases this
  | lst o ts =>
    obtain ⟨a, xs, q, rfl, s, r, _⟩ := h.seqL ex
    cases e
    refine .inl ⟨xs, .inl s, ?_⟩
    have := r.length
    cases ts <;> cases xs <;> first | rfl | cases this
  | dct o kd ks ts =>
    cases kd with
    | true => cases o <;> cases e
    | false =>
      have main : ∀ {a : Addr} {xs : List V}, H a = some (dho false ks xs) → DW false ks xs.length → TruV K (.ref a) H (!ks.isEmpty) := fun {a xs} h w => by
        refine .inr (.inr ⟨(ks.map key1).zip xs, h, ?_⟩)
        have := w.len
        cases ks <;> cases xs <;> first | rfl | cases this
      cases o with
      | lok => cases e
      | own => cases e; cases h with | dctO n h w r d e => exact main h w
      | frz => cases e; cases h with | dctF h w r => exact main (ex _ _ h) w
  | ins o c ns ts => cases e
end
end Pv

/-! Dicts by their keys and values. -/
namespace Pv
open PySem L2
theorem keyT_kV {K : PySem.W.Frag} {F H : Hp} {t : T} {v : V} {p : FP} {k : Key} (R : Rep K F H t v p) (h : keyT t = some k) : v = kV k ∧ atom t = true ∧ t = unK k := by
  cases t <;> first | (cases h; done) | skip
  · cases h; exact ⟨R.int'.1, rfl, rfl⟩
  · cases h; exact ⟨R.str'.1, rfl, rfl⟩
theorem rep_unK {K : PySem.W.Frag} {F H : Hp} (k : Key) : Rep K F H (unK k) (kV k) nop := by
  cases k
  · exact .int fun _ x => x
  · exact .str fun _ x => x
theorem keyT_unK (k : Key) : keyT (unK k) = some k := by cases k <;> rfl
theorem one_cons {k : List Key} {ks : List (List Key)} (h : ∀ j ∈ k :: ks, ∃ x, j = [x]) : (∃ x, k = [x]) ∧ ∀ j ∈ ks, ∃ x, j = [x] := ⟨h k List.mem_cons_self, fun j m => h j (List.mem_cons_of_mem _ m)⟩
theorem idx_cons1 {x y : Key} {ks : List (List Key)} : ([x] :: ks).idxOf? [y] = if x = y then some 0 else (ks.idxOf? [y]).map (· + 1) := by
  rw [List.idxOf?_cons]
  by_cases h : x = y
  · subst h; simp
  · have : ([x] == [y]) = false := by simpa using h
    rw [this, if_neg h]; simp
theorem valV_zip : ∀ {ks : List (List Key)} {xs : List V}, (∀ k ∈ ks, ∃ x, k = [x]) → ks.length = xs.length → ∀ k : Key, valV ((ks.map key1).zip xs) k = (ks.idxOf? [k]).bind fun i => xs[i]?
  | [], [], _, _, k => rfl
  | [], _ :: _, _, h, _ => by cases h
  | _ :: _, [], _, h, _ => by cases h
  | k0 :: ks, x :: xs, one, hl, k => by
    obtain ⟨⟨y, rfl⟩, o2⟩ := one_cons one
    have ih := valV_zip o2 (by simpa using hl) k
    show valV ((y, x) :: (ks.map key1).zip xs) k = _
    rw [idx_cons1]
    by_cases h : y = k
    · rw [valV_pos (p := (y, x)) h, if_pos h]; rfl
    · rw [valV_neg (p := (y, x)) h, if_neg h, ih]
      cases ks.idxOf? [k] <;> rfl
theorem some_idx {ks : List (List Key)} {k : List Key} {i : Nat} (h : ks.idxOf? k = some i) : i < ks.length ∧ ks[i]? = some k := by
  obtain ⟨h1, h2, _⟩ := List.idxOf?_eq_some_iff.mp h
  exact ⟨h1, by rw [List.getElem?_eq_getElem h1, h2]⟩
theorem none_idx {ks : List (List Key)} {k : List Key} (h : ks.idxOf? k = none) : k ∉ ks := List.idxOf?_eq_none_iff.mp h
theorem zip_noop {κ : Type} [DecidableEq κ] {k : κ} {v : V} : ∀ (l : List (κ × V)), (∀ p ∈ l, p.1 ≠ k) → (l.map fun kv => if kv.1 = k then (kv.1, v) else kv) = l
  | [], _ => rfl
  | p :: l, h => by
    rw [List.map_cons, if_neg (h p List.mem_cons_self), zip_noop l fun q m => h q (List.mem_cons_of_mem _ m)]
theorem mem_zip1 {ks : List (List Key)} {xs : List V} {p : Key × V} (one : ∀ k ∈ ks, ∃ x, k = [x]) (h : p ∈ (ks.map key1).zip xs) : [p.1] ∈ ks := by
  have h1 : p.1 ∈ ks.map key1 := (List.of_mem_zip (a := p.1) (b := p.2) h).1
  obtain ⟨k, hk, e⟩ := List.mem_map.mp h1
  obtain ⟨x, rfl⟩ := one k hk
  rw [← e]; exact hk
theorem putK_zip : ∀ {ks : List (List Key)} {xs : List V}, (∀ k ∈ ks, ∃ x, k = [x]) → ks.Nodup → ks.length = xs.length → ∀ (k : Key) (v : V), putK ((ks.map key1).zip xs) k v = match ks.idxOf? [k] with
    | some i => (ks.map key1).zip (xs.set i v)
    | none => ((ks ++ [[k]]).map key1).zip (xs ++ [v]) := fun {ks xs} one nd hl k v => by
  have a := valV_zip one hl k
  cases e : ks.idxOf? [k] with
  | none =>
    rw [e] at a
    rw [putK_new v a, List.map_append]
    rw [List.zip_append (by simpa using hl)]; rfl
  | some i =>
    obtain ⟨hi, hk⟩ := some_idx e
    unfold putK
    rw [valV_any, a, e]
    have hs : (((some i).bind fun i => xs[i]?).isSome) = true := by
      show (xs[i]?).isSome = true
      rw [List.getElem?_eq_getElem (by omega)]; rfl
    rw [if_pos hs]
    clear a hs e
    induction ks generalizing xs i with
    | nil => cases hi
    | cons k0 ks ih =>
      cases xs with
      | nil => cases hl
      | cons x xs =>
        obtain ⟨⟨y, rfl⟩, o2⟩ := one_cons one
        obtain ⟨n1, n2⟩ := List.nodup_cons.mp nd
        cases i with
        | zero =>
          simp at hk; subst hk
          show (if y = y then (y, v) else (y, x)) :: (((ks.map key1).zip xs).map _) = (y, v) :: (ks.map key1).zip xs
          rw [if_pos rfl, zip_noop _ fun p m z => n1 (by have := mem_zip1 o2 m; rw [z] at this; exact this)]
        | succ i =>
          have hk' : ks[i]? = some [k] := by simpa using hk
          have ne : ¬ y = k := fun z => n1 (by rw [z]; exact List.mem_of_getElem? hk')
          show (if y = k then (y, v) else (y, x)) :: (((ks.map key1).zip xs).map _) = (y, x) :: (ks.map key1).zip (xs.set i v)
          rw [if_neg ne, ih o2 n2 (by simpa using hl) i (by simpa using hi) hk']
theorem DW.put {ks : List (List Key)} {n : Nat} (w : DW false ks n) (k : Key) (ts : List T) (t : T) (hn : ts.length = n) : DW false (putD ks ts [k] t).1 (putD ks ts [k] t).2.length := by
  unfold putD
  cases e : ks.idxOf? [k] with
  | some i =>
    show DW false ks (ts.set i t).length
    rw [List.length_set, hn]; exact w
  | none =>
    refine ⟨by simp [w.len, hn], fun _ j hj => ?_, ?_⟩
    · rcases List.mem_append.mp hj with z | z
      · exact w.one rfl j z
      · exact ⟨k, by simpa using z⟩
    · exact List.nodup_append.mpr ⟨w.nd, by simp, fun a ha b hb z => none_idx e (by
        have : b = [k] := by simpa using hb
        rw [← this, ← z]; exact ha)⟩
section
variable {K : PySem.W.Frag} {F F' H H' : Hp} {p q r pv : FP}
/-- a dict read -/
theorem Rep.dctR {o : Dw} {kd : Bool} {ks : List (List Key)} {ts : List T} {v : V} (h : Rep K F H (.dct o kd ks ts) v p) (ex : Ex F H) : ∃ a xs q, v = .ref a ∧ Rd H a (dho kd ks xs) ∧ DW kd ks xs.length ∧ Reps K F H ts xs q ∧ (∀ b, q b → p b) := by
  cases h with
  | dctF h w r => exact ⟨_, _, _, rfl, .inl (ex _ _ h), w, r, fun _ x => x⟩
  | dctL h w r => exact ⟨_, _, _, rfl, .inr ⟨_, ex _ _ h⟩, w, r, fun _ x => x⟩
  | dctO n h w r d e => exact ⟨_, _, _, rfl, .inl h, w, r, fun b x => (e b).mpr (.inr x)⟩
theorem dho_f {ks : List (List Key)} {xs : List V} : dho false ks xs = .dK ((ks.map key1).zip xs) := rfl
theorem Rep.dget {o : Dw} {ks : List (List Key)} {ts : List T} {v : V} (h : Rep K F H (.dct o false ks ts) v p) (ex : Ex F H) (k : Key) : ∃ a xs q, v = .ref a ∧ DGet H a (kV k) ((ks.idxOf? [k]).bind fun i => xs[i]?) ∧ Reps K F H ts xs q ∧ (∀ b, q b → p b) ∧ ks.length = xs.length ∧ Rd H a (.dK ((ks.map key1).zip xs)) := by
  obtain ⟨a, xs, q, rfl, rd, w, r, sub⟩ := h.dctR ex
  exact ⟨a, xs, q, rfl, .inl ⟨_, k, rd, rfl, (valV_zip (w.one rfl) w.len k).symm⟩, r, sub, w.len, rd⟩
theorem zip_keys {ks : List (List Key)} {xs : List V} (hl : ks.length = xs.length) : ((ks.map key1).zip xs).map (·.1) = ks.map key1 := by
  rw [List.map_fst_zip]; simpa using Nat.le_of_eq hl
/-- a new dict that holds these -/
theorem new_dct {ks : List (List Key)} {ts : List T} {xs : List V} {a : Addr} (ex : Ex F H) (n : H a = none) (r : Reps K F H ts xs q) (w : DW false ks xs.length) :
    Ex F (upd H a (dho false ks xs)) ∧ Rep K F (upd H a (dho false ks xs)) (.dct .own false ks ts) (.ref a) (fun b => b = a ∨ q b) ∧ Stp q F H (fun b => b = a ∨ q b) F (upd H a (dho false ks xs)) := by
  have own := r.own
  have nq : ¬ q a := fun x => by obtain ⟨_, o, e⟩ := own a x; rw [n] at e; cases e
  have nF : F a = none := by
    cases e : F a with
    | none => rfl
    | some o => rw [ex a o e] at n; cases n
  refine ⟨ex.trans (Evl.Ex.new n), .dctO nF upd_same w (r.frame (Evl.Ex.refl F) fun b x => ⟨(own b x).1, upd_ne fun e => nq (e ▸ x)⟩) nq fun b => Iff.rfl, Evl.Ex.refl F, fun b o e _ => ?_, fun _ _ _ _ => rfl, fun b x => ?_⟩
  · rw [upd_ne (ne_of_none e n)]; exact e
  · rcases x with rfl | x
    · exact .inr n
    · exact .inl x
theorem Reps.keysN : ∀ (ks : List (List Key)), Reps K F H (ks.map fun k => unK (key1k k)) (ks.map fun k => kV (key1 k)) nop
  | [] => .nil fun _ x => x
  | k :: ks => .cons (p := nop) (by
      have : key1k k = key1 k := by cases k <;> rfl
      show Rep K F H (unK (key1k k)) (kV (key1 k)) nop
      rw [this]; exact rep_unK _) (Reps.keysN ks) (fun _ x => x.elim) fun b => ⟨.inl, fun x => x.elim id id⟩
end
end Pv

/-! Operations on values, by the rules of HandS. -/
namespace Pv
open PySem L2 PyProof.Rows
/-- what an operation leaves: a value, new objects alone -/
def rT2 (K : PySem.W.Frag) (o : O2) : R2 := fun x y H Q => ∃ F t u p q r, Ex F H ∧ Rep K F H t x p ∧ Rep K F H u y q ∧ op2 o t u = some r ∧
  ∀ v F' H' pv, Ex F' H' → Rep K F' H' r v pv → Stp nop F H pv F' H' → Q v H'
def rT1 (K : PySem.W.Frag) (o : O1) : V → Hp → VK → Prop := fun x H Q => ∃ F t p r, Ex F H ∧ Rep K F H t x p ∧ op1 o t = some r ∧
  ∀ v F' H' pv, Ex F' H' → Rep K F' H' r v pv → Stp nop F H pv F' H' → Q v H'
section
variable {K : PySem.W.Frag} {F F' H H' : Hp} {σ : L2.St} {sl sl' : SL} {p p' q r : FP}
/-- a value without objects -/
theorem done0 {t : T} {v : V} {Q : VK} (k : ∀ v F' H' pv, Ex F' H' → Rep K F' H' t v pv → Stp nop F H pv F' H' → Q v H') (ex : Ex F H) (h : Rep K F H t v nop) : Q v H := k v F H nop ex h Stp.refl
theorem d_int {i : Int} {Q : VK} (k : ∀ v F' H' pv, Ex F' H' → Rep K F' H' (.int i) v pv → Stp nop F H pv F' H' → Q v H') (ex : Ex F H) : Q (.int i) H := done0 k ex (.int fun _ x => x)
theorem d_bl {i : Bool} {Q : VK} (k : ∀ v F' H' pv, Ex F' H' → Rep K F' H' (.bl i) v pv → Stp nop F H pv F' H' → Q v H') (ex : Ex F H) : Q (.bl i) H := done0 k ex (.bl fun _ x => x)
theorem d_str {i : Str} {Q : VK} (k : ∀ v F' H' pv, Ex F' H' → Rep K F' H' (.str i) v pv → Stp nop F H pv F' H' → Q v H') (ex : Ex F H) : Q (.str i) H := done0 k ex (.str fun _ x => x)
theorem fresh_F (ex : Ex F H) {a : Addr} (h : H a = none) : F a = none := by
  cases e : F a with
  | none => rfl
  | some o => rw [ex a o e] at h; cases h
theorem ne_own {q : FP} (h : ∀ a, q a → F a = none ∧ ∃ o, H a = some o) {a : Addr} (n : H a = none) : ¬ q a := fun x => by
  obtain ⟨_, o, e⟩ := h a x
  rw [n] at e; cases e
/-- a new list that holds these -/
theorem new_lst {ts : List T} {xs : List V} {a : Addr} (ex : Ex F H) (n : H a = none) (r : Reps K F H ts xs q) :
    Ex F (upd H a (.lst xs)) ∧ Rep K F (upd H a (.lst xs)) (.lst true ts) (.ref a) (fun b => b = a ∨ q b) ∧ Stp q F H (fun b => b = a ∨ q b) F (upd H a (.lst xs)) := by
  have own := r.own
  have nq := ne_own own n
  refine ⟨ex.trans (Evl.Ex.new n), .lstO (fresh_F ex n) upd_same (r.frame (Evl.Ex.refl F) fun b x => ⟨(own b x).1, upd_ne fun e => nq (e ▸ x)⟩) nq fun b => Iff.rfl, Evl.Ex.refl F, fun b o e _ => ?_, fun _ _ _ _ => rfl, fun b x => ?_⟩
  · rw [upd_ne (ne_of_none e n)]; exact e
  · rcases x with rfl | x
    · exact .inr n
    · exact .inl x
/-- a new tuple that holds these -/
theorem new_tup {ts : List T} {xs : List V} {a : Addr} (ex : Ex F H) (n : H a = none) (r : Reps K F H ts xs q) :
    Ex (upd F a (.tup xs)) (upd H a (.tup xs)) ∧ Rep K (upd F a (.tup xs)) (upd H a (.tup xs)) (.tup ts) (.ref a) q ∧ Stp q F H q (upd F a (.tup xs)) (upd H a (.tup xs)) := by
  have own := r.own
  have nq := ne_own own n
  have nF := fresh_F ex n
  refine ⟨fun b o e => ?_, .tup (.inl (.inl upd_same)) (r.frame (Evl.Ex.new nF) fun b x => have hb : b ≠ a := fun e => nq (e ▸ x); ⟨(upd_ne hb).trans (own b x).1, upd_ne hb⟩), Evl.Ex.new nF, fun b o e _ => ?_, fun b o e _ => upd_ne (ne_of_none e n), fun b x => .inl x⟩
  · by_cases h : b = a
    · subst h; rw [upd_same] at e; rw [upd_same]; exact e
    · rw [upd_ne h] at e; rw [upd_ne h]; exact ex b o e
  · rw [upd_ne (ne_of_none e n)]; exact e
theorem Stp.nop_of (s : Stp q F H p F' H') (h : ∀ a, ¬ q a) : Stp nop F H p F' H' := s.cg fun a => ⟨fun x => h a x, fun x => x.elim⟩
theorem isFs_app : ∀ {ts us : List T}, isFs (ts ++ us) = (isFs ts && isFs us)
  | [], us => by simp [isFs]
  | t :: ts, us => by simp [isFs, isFs_app (ts := ts), Bool.and_assoc]
theorem app_nop {ts us : List T} {xs ys : List V} (h1 : Reps K F H ts xs p) (h2 : Reps K F H us ys q) (f1 : isFs ts = true) (f2 : isFs us = true) : Reps K F H (ts ++ us) (xs ++ ys) nop :=
  ((h1.cg fun b => ⟨fun x => h1.of_isFs f1 b x, fun x => x.elim⟩ : Reps K F H ts xs nop).app (h2.cg fun b => ⟨fun x => h2.of_isFs f2 b x, fun x => x.elim⟩ : Reps K F H us ys nop) fun _ x => x.elim).cg fun b => ⟨fun x => x.elim id id, fun x => x.elim⟩
end

section
variable {X : Cx} {F H : Hp} {p q : FP}
theorem Inv.lstR {pins : List (Addr × Obj)} {σ : L2.St} {s : Shared} {l : Addr} {xs : List V} (I : Inv X pins σ H s) (hH : Rd H l (.lst xs)) : xs.length ≤ sizeLine ∧ ∃ (its : List Value) (n : Nat), Vals xs its ∧ xs.length = its.length ∧ s.heap.get? l = some { cls := .type "list", data := .seq its.toArray n } := by
  obtain ⟨z, its, n, r, e⟩ := hH.ok I.hok
  exact ⟨z, its, n, r, r.length, e⟩
/-- list + list, whatever is known of them -/
def rCatR : R2 := fun x y H Q => ∃ l b xs zs, x = .ref l ∧ y = .ref b ∧ Rd H l (.lst xs) ∧ Rd H b (.lst zs) ∧ xs.length + zs.length ≤ sizeLine ∧ ∀ p, H p = none → Q (.ref p) (upd H p (.lst (xs ++ zs)))
theorem op_catR : OpR X (binaryOp .Add) rCatR := by
  intro pins s σ H x y v u Q I rx ry h
  obtain ⟨l, b, xs, zs, rfl, rfl, hH, hB, hz, q⟩ := h
  cases rx
  cases ry
  obtain ⟨z, its, n, r, hl, e⟩ := Pv.Inv.lstR I hH
  obtain ⟨z2, its2, n2, r2, hl2, e2⟩ := Pv.Inv.lstR I hB
  refine PySem.P.add_list e e2 ?_ (by rw [List.size_toArray, List.size_toArray]; omega)
  have ea : its.toArray ++ its2.toArray = (its ++ its2).toArray := by simp
  rw [ea]
  exact ⟨.ref _, _, I.lnew (t' := s.toks) (r.append r2) (by rw [List.length_append]; omega), rfl, q _ I.fresh⟩
theorem szl {n : Nat} (h : n < 10000000) : n ≤ sizeLine := by rw [sizeLine_eq]; omega

theorem or_add : OpR X (binaryOp .Add) (rT2 X.K .add) := opr_any fun x y H Q h => by
  obtain ⟨F, t, u, p, q, r, ex, ht, hu, e, k⟩ := h
  cases t <;> cases u <;> first | (cases e; done) | skip
  · obtain ⟨rfl, _⟩ := ht.int'; obtain ⟨rfl, _⟩ := hu.int'
    cases e
    exact ⟨_, op_add, _, _, rfl, rfl, d_int k ex⟩
  · rename_i i j
    obtain ⟨rfl, _⟩ := ht.str'; obtain ⟨rfl, _⟩ := hu.str'
    have e' : (if i.length + j.length ≤ sizeLine then some (T.str (i ++ j)) else none) = some r := e
    by_cases hz : i.length + j.length ≤ sizeLine
    · rw [if_pos hz] at e'; cases e'
      exact ⟨_, op_add_str, _, _, rfl, rfl, hz, d_str k ex⟩
    · rw [if_neg hz] at e'; cases e'
  · rename_i ts us
    obtain ⟨a, xs, rfl, s1, r1⟩ := ht.seqT ex
    obtain ⟨b, ys, rfl, s2, r2⟩ := hu.seqT ex
    have e' : (if isFs ts && isFs us && decide (ts.length + us.length < 10000000) then some (T.tup (ts ++ us)) else none) = some r := e
    by_cases hz : (isFs ts && isFs us && decide (ts.length + us.length < 10000000)) = true
    · rw [if_pos hz] at e'; cases e'
      simp only [Bool.and_eq_true, decide_eq_true_eq] at hz
      obtain ⟨⟨f1, f2⟩, hz⟩ := hz
      have l1 := r1.length
      have l2 := r2.length
      have R := app_nop r1 r2 f1 f2
      have z1 := r1.of_isFs f1
      have z2 := r2.of_isFs f2
      refine ⟨_, op_catA, a, b, xs, ys, rfl, rfl, s1, s2, szl (by omega), fun hx => ?_, fun hx hy => ?_, fun hx hy c nc => ?_⟩
      · have e0 : ts = [] := List.length_eq_zero_iff.mp (by rw [l1, hx]; rfl)
        subst e0
        exact k _ F H nop ex (hu.cg fun b => ⟨fun x => z2 b x, fun x => x.elim⟩) Stp.refl
      · have e0 : us = [] := List.length_eq_zero_iff.mp (by rw [l2, hy]; rfl)
        subst e0
        rw [List.append_nil] at k
        exact k _ F H nop ex (ht.cg fun b => ⟨fun x => z1 b x, fun x => x.elim⟩) Stp.refl
      · obtain ⟨a1, a2, a3⟩ := new_tup ex nc R
        exact k _ _ _ nop a1 a2 a3
    · rw [if_neg hz] at e'; cases e'
  · rename_i o1 ts o2 us
    obtain ⟨a, xs, q1, rfl, s1, r1, _, _⟩ := ht.seqL ex
    obtain ⟨b, ys, q2, rfl, s2, r2, _, _⟩ := hu.seqL ex
    have e' : (if isFs ts && isFs us && decide (ts.length + us.length < 10000000) then some (T.lst true (ts ++ us)) else none) = some r := e
    by_cases hz : (isFs ts && isFs us && decide (ts.length + us.length < 10000000)) = true
    · rw [if_pos hz] at e'; cases e'
      simp only [Bool.and_eq_true, decide_eq_true_eq] at hz
      obtain ⟨⟨f1, f2⟩, hz⟩ := hz
      have l1 := r1.length
      have l2 := r2.length
      refine ⟨_, op_catR, a, b, xs, ys, rfl, rfl, s1, s2, szl (by omega), fun c nc => ?_⟩
      obtain ⟨a1, a2, a3⟩ := new_lst ex nc (app_nop r1 r2 f1 f2)
      exact k _ _ _ _ a1 a2 a3
    · rw [if_neg hz] at e'; cases e'
theorem or_sub : OpR X (binaryOp .Sub) (rT2 X.K .sub) := opr_any fun x y H Q h => by
  obtain ⟨F, t, u, p, q, r, ex, ht, hu, e, k⟩ := h
  cases t <;> cases u <;> first | (cases e; done) | skip
  obtain ⟨rfl, _⟩ := ht.int'; obtain ⟨rfl, _⟩ := hu.int'
  cases e
  exact ⟨_, op_sub, _, _, rfl, rfl, d_int k ex⟩
theorem op_mulX : OpR X (binaryOp .Mult) (rI IntMulOk fun i j => .int (i * j)) := opI fun _ _ _ _ _ _ _ hc q => mul_int q hc
theorem mulOk_ok {i j : Int} (h : mulOk i j = true) : IntMulOk i j := by
  have b : ∀ x : Int, Builtin.Int.intBits x ≤ x.natAbs.log2 + 1 := fun x => by
    unfold Builtin.Int.intBits
    split <;> omega
  simp only [mulOk, smallI, tinyI, Bool.or_eq_true, Bool.and_eq_true, decide_eq_true_eq] at h
  rcases h with h | h | h
  · exact CMulW.ok (by unfold CMulW; omega)
  · exact IntMulOk.of_left (by have := b i; omega)
  · exact IntMulOk.of_right (by have := b j; omega)
theorem or_mul : OpR X (binaryOp .Mult) (rT2 X.K .mul) := opr_any fun x y H Q h => by
  obtain ⟨F, t, u, p, q, r, ex, ht, hu, e, k⟩ := h
  cases t <;> cases u <;> first | (cases e; done) | skip
  rename_i i j
  obtain ⟨rfl, _⟩ := ht.int'; obtain ⟨rfl, _⟩ := hu.int'
  have e' : (if mulOk i j then some (T.int (i * j)) else none) = some r := e
  by_cases hz : mulOk i j = true
  · rw [if_pos hz] at e'; cases e'
    exact ⟨_, op_mulX, _, _, rfl, rfl, mulOk_ok hz, d_int k ex⟩
  · rw [if_neg hz] at e'; cases e'
theorem or_fdiv : OpR X (binaryOp .FloorDiv) (rT2 X.K .fdiv) := opr_any fun x y H Q h => by
  obtain ⟨F, t, u, p, q, r, ex, ht, hu, e, k⟩ := h
  cases t <;> cases u <;> first | (cases e; done) | skip
  rename_i i j
  obtain ⟨rfl, _⟩ := ht.int'; obtain ⟨rfl, _⟩ := hu.int'
  have e' : (if decide (0 < j) && decide (j.natAbs.log2 < 9000) then some (T.int (i / j)) else none) = some r := e
  by_cases hz : (decide (0 < j) && decide (j.natAbs.log2 < 9000)) = true
  · rw [if_pos hz] at e'; cases e'
    simp only [Bool.and_eq_true, decide_eq_true_eq] at hz
    exact ⟨_, op_fdivW, _, _, rfl, rfl, hz, d_int k ex⟩
  · rw [if_neg hz] at e'; cases e'
theorem or_mod : OpR X (binaryOp .Mod) (rT2 X.K .mod) := opr_any fun x y H Q h => by
  obtain ⟨F, t, u, p, q, r, ex, ht, hu, e, k⟩ := h
  cases t <;> cases u <;> first | (cases e; done) | skip
  rename_i i j
  obtain ⟨rfl, _⟩ := ht.int'; obtain ⟨rfl, _⟩ := hu.int'
  have e' : (if decide (0 < j) then some (T.int (i % j)) else none) = some r := e
  by_cases hz : decide (0 < j) = true
  · rw [if_pos hz] at e'; cases e'
    exact ⟨_, op_mod, _, _, rfl, rfl, of_decide_eq_true hz, d_int k ex⟩
  · rw [if_neg hz] at e'; cases e'
theorem or_pow : OpR X (binaryOp .Pow) (rT2 X.K .pow) := opr_any fun x y H Q h => by
  obtain ⟨F, t, u, p, q, r, ex, ht, hu, e, k⟩ := h
  cases t <;> cases u <;> first | (cases e; done) | skip
  rename_i i j
  obtain ⟨rfl, _⟩ := ht.int'; obtain ⟨rfl, _⟩ := hu.int'
  have e' : (if decide (0 ≤ j) && decide (j ≤ 1000000) && decide (i.natAbs < 2 ^ 64) then some (T.int (i ^ j.toNat)) else none) = some r := e
  by_cases hz : (decide (0 ≤ j) && decide (j ≤ 1000000) && decide (i.natAbs < 2 ^ 64)) = true
  · rw [if_pos hz] at e'; cases e'
    simp only [Bool.and_eq_true, decide_eq_true_eq] at hz
    exact ⟨_, op_pow, _, _, rfl, rfl, ⟨hz.1.1, hz.1.2, hz.2⟩, d_int k ex⟩
  · rw [if_neg hz] at e'; cases e'
theorem or_xor : OpR X (binaryOp .BitXor) (rT2 X.K .bxor) := opr_any fun x y H Q h => by
  obtain ⟨F, t, u, p, q, r, ex, ht, hu, e, k⟩ := h
  cases t <;> cases u <;> first | (cases e; done) | skip
  obtain ⟨rfl, _⟩ := ht.int'; obtain ⟨rfl, _⟩ := hu.int'
  cases e
  exact ⟨_, op_xor, _, _, rfl, rfl, d_int k ex⟩
theorem or_lt : OpR X (compareOp .Lt) (rT2 X.K .lt) := opr_any fun x y H Q h => by
  obtain ⟨F, t, u, p, q, r, ex, ht, hu, e, k⟩ := h
  cases t <;> cases u <;> first | (cases e; done) | skip
  obtain ⟨rfl, _⟩ := ht.int'; obtain ⟨rfl, _⟩ := hu.int'
  cases e
  exact ⟨_, op_lt, _, _, rfl, rfl, d_bl k ex⟩
theorem or_le : OpR X (compareOp .LtE) (rT2 X.K .le) := opr_any fun x y H Q h => by
  obtain ⟨F, t, u, p, q, r, ex, ht, hu, e, k⟩ := h
  cases t <;> cases u <;> first | (cases e; done) | skip
  obtain ⟨rfl, _⟩ := ht.int'; obtain ⟨rfl, _⟩ := hu.int'
  cases e
  exact ⟨_, op_le, _, _, rfl, rfl, d_bl k ex⟩
theorem or_gt : OpR X (compareOp .Gt) (rT2 X.K .gt) := opr_any fun x y H Q h => by
  obtain ⟨F, t, u, p, q, r, ex, ht, hu, e, k⟩ := h
  cases t <;> cases u <;> first | (cases e; done) | skip
  obtain ⟨rfl, _⟩ := ht.int'; obtain ⟨rfl, _⟩ := hu.int'
  cases e
  exact ⟨_, op_gt, _, _, rfl, rfl, d_bl k ex⟩
theorem or_ge : OpR X (compareOp .GtE) (rT2 X.K .ge) := opr_any fun x y H Q h => by
  obtain ⟨F, t, u, p, q, r, ex, ht, hu, e, k⟩ := h
  cases t <;> cases u <;> first | (cases e; done) | skip
  obtain ⟨rfl, _⟩ := ht.int'; obtain ⟨rfl, _⟩ := hu.int'
  cases e
  exact ⟨_, op_ge, _, _, rfl, rfl, d_bl k ex⟩
/-! ### deep equality -/
mutual
theorem Rep.dp {K : PySem.W.Frag} (ex : Ex F H) : ∀ {t v p d}, Rep K F H t v p → pd t = some d → Dp K H v d
  | _, _, _, d, .hole e, g => by cases g
  | _, _, _, d, .non e, g => by cases g; exact .non
  | _, _, _, d, .bl e, g => by cases g; exact .bl _
  | _, _, _, d, .int e, g => by cases g; exact .int _
  | _, _, _, d, .str e, g => by cases g; exact .str _
  | _, _, _, d, .tup (ts := ts) s r, g => by
    simp only [pd, Option.map_eq_some_iff] at g
    obtain ⟨ds, e, rfl⟩ := g
    exact .tup (Evl.ex_t ex s) (Reps.dp ex r e)
  | _, _, _, d, .lstF (ts := ts) s r, g => by
    simp only [pd, Option.map_eq_some_iff] at g
    obtain ⟨ds, e, rfl⟩ := g
    exact .lst (.inl (Evl.ex_rd ex s)) (Reps.dp ex r e)
  | _, _, _, d, .lstO (ts := ts) n h r _ _, g => by
    simp only [pd, Option.map_eq_some_iff] at g
    obtain ⟨ds, e, rfl⟩ := g
    exact .lst (.inl (.inl h)) (Reps.dp ex r e)
  | _, _, _, d, .dctF h w r, g => by cases g
  | _, _, _, d, .dctL h w r, g => by cases g
  | _, _, _, d, .dctO n h w r _ _, g => by cases g
  | _, _, _, d, .insF h w r, g => by cases g
  | _, _, _, d, .insO n h w r _ _, g => by cases g
theorem Reps.dp {K : PySem.W.Frag} (ex : Ex F H) : ∀ {ts vs p ds}, Reps K F H ts vs p → pds ts = some ds → DpAll K H vs ds
  | _, _, _, ds, .nil e, g => by cases g; exact .nil
  | t :: ts, _, _, ds, .cons h hs d e, g => by
    simp only [pds] at g
    cases e1 : pd t with
    | none => rw [e1] at g; cases g
    | some d1 =>
      cases e2 : pds ts with
      | none => rw [e1, e2] at g; cases g
      | some d2 =>
        rw [e1, e2] at g; cases g
        exact .cons (Rep.dp ex h e1) (Reps.dp ex hs e2)
end
theorem eqT_some {t u : T} {b : Bool} (h : eqT t u = some b) : ∃ d e, pd t = some d ∧ pd u = some e ∧ SeqAt.shaped d = true ∧ SeqAt.shaped e = true ∧ PyData.eqv d e = b := by
  unfold eqT at h
  cases e1 : pd t with
  | none => rw [e1] at h; cases h
  | some d =>
    cases e2 : pd u with
    | none => rw [e1, e2] at h; cases h
    | some e =>
      rw [e1, e2] at h
      by_cases hz : (SeqAt.shaped d && SeqAt.shaped e) = true
      · have h' : (if SeqAt.shaped d && SeqAt.shaped e then some (PyData.eqv d e) else none) = some b := h
        rw [if_pos hz] at h'
        cases h'
        simp only [Bool.and_eq_true] at hz
        exact ⟨d, e, rfl, rfl, hz.1, hz.2, rfl⟩
      · have h' : (if SeqAt.shaped d && SeqAt.shaped e then some (PyData.eqv d e) else none) = some b := h
        rw [if_neg hz] at h'; cases h'
theorem op2_eq {t u r : T} (h : op2 .eq t u = some r) : ∃ b, eqT t u = some b ∧ r = .bl b := by
  have h' : (eqT t u).map T.bl = some r := by cases t <;> cases u <;> exact h
  obtain ⟨b, e, rfl⟩ := Option.map_eq_some_iff.mp h'
  exact ⟨b, e, rfl⟩
theorem op2_ne {t u r : T} (h : op2 .ne t u = some r) : ∃ b, eqT t u = some b ∧ r = .bl (!b) := by
  have h' : (eqT t u).map (fun b => T.bl (!b)) = some r := by cases t <;> cases u <;> exact h
  obtain ⟨b, e, rfl⟩ := Option.map_eq_some_iff.mp h'
  exact ⟨b, e, rfl⟩
theorem or_eq (hu : X.A.units + 64 < cLine) : OpR X (compareOp .Eq) (rT2 X.K .eq) := opr_any fun x y H Q h => by
  obtain ⟨F, t, u, p, q, r, ex, ht, hu2, e, k⟩ := h
  obtain ⟨b, eb, rfl⟩ := op2_eq e
  obtain ⟨d, e2, h1, h2, s1, s2, rfl⟩ := eqT_some eb
  exact ⟨_, op_eqD hu, d, e2, ht.dp ex h1, hu2.dp ex h2, s1, s2, d_bl k ex⟩
theorem or_ne (hu : X.A.units + 64 < cLine) : OpR X (compareOp .NotEq) (rT2 X.K .ne) := opr_any fun x y H Q h => by
  obtain ⟨F, t, u, p, q, r, ex, ht, hu2, e, k⟩ := h
  obtain ⟨b, eb, rfl⟩ := op2_ne e
  obtain ⟨d, e2, h1, h2, s1, s2, rfl⟩ := eqT_some eb
  exact ⟨_, op_neD hu, d, e2, ht.dp ex h1, hu2.dp ex h2, s1, s2, d_bl k ex⟩
/-! ### built-in functions of two arguments, of one -/
def rC2 (K : PySem.W.Frag) (o : O2) : List V → Hp → VK → Prop := fun xs H Q => ∃ x y, xs = [x, y] ∧ rT2 K o x y H Q
def rC1 (K : PySem.W.Frag) (o : O1) : List V → Hp → VK → Prop := fun xs H Q => ∃ x, xs = [x] ∧ rT1 K o x H Q
theorem cr_min2 (hc : X.calm = true) : CallR X (.builtin "min") (rC2 X.K .min2) := callr_any fun xs H Q h => by
  obtain ⟨x, y, rfl, F, t, u, p, q, r, ex, ht, hu, e, k⟩ := h
  cases t <;> cases u <;> first | (cases e; done) | skip
  obtain ⟨rfl, _⟩ := ht.int'; obtain ⟨rfl, _⟩ := hu.int'
  cases e
  exact ⟨_, call_min2 hc, _, _, rfl, d_int k ex⟩
theorem cr_max2 (hc : X.calm = true) : CallR X (.builtin "max") (rC2 X.K .max2) := callr_any fun xs H Q h => by
  obtain ⟨x, y, rfl, F, t, u, p, q, r, ex, ht, hu, e, k⟩ := h
  cases t <;> cases u <;> first | (cases e; done) | skip
  obtain ⟨rfl, _⟩ := ht.int'; obtain ⟨rfl, _⟩ := hu.int'
  cases e
  exact ⟨_, call_max2 hc, _, _, rfl, d_int k ex⟩
theorem cr_gcd2 : CallR X (.builtin "math.gcd") (rC2 X.K .gcd) := callr_any fun xs H Q h => by
  obtain ⟨x, y, rfl, F, t, u, p, q, r, ex, ht, hu, e, k⟩ := h
  cases t <;> cases u <;> first | (cases e; done) | skip
  obtain ⟨rfl, _⟩ := ht.int'; obtain ⟨rfl, _⟩ := hu.int'
  cases e
  exact ⟨_, cr_gcd, _, _, rfl, d_int k ex⟩
theorem ur_neg : UnR X (unaryOp .USub) (rT1 X.K .neg) := unr_any fun x H Q h => by
  obtain ⟨F, t, p, r, ex, ht, e, k⟩ := h
  cases t <;> first | (cases e; done) | skip
  obtain ⟨rfl, _⟩ := ht.int'
  cases e
  exact ⟨_, un_neg, _, rfl, d_int k ex⟩
theorem cr_abs1 : CallR X (.builtin "abs") (rC1 X.K .abs) := callr_any fun xs H Q h => by
  obtain ⟨x, rfl, F, t, p, r, ex, ht, e, k⟩ := h
  cases t <;> first | (cases e; done) | skip
  obtain ⟨rfl, _⟩ := ht.int'
  cases e
  exact ⟨_, call_abs, _, rfl, d_int k ex⟩
theorem cr_int1 : CallR X (.type "int") (rC1 X.K .int) := callr_any fun xs H Q h => by
  obtain ⟨x, rfl, F, t, p, r, ex, ht, e, k⟩ := h
  cases t <;> first | (cases e; done) | skip
  · obtain ⟨rfl, _⟩ := ht.bl'
    cases e
    exact ⟨_, call_int1, .inr ⟨_, rfl, d_int k ex⟩⟩
  · obtain ⟨rfl, _⟩ := ht.int'
    cases e
    exact ⟨_, call_int1, .inl ⟨_, rfl, d_int k ex⟩⟩
/-- len of a dict, read -/
theorem cr_lenD : CallR X (.builtin "len") (fun xs H Q => ∃ a kvs, xs = [.ref a] ∧ Rd H a (.dK kvs) ∧ Q (.int (kvs.length : Nat)) H) := fun pins s σ H xs us Q I r ⟨a, kvs, e, rd, q⟩ => by
  subst e; rw [Vals.ref1 r]
  exact d_len I rd fun t s' I' => ⟨.int _, H, I', ⟨_, rfl⟩, q⟩
/-- list of a dict, read -/
theorem cr_listD (hc : X.calm = true) : CallR X (.type "list") (fun xs H Q => ∃ a kvs, xs = [.ref a] ∧ Rd H a (.dK kvs) ∧ ∀ b, H b = none → Q (.ref b) (upd H b (.lst (kvs.map fun kv => kV kv.1)))) := fun pins s σ H xs us Q I r ⟨a, kvs, e, rd, q⟩ => by
  subst e; rw [Vals.ref1 r]
  obtain ⟨z, lo, vs, rk, hd⟩ := dk_rd I.hok rd
  obtain ⟨ep, hat⟩ := hd.dictAt
  have hl : kvs.length = vs.length := Paired.length rk
  refine PySem.W.kdl_call (PySem.W.kdl_dict (knd := mixKind X.prog X.w) (kvs := vs) (ep := ep) lo) (I.ok.hd hc) hat (hl ▸ z) fun h' tk acc c hk hS ha => ⟨.ref s.heap.objs.size, upd H s.heap.objs.size (.lst (kvs.map fun kv => kV kv.1)), I.laid hk (Nat.le_refl _) ⟨?_, acc.toList, c, ?_, ?_⟩, rfl, q _ (I.hok.fresh (Nat.le_refl _))⟩
  · rw [List.length_map]; exact z
  · refine vals_of_at (by have e0 : acc.toList.length = acc.size := Array.length_toList; rw [List.length_map, e0, ha.1, hl]) fun j x w h1 h2 => ?_
    obtain ⟨k, y, hky, hi⟩ := ha.2 j w (by rw [← Array.getElem?_toList]; exact h2)
    have e1 : (kvs.map (·.1))[j]? = some k := by rw [KV.keys rk, List.getElem?_map, hky]; rfl
    have e3 : (kvs.map fun kv => kV kv.1) = (kvs.map (·.1)).map kV := by rw [List.map_map]; rfl
    rw [e3, List.getElem?_map, e1] at h1
    cases h1
    exact keyIs_rel hi
  · rw [Array.toArray_toList]; exact hS
theorem cr_len1 : CallR X (.builtin "len") (rC1 X.K .len) := callr_any fun xs H Q h => by
  obtain ⟨x, rfl, F, t, p, r, ex, ht, e, k⟩ := h
  cases t <;> first | (cases e; done) | skip
  · obtain ⟨a, xs, rfl, s1, r1⟩ := ht.seqT ex
    cases e
    exact ⟨_, call_len, _, xs.length, rfl, .inr ⟨xs, s1, rfl⟩, by rw [← r1.length]; exact d_int k ex⟩
  · obtain ⟨a, xs, q, rfl, s1, r1, _⟩ := ht.seqL ex
    cases e
    exact ⟨_, call_len, _, xs.length, rfl, .inl ⟨xs, .inl s1, rfl⟩, by rw [← r1.length]; exact d_int k ex⟩
  · rename_i o kd ks ts
    cases kd <;> cases e
    obtain ⟨a, xs, q, rfl, rd, w, r1, _⟩ := ht.dctR ex
    refine ⟨_, cr_lenD, a, _, rfl, rd, ?_⟩
    have : ((ks.map key1).zip xs).length = ks.length := by rw [List.length_zip, List.length_map, w.len, Nat.min_self]
    rw [this]
    exact d_int k ex
theorem cr_list1 (hc : X.calm = true) : CallR X (.type "list") (rC1 X.K .list) := callr_any fun xs H Q h => by
  obtain ⟨x, rfl, F, t, p, r, ex, ht, e, k⟩ := h
  cases t <;> first | (cases e; done) | skip
  · rename_i ts
    obtain ⟨a, xs, rfl, s1, r1⟩ := ht.seqT ex
    have e' : (if isFs ts then some (T.lst true ts) else none) = some r := e
    by_cases f : isFs ts = true
    · rw [if_pos f] at e'; cases e'
      refine ⟨_, call_list_of, _, xs, rfl, .inr s1, fun l nl => ?_⟩
      obtain ⟨a1, a2, a3⟩ := new_lst ex nl r1
      exact k _ _ _ _ a1 a2 (a3.nop_of (r1.of_isFs f))
    · rw [if_neg f] at e'; cases e'
  · rename_i o ts
    obtain ⟨a, xs, q, rfl, s1, r1, _⟩ := ht.seqL ex
    have e' : (if isFs ts then some (T.lst true ts) else none) = some r := e
    by_cases f : isFs ts = true
    · rw [if_pos f] at e'; cases e'
      refine ⟨_, call_list_of, _, xs, rfl, .inl (.inl s1), fun l nl => ?_⟩
      obtain ⟨a1, a2, a3⟩ := new_lst ex nl r1
      exact k _ _ _ _ a1 a2 (a3.nop_of (r1.of_isFs f))
    · rw [if_neg f] at e'; cases e'
  · rename_i o kd ks ts
    cases kd <;> cases e
    obtain ⟨a, xs, q, rfl, rd, w, r1, _⟩ := ht.dctR ex
    refine ⟨_, cr_listD hc, a, _, rfl, rd, fun l nl => ?_⟩
    have : (((ks.map key1).zip xs).map fun kv => kV kv.1) = ks.map fun k => kV (key1 k) := by
      rw [show (((ks.map key1).zip xs).map fun kv => kV kv.1) = (((ks.map key1).zip xs).map (·.1)).map kV by rw [List.map_map]; rfl, zip_keys w.len, List.map_map]; rfl
    rw [this]
    obtain ⟨a1, a2, a3⟩ := new_lst ex nl (Reps.keysN (K := X.K) (F := F) (H := H) ks)
    exact k _ _ _ _ a1 a2 (a3.nop_of fun _ x => x)
end
end Pv

/-! Expressions: what the evaluator says is a reading. -/
namespace Pv
open PySem L2 PyProof.Rows
/-- is the value apart from the slots? -/
def apart (m : Md) (e : E) : Bool := match m with
  | .e => true
  | .o => !over e
  | .t => false
def Kv (K : PySem.W.Frag) (p : FP) (F H : Hp) (σ : L2.St) (d : Bool) (t : T) (sl' : SL) (Q : VK) : Prop := ∀ v F' H' pv p', Ex F' H' → SlR K F' H' sl' σ p' → Rep K F' H' t v pv → (d = true → Dj pv p') → Stp p F H (fun a => pv a ∨ p' a) F' H' → Q v H'
def tev (K : PySem.W.Frag) (P : Pg) (m : Md) (e : E) : TE := fun σ H Q => ∃ F sl p t sl', Ex F H ∧ SlR K F H sl σ p ∧ ev P m e sl = some (t, sl') ∧ Kv K p F H σ (apart m e) t sl' Q
def Kt (K : PySem.W.Frag) (p : FP) (F H : Hp) (σ : L2.St) (b : Bool) (sl' : SL) (Q : Bool → Hp → Prop) : Prop := ∀ F' H' p', Ex F' H' → SlR K F' H' sl' σ p' → Stp p F H p' F' H' → Q b H'
def tevT (K : PySem.W.Frag) (P : Pg) (e : E) : TT := fun σ H Q => ∃ F sl p b sl', Ex F H ∧ SlR K F H sl σ p ∧ ev P .t e sl = some (.bl b, sl') ∧ Kt K p F H σ b sl' Q
structure Sd (X : Cx) (P : Pg) (x : Expr) (e : E) : Prop where
  v : ∀ m, m ≠ .t → PE X x (tev X.K P m e)
  t : PT X x (tevT X.K P e)

section
variable {K : PySem.W.Frag} {F F' H H' : Hp} {σ : L2.St} {sl sl' sl2 : SL} {p p' q r pv : FP} {P : Pg} {m : Md} {t t' : T} {Q : VK} {d : Bool}
theorem fin_some {path : Bool} (hm : m ≠ .t) (h : fin m path t sl = some (t', sl')) : t' = t ∧ sl' = sl ∧ (m = .e → path = true → isF t = true) := by
  cases m with
  | o => cases h; exact ⟨rfl, rfl, fun z => by cases z⟩
  | t => exact absurd rfl hm
  | e =>
    unfold fin at h
    by_cases c : (path && !isF t) = true
    · simp only [c] at h; cases h
    · simp only [c] at h; cases h
      refine ⟨rfl, rfl, fun _ z => ?_⟩
      subst z
      cases e : isF t with
      | true => rfl
      | false => rw [e] at c; exact absurd rfl c
theorem fin_t {path : Bool} (h : fin .t path t sl = some (t', sl')) : ∃ b, tru t = some b ∧ t' = .bl b ∧ sl' = sl := by
  unfold fin at h
  obtain ⟨b, e, h⟩ := Option.map_eq_some_iff.mp h
  cases h
  exact ⟨b, e, rfl, rfl⟩
/-- an operation's end: new objects alone behind the world W' -/
theorem Kv.op (k : Kv K p F H σ d t sl' Q) (S : SlR K F' H' sl' σ p') (st : Stp p F H p' F' H') :
    ∀ v F2 H2 pv, Ex F2 H2 → Rep K F2 H2 t v pv → Stp nop F' H' pv F2 H2 → Q v H2 := fun v F2 H2 pv ex2 R s2 => by
  obtain ⟨a1, a2, a3⟩ := s2.frame S.own (fun _ x => x.elim)
  exact k v F2 H2 pv p' ex2 (S.frame s2.ex a1) R (fun _ => a2) (st.trans (a3.cg fun a => ⟨fun x => x.elim (fun z => z.elim) id, .inr⟩))
theorem Kt.op {b : Bool} {Q : Bool → Hp → Prop} (k : Kt K p F H σ b sl' Q) (S : SlR K F' H' sl' σ p') (st : Stp p F H p' F' H') :
    ∀ v F2 H2 pv, Ex F2 H2 → Rep K F2 H2 (.bl b) v pv → Stp nop F' H' pv F2 H2 → v = .bl b ∧ Q b H2 := fun v F2 H2 pv ex2 R s2 => by
  obtain ⟨a1, a2, a3⟩ := s2.frame S.own (fun _ x => x.elim)
  exact ⟨R.bl'.1, k F2 H2 p' ex2 (S.frame s2.ex a1) ((st.trans (a3.cg fun a => ⟨fun x => x.elim (fun z => z.elim) id, .inr⟩)).sub fun a x => .inr x)⟩
/-- everything frozen for a while, for an atom's sake -/
theorem thaw {F2 H2 : Hp} {q : FP} (own : ∀ a, p a → F a = none ∧ ∃ o, H a = some o) (st : Stp nop (frF F H p) H q F2 H2) (ex2 : Ex F2 H2) : ∃ F3, Ex F3 H2 ∧ Stp nop F H nop F3 H2 := by
  refine ⟨fun a => open Classical in if p a then none else F2 a, fun a o h => ?_, fun a o h => ?_, fun a o h _ => st.keep a o h fun x => x, fun a o h _ => ?_, fun a x => x.elim⟩
  · by_cases z : p a
    · simp only [if_pos z] at h; cases h
    · simp only [if_neg z] at h; exact ex2 a o h
  · by_cases z : p a
    · rw [(own a z).1] at h; cases h
    · simp only [if_neg z]
      exact st.ex a o (by rw [frF_out z]; exact h)
  · by_cases z : p a
    · simp only [if_pos z]
      exact (own a z).1.symm
    · simp only [if_neg z]
      rw [st.grow a o h fun x => x, frF_out z]
theorem SlR.brw (S : SlR K F H sl σ p) : SlR K (frF F H p) H (brw sl) σ nop := by
  obtain ⟨vs, R, l, ag⟩ := S
  have z := R.frz (H' := H) (frF_ex fun a x => (R.own a x).1) fun a x => frF_in x
  have len : ∀ {l : List T}, (frzs l).length = l.length := fun {l} => by
    induction l with
    | nil => rfl
    | cons t l ih => exact congrArg Nat.succ ih
  have get : ∀ {l : List T} {i : Nat} {t : T}, (frzs l)[i]? = some t → ∃ u, l[i]? = some u ∧ t = frz u := fun {l} => by
    induction l with
    | nil => intro i t h; simp [frzs] at h
    | cons u l ih => intro i t h; cases i with
      | zero => exact ⟨u, rfl, by simpa [frzs] using h.symm⟩
      | succ i => exact ih (by simpa [frzs] using h)
  refine ⟨vs, z, by rw [← l]; exact len, fun i t v h1 h2 h3 => ?_⟩
  obtain ⟨u, g, rfl⟩ := get h1
  exact ag i u v g (by cases u <;> first | rfl | exact h2) h3
theorem atom_rep {t : T} {v : V} (h : atom t = true) (R : Rep K F H t v p) : Rep K F' H' t v nop := by
  cases t <;> first | (cases h; done) | skip
  · obtain ⟨rfl, _⟩ := R.non'; exact .non fun _ x => x
  · obtain ⟨rfl, _⟩ := R.bl'; exact .bl fun _ x => x
  · obtain ⟨rfl, _⟩ := R.int'; exact .int fun _ x => x
  · obtain ⟨rfl, _⟩ := R.str'; exact .str fun _ x => x
theorem borrow {b : E} {t2 : T} {slx : SL} {Q : VK} (ex : Ex F H) (S : SlR K F H sl σ p) (e : ev P .o b (brw sl) = some (t2, slx)) (h : atom t2 = true)
    (k : ∀ v F' H', Ex F' H' → Rep K F' H' t2 v nop → Stp nop F H nop F' H' → Q v H') : tev K P .o b σ H Q :=
  ⟨frF F H p, brw sl, nop, t2, slx, frF_sub ex, S.brw, e, fun v F2 H2 pv p2 ex2 S2 R2 d2 st2 => by
    obtain ⟨F3, g1, g2⟩ := thaw S.own st2 ex2
    exact k v F3 H2 g1 (atom_rep h R2) g2⟩
/-- the second operand -/
def sec (P : Pg) (a b : E) (t1 : T) (sl1 : SL) : Option (T × SL) := if over a && !isF t1 then (ev P .o b (brw sl1)).bind fun r2 => if atom r2.1 then some (r2.1, sl1) else none else ev P .o b sl1
theorem two_snd {a b : E} {t1 t2 : T} {sl1 : SL} {G : V → Hp → Prop} {F1 H1 : Hp} {v1 : V} {pv1 p1 : FP} (e2 : sec P a b t1 sl1 = some (t2, sl2)) (ex1 : Ex F1 H1) (S1 : SlR K F1 H1 sl1 σ p1) (R1 : Rep K F1 H1 t1 v1 pv1) (d1 : apart .o a = true → Dj pv1 p1) (st1 : Stp p F H (fun a => pv1 a ∨ p1 a) F1 H1)
    (k : ∀ v2 F' H' pv1 pv2 p', Ex F' H' → SlR K F' H' sl2 σ p' → Rep K F' H' t1 v1 pv1 → Rep K F' H' t2 v2 pv2 → (over a = false → Dj pv1 p') → Stp p F H (fun a => pv1 a ∨ p' a) F' H' → G v2 H') :
    tev K P .o b σ H1 G := by
  unfold sec at e2
  by_cases c : (over a && !isF t1) = true
  · rw [if_pos c] at e2
    obtain ⟨⟨t2', slx⟩, e3, e4⟩ := Option.bind_eq_some_iff.mp e2
    by_cases at_ : atom t2' = true
    · have e4' : (if atom t2' = true then some (t2', sl1) else none) = some (t2, sl2) := e4
      rw [if_pos at_] at e4'; cases e4'
      refine borrow ex1 S1 e3 at_ fun v2 F2 H2 ex2 R2 st2 => ?_
      obtain ⟨a1, _, a3⟩ := st2.frame (r := fun a => pv1 a ∨ p1 a) (fun a x => x.elim (R1.own a) (S1.own a)) (fun _ x => x.elim)
      refine k v2 F2 H2 pv1 nop p1 ex2 (S1.frame st2.ex fun a x => a1 a (.inr x)) (R1.frame st2.ex fun a x => a1 a (.inl x)) R2 (fun z => ?_) ?_
      · simp only [Bool.and_eq_true] at c
        rw [z] at c; cases c.1
      · exact (st1.trans (a3.cg fun a => ⟨fun x => x.elim (fun z => z.elim) id, .inr⟩)).sub fun a x => .inr x
    · have e4' : (if atom t2' = true then some (t2', sl1) else none) = some (t2, sl2) := e4
      rw [if_neg at_] at e4'; cases e4'
  · rw [if_neg c] at e2
    have dj : Dj pv1 p1 := by
      by_cases o : over a = true
      · rw [o] at c
        have f : isF t1 = true := by cases z : isF t1 with
          | true => rfl
          | false => rw [z] at c; exact absurd rfl c
        exact fun b x _ => R1.of_isF f b x
      · exact d1 (by simp [apart, o])
    refine ⟨F1, sl1, p1, t2, sl2, ex1, S1, e2, fun v2 F2 H2 pv2 p2 ex2 S2 R2 d2 st2 => ?_⟩
    obtain ⟨a1, a2, a3⟩ := st2.frame (r := pv1) R1.own dj.symm
    refine k v2 F2 H2 pv1 pv2 p2 ex2 S2 (R1.frame st2.ex a1) R2 (fun _ a x y => a2 a (.inr y) x) ?_
    exact (st1.trans (a3.cg fun a => or_comm)).sub fun a x => x.elim .inr fun y => .inl (.inr y)
theorem two {a b : E} {t1 t2 : T} {sl1 : SL} {G : V → V → Hp → Prop} (ex : Ex F H) (S : SlR K F H sl σ p) (e1 : ev P .o a sl = some (t1, sl1)) (e2 : sec P a b t1 sl1 = some (t2, sl2))
    (k : ∀ v1 v2 F' H' pv1 pv2 p', Ex F' H' → SlR K F' H' sl2 σ p' → Rep K F' H' t1 v1 pv1 → Rep K F' H' t2 v2 pv2 → (over a = false → Dj pv1 p') → Stp p F H (fun a => pv1 a ∨ p' a) F' H' → G v1 v2 H') :
    tev K P .o a σ H fun x H1 => tev K P .o b σ H1 fun y H2 => G x y H2 :=
  ⟨F, sl, p, t1, sl1, ex, S, e1, fun v1 F1 H1 pv1 p1 ex1 S1 R1 d1 st1 => two_snd e2 ex1 S1 R1 d1 st1 fun v2 F' H' pv1 pv2 p' => k v1 v2 F' H' pv1 pv2 p'⟩
end

section
variable {X : Cx} {P : Pg} {a b c x y : Expr} {a' b' c' e : E} {pos : Pos}
theorem ev_op2 {m : Md} {o : O2} {sl sl' : SL} {t : T} (h : ev P m (.op2 o a' b') sl = some (t, sl')) : ∃ t1 sl1 t2 sl2 r, ev P .o a' sl = some (t1, sl1) ∧ sec P a' b' t1 sl1 = some (t2, sl2) ∧ op2 o t1 t2 = some r ∧ fin m false r sl2 = some (t, sl') := by
  simp only [ev, Option.bind_eq_some_iff] at h
  obtain ⟨⟨t1, sl1⟩, e1, ⟨t2, sl2⟩, e2, r, e3, e4⟩ := h
  exact ⟨t1, sl1, t2, sl2, r, e1, e2, e3, e4⟩
theorem core2 {m : Md} {o : O2} {σ : L2.St} {H : Hp} {Q : VK} (hm : m ≠ .t) (h : tev X.K P m (.op2 o a' b') σ H Q) : tev X.K P .o a' σ H fun x H1 => tev X.K P .o b' σ H1 fun y H2 => rT2 X.K o x y H2 Q := by
  obtain ⟨F, sl, p, t, sl', ex, S, e, k⟩ := h
  obtain ⟨t1, sl1, t2, sl2, r, e1, e2, e3, e4⟩ := ev_op2 e
  obtain ⟨rfl, rfl, _⟩ := fin_some hm e4
  refine two ex S e1 e2 fun v1 v2 F' H' pv1 pv2 p' ex' S' R1 R2 _ st => ⟨F', t1, t2, pv1, pv2, _, ex', R1, R2, e3, k.op S' (st.sub fun a x => .inr x)⟩
/-- the same as a test, of a result that is a bool -/
theorem core2t {o : O2} {σ : L2.St} {H : Hp} {Q : Bool → Hp → Prop} (hb : ∀ t u r, op2 o t u = some r → ∃ k, r = .bl k) (h : tevT X.K P (.op2 o a' b') σ H Q) :
    tev X.K P .o a' σ H fun x H1 => tev X.K P .o b' σ H1 fun y H2 => rT2 X.K o x y H2 fun z H3 => ∃ k, z = .bl k ∧ Q k H3 := by
  obtain ⟨F, sl, p, bb, sl', ex, S, e, k⟩ := h
  obtain ⟨t1, sl1, t2, sl2, r, e1, e2, e3, e4⟩ := ev_op2 e
  obtain ⟨b2, h1, h2, rfl⟩ := fin_t e4
  cases h2
  obtain ⟨kk, rfl⟩ := hb _ _ _ e3
  cases h1
  refine two ex S e1 e2 fun v1 v2 F' H' pv1 pv2 p' ex' S' R1 R2 _ st => ⟨F', t1, t2, pv1, pv2, _, ex', R1, R2, e3, fun v F2 H2 pv ex2 R s2 => ?_⟩
  obtain ⟨hv, hq⟩ := k.op S' (st.sub fun a x => .inr x) v F2 H2 pv ex2 R s2
  exact ⟨_, hv, hq⟩
/-- a test is its value's truth -/
def Plain (P : Pg) (e : E) : Prop := ∀ sl t sl', ev P .t e sl = some (t, sl') → ∃ t0 b, ev P .o e sl = some (t0, sl') ∧ tru t0 = some b ∧ t = .bl b
theorem pt_plain (h : PE X x (tev X.K P .o e)) (hp : Plain P e) (he : ∀ whole, isTrue x X.env whole = (do let v ← whole; standAt x.pos; holding [v] (truthy v))) : PT X x (tevT X.K P e) :=
  pt_imp (pt_truth h he) fun σ H Q ⟨F, sl, p, b, sl', ex, S, ee, k⟩ => by
    obtain ⟨t0, b0, e1, e2, e3⟩ := hp _ _ _ ee
    cases e3
    refine ⟨F, sl, p, t0, sl', ex, S, e1, fun v F' H' pv p' ex' S' R _ st => ⟨b, truV R ex' e2, k F' H' p' ex' S' (st.sub fun a x => .inr x)⟩⟩
theorem plain_op2 {o : O2} : Plain P (.op2 o a' b') := fun sl t sl' h => by
  obtain ⟨t1, sl1, t2, sl2, r, e1, e2, e3, e4⟩ := ev_op2 h
  obtain ⟨b, h1, h2, rfl⟩ := fin_t e4
  refine ⟨r, b, ?_, h1, h2⟩
  have e2' : (if over a' && !isF t1 then (ev P .o b' (brw sl1)).bind fun r2 => if atom r2.1 then some (r2.1, sl1) else none else ev P .o b' sl1) = some (t2, sl') := e2
  simp only [ev, e1, Option.bind_some, e2', e3, fin]
theorem sd_bin {op : Operator} {o : O2} (ho : OpR X (binaryOp op) (rT2 X.K o)) (ha : Sd X P a a') (hb : Sd X P b b') : Sd X P (.BinOp a op b pos) (.op2 o a' b') :=
  have v : ∀ m, m ≠ .t → PE X (.BinOp a op b pos) (tev X.K P m (.op2 o a' b')) := fun m hm => pe_imp (pe_op ho (ha.v .o (by decide)) (hb.v .o (by decide))) fun σ H Q h => core2 hm h
  ⟨v, pt_plain (v .o (by decide)) plain_op2 fun _ => rfl⟩
theorem sd_cmp {op : CmpOp} {o : O2} (ho : OpR X (compareOp op) (rT2 X.K o)) (ha : Sd X P a a') (hb : Sd X P b b') (hm : behindInMarks op b = false) (hk : ∀ t u r, op2 o t u = some r → ∃ k, r = .bl k) : Sd X P (.Compare a [op] [b] pos) (.op2 o a' b') where
  v := fun m h => pe_imp (pe_cmpR ho (ha.v .o (by decide)) (hb.v .o (by decide)) hm) fun σ H Q q => core2 h q
  t := pt_imp (pt_cmpR ho (ha.v .o (by decide)) (hb.v .o (by decide)) hm) fun σ H Q q => core2t hk q
/-! ### names -/
theorem ev_var_o {i : Nat} {sl sl' : SL} {t : T} (h : ev P .o (.var i) sl = some (t, sl')) : look sl i = some t ∧ sl' = sl := by
  simp only [ev, Option.bind_eq_some_iff] at h
  obtain ⟨u, e, h⟩ := h
  cases h
  exact ⟨e, rfl⟩
theorem sd_var {i : Nat} {n : Str} (hN : X.N[i]? = some n) (hv : Vis X.env.scope n) (hd : (n == ("__debug__" : Str)) = false) (hcd : (n == ("__classdict__" : Str)) = false) : Sd X P (.Name n pos) (.var i) :=
  have v : ∀ m, m ≠ .t → PE X (.Name n pos) (tev X.K P m (.var i)) := fun m hm => pe_imp (pe_var hN hv hd hcd) fun σ H Q ⟨F, sl, p, t, sl', ex, S, e, k⟩ => by
    cases m with
    | t => exact absurd rfl hm
    | o =>
      obtain ⟨e1, rfl⟩ := ev_var_o e
      obtain ⟨v, q, e2, R, sub⟩ := S.peek e1
      exact ⟨v, e2, k v F H q p ex S R (fun z => by cases z) (Stp.refl.sub fun a x => x.elim (sub a) id)⟩
    | e =>
      simp only [ev, Option.bind_eq_some_iff] at e
      obtain ⟨u, e1, e⟩ := e
      cases e
      obtain ⟨v, q, r, e2, R, dj, e3, S2⟩ := S.take e1
      have exF : Ex F (frF F H q) := frF_ex fun a x => (R.own a x).1
      have S3 : SlR X.K (frF F H q) H (sl.set i .hole) σ r := S2.frame exF fun a x => ⟨(frF_out fun z => dj a z x).trans (S2.own a x).1, rfl⟩
      have R2 : Rep X.K (frF F H q) H (frz u) v nop := R.frz exF fun a x => frF_in x
      have S4 := S3.put (t := frz u) (set_hole_put e1) e2 R2 (fun _ x => x.elim)
      rw [List.set_set] at S4
      refine ⟨v, e2, k v (frF F H q) H nop _ (frF_sub ex) S4 R2 (fun _ _ x => x.elim) ⟨exF, fun _ _ h _ => h, fun a o h n => frF_out fun z => n ((e3 a).mpr (.inl z)), fun a x => .inl ((e3 a).mpr (.inr ?_))⟩⟩
      rcases x with x | x | x
      · exact x.elim
      · exact x.elim
      · exact x
  ⟨v, pt_plain (v .o (by decide)) (fun sl t sl' h => by
    simp only [ev, Option.bind_eq_some_iff] at h
    obtain ⟨u, e, h⟩ := h
    obtain ⟨b, e2, h⟩ := Option.map_eq_some_iff.mp h
    cases h
    exact ⟨u, b, by simp only [ev, e, Option.bind_some], e2, rfl⟩) fun _ => rfl⟩
theorem sd_mov {i : Nat} {n : Str} (hN : X.N[i]? = some n) (hv : Vis X.env.scope n) (hd : (n == ("__debug__" : Str)) = false) (hcd : (n == ("__classdict__" : Str)) = false) : Sd X P (.Name n pos) (.mov i) :=
  have v : ∀ m, m ≠ .t → PE X (.Name n pos) (tev X.K P m (.mov i)) := fun m hm => pe_imp (pe_var hN hv hd hcd) fun σ H Q ⟨F, sl, p, t, sl', ex, S, e, k⟩ => by
    simp only [ev, Option.bind_eq_some_iff] at e
    obtain ⟨u, e1, e⟩ := e
    obtain ⟨rfl, rfl, _⟩ := fin_some hm e
    obtain ⟨v, q, r, e2, R, dj, e3, S2⟩ := S.take e1
    exact ⟨v, e2, k v F H q r ex S2 R (fun _ => dj) (Stp.refl.sub fun a x => (e3 a).mpr x)⟩
  ⟨v, pt_plain (v .o (by decide)) (fun sl t sl' h => by
    simp only [ev, Option.bind_eq_some_iff] at h
    obtain ⟨u, e, h⟩ := h
    obtain ⟨b, e2, h2, rfl⟩ := fin_t h
    exact ⟨u, b, by simp only [ev, e, Option.bind_some, fin], e2, h2⟩) fun _ => rfl⟩
/-- a value that stands by itself -/
theorem sd_c {t : T} {v : V} (h : PE X x (tC v)) (R : ∀ F H, Rep X.K F H t v nop) (he : ∀ whole, isTrue x X.env whole = (do let v ← whole; standAt x.pos; holding [v] (truthy v))) (e : E) (hev : ∀ m sl, ev P m e sl = fin m false t sl) : Sd X P x e :=
  have w : ∀ m, m ≠ .t → PE X x (tev X.K P m e) := fun m hm => pe_imp h fun σ H Q ⟨F, sl, p, t', sl', ex, S, e1, k⟩ => by
    rw [hev] at e1
    obtain ⟨rfl, rfl, _⟩ := fin_some hm e1
    exact k v F H nop p ex S (R F H) (fun _ _ x => x.elim) (Stp.refl.sub fun a x => x.elim (fun z => z.elim) id)
  ⟨w, pt_plain (w .o (by decide)) (fun sl t' sl' h => by
    rw [hev] at h
    obtain ⟨b, e2, h2, rfl⟩ := fin_t h
    exact ⟨t, b, by rw [hev]; rfl, e2, h2⟩) he⟩
theorem sd_int {i : Int} {j : Nat} : Sd X P (.Constant (.int i) j pos) (.cst (.int i)) := sd_c pe_int (fun _ _ => .int fun _ x => x) (fun _ => rfl) _ fun m sl => by simp only [ev]
theorem sd_bl {i : Bool} {j : Nat} : Sd X P (.Constant (.bool i) j pos) (.cst (.bl i)) := sd_c pe_bl (fun _ _ => .bl fun _ x => x) (fun _ => rfl) _ fun m sl => by simp only [ev]
theorem sd_str {i : Str} {j : Nat} : Sd X P (.Constant (.str i) j pos) (.cst (.str i)) := sd_c pe_str (fun _ _ => .str fun _ x => x) (fun _ => rfl) _ fun m sl => by simp only [ev]
theorem sd_non {j : Nat} : Sd X P (.Constant .none j pos) (.cst .non) := sd_c pe_non (fun _ _ => .non fun _ x => x) (fun _ => rfl) _ fun m sl => by simp only [ev]
theorem sd_glb {n : Str} {t : T} {v : V} {u : Value} (hg : Gl X n) (hm : X.mg n = some u) (r : RelV v u) (R : ∀ F H, Rep X.K F H t v nop) (hd : (n == ("__debug__" : Str)) = false) : Sd X P (.Name n pos) (.glb n t) :=
  sd_c (pe_glob hg hm r hd) R (fun _ => rfl) _ fun m sl => by simp only [ev]
/-! ### one operand -/
theorem ev_op1 {m : Md} {o : O1} {sl sl' : SL} {t : T} (h : ev P m (.op1 o a') sl = some (t, sl')) : ∃ t1 sl1 r, ev P .o a' sl = some (t1, sl1) ∧ op1 o t1 = some r ∧ fin m false r sl1 = some (t, sl') := by
  simp only [ev, Option.bind_eq_some_iff] at h
  obtain ⟨⟨t1, sl1⟩, e1, r, e3, e4⟩ := h
  exact ⟨t1, sl1, r, e1, e3, e4⟩
theorem core1 {m : Md} {o : O1} {σ : L2.St} {H : Hp} {Q : VK} (hm : m ≠ .t) (h : tev X.K P m (.op1 o a') σ H Q) : tev X.K P .o a' σ H fun x H1 => rT1 X.K o x H1 Q := by
  obtain ⟨F, sl, p, t, sl', ex, S, e, k⟩ := h
  obtain ⟨t1, sl1, r, e1, e3, e4⟩ := ev_op1 e
  obtain ⟨rfl, rfl, _⟩ := fin_some hm e4
  exact ⟨F, sl, p, t1, _, ex, S, e1, fun v1 F1 H1 pv1 p1 ex1 S1 R1 d1 st1 => ⟨F1, t1, pv1, _, ex1, R1, e3, k.op S1 (st1.sub fun a x => .inr x)⟩⟩
theorem core1t {o : O1} {σ : L2.St} {H : Hp} {Q : Bool → Hp → Prop} (hb : ∀ t r, op1 o t = some r → ∃ k, r = .bl k) (h : tevT X.K P (.op1 o a') σ H Q) :
    tev X.K P .o a' σ H fun x H1 => rT1 X.K o x H1 fun z H3 => ∃ k, z = .bl k ∧ Q k H3 := by
  obtain ⟨F, sl, p, bb, sl', ex, S, e, k⟩ := h
  obtain ⟨t1, sl1, r, e1, e3, e4⟩ := ev_op1 e
  obtain ⟨b2, h1, h2, rfl⟩ := fin_t e4
  cases h2
  obtain ⟨kk, rfl⟩ := hb _ _ e3
  cases h1
  refine ⟨F, sl, p, t1, _, ex, S, e1, fun v1 F1 H1 pv1 p1 ex1 S1 R1 d1 st1 => ⟨F1, t1, pv1, _, ex1, R1, e3, fun v F2 H2 pv ex2 R s2 => ?_⟩⟩
  obtain ⟨hv, hq⟩ := k.op S1 (st1.sub fun a x => .inr x) v F2 H2 pv ex2 R s2
  exact ⟨_, hv, hq⟩
theorem plain_op1 {o : O1} : Plain P (.op1 o a') := fun sl t sl' h => by
  obtain ⟨t1, sl1, r, e1, e3, e4⟩ := ev_op1 h
  obtain ⟨b, h1, h2, rfl⟩ := fin_t e4
  exact ⟨r, b, by simp only [ev, e1, Option.bind_some, e3, fin], h1, h2⟩
theorem sd_un {op : UnaryOp} {o : O1} (hn : op ≠ .Not) (ho : UnR X (unaryOp op) (rT1 X.K o)) (ha : Sd X P a a') : Sd X P (.UnaryOp op a pos) (.op1 o a') :=
  have v : ∀ m, m ≠ .t → PE X (.UnaryOp op a pos) (tev X.K P m (.op1 o a')) := fun m hm => pe_imp (pe_un ho (ha.v .o (by decide))) fun σ H Q h => core1 hm h
  ⟨v, pt_plain (v .o (by decide)) plain_op1 fun _ => by cases op <;> first | rfl | exact absurd rfl hn⟩
theorem sd_callB1 {n : Str} {id : String} {o : O1} {p : Pos} (hc : CallR X (.builtin id) (rC1 X.K o)) (hg : Gl X n) (hm : X.mg n = none) (hv : bootBuiltins n = some (.builtin id)) (ha : Sd X P a a') (hn : n ≠ "__name__") (hdb : (n == ("__debug__" : Str)) = false)
    (he : starEach [a] X.env = (false, eval a X.env) :: starEach [] X.env) : Sd X P (.Call (.Name n p) [a] [] pos) (.op1 o a') :=
  have v : ∀ m, m ≠ .t → PE X (.Call (.Name n p) [a] [] pos) (tev X.K P m (.op1 o a')) := fun m hmm => pe_imp (pe_callB hc hg hm hv (pa_cons (ha.v .o (by decide)) pa_nil he) hn hdb he) fun σ H Q h => by
    obtain ⟨F, sl, p, t, sl', ex, S, e, k⟩ := core1 hmm h
    exact ⟨F, sl, p, t, sl', ex, S, e, fun v F' H' pv p' ex' S' R d st => ⟨v, rfl, k v F' H' pv p' ex' S' R d st⟩⟩
  ⟨v, pt_plain (v .o (by decide)) plain_op1 fun _ => rfl⟩
theorem sd_callT1 {n : Str} {id : String} {o : O1} {p : Pos} (hc : CallR X (.type id) (rC1 X.K o)) (hg : Gl X n) (hm : X.mg n = none) (hv : bootBuiltins n = some (.type id)) (ha : Sd X P a a') (hn : n ≠ "__name__") (hdb : (n == ("__debug__" : Str)) = false)
    (he : starEach [a] X.env = (false, eval a X.env) :: starEach [] X.env) : Sd X P (.Call (.Name n p) [a] [] pos) (.op1 o a') :=
  have v : ∀ m, m ≠ .t → PE X (.Call (.Name n p) [a] [] pos) (tev X.K P m (.op1 o a')) := fun m hmm => pe_imp (pe_callTy hc hg hm hv (pa_cons (ha.v .o (by decide)) pa_nil he) hn hdb he) fun σ H Q h => by
    obtain ⟨F, sl, p, t, sl', ex, S, e, k⟩ := core1 hmm h
    exact ⟨F, sl, p, t, sl', ex, S, e, fun v F' H' pv p' ex' S' R d st => ⟨v, rfl, k v F' H' pv p' ex' S' R d st⟩⟩
  ⟨v, pt_plain (v .o (by decide)) plain_op1 fun _ => rfl⟩
end
end Pv

/-! Expressions, on: subscripts, fields, truth, chains, displays, arguments. -/
namespace Pv
open PySem L2 PyProof.Rows
section
variable {K : PySem.W.Frag} {F F' H H' : Hp} {σ : L2.St} {sl sl' sl2 : SL} {p p' q r pv : FP} {P : Pg} {m : Md} {t t' : T} {Q : VK} {d : Bool}
theorem Reps.atI {ts : List T} {xs : List V} {i : Int} {t : T} (h : Reps K F H ts xs p) (g : L2.atI ts i = some t) : ∃ v q, L2.atI xs i = some v ∧ Rep K F H t v q ∧ ∀ a, q a → p a := by
  have l := h.length
  unfold L2.atI at g ⊢
  cases e : ixN ts.length i with
  | none => rw [e] at g; cases g
  | some j =>
    rw [e] at g
    obtain ⟨v, q, e1, R, sub⟩ := h.at_ (i := j) (t := t) g
    exact ⟨v, q, by rw [← l, e]; exact e1, R, sub⟩
end
section
variable {X : Cx} {P : Pg} {a b c x y : Expr} {a' b' c' e : E} {pos : Pos}
theorem ev_idx {m : Md} {sl sl' : SL} {t : T} (h : ev P m (.idx a' b') sl = some (t, sl')) : ∃ t1 sl1 t2 sl2 r, ev P .o a' sl = some (t1, sl1) ∧ sec P a' b' t1 sl1 = some (t2, sl2) ∧ idxT t1 t2 = some r ∧ fin m true r sl2 = some (t, sl') := by
  simp only [ev, Option.bind_eq_some_iff] at h
  obtain ⟨⟨t1, sl1⟩, e1, ⟨t2, sl2⟩, e2, r, e3, e4⟩ := h
  exact ⟨t1, sl1, t2, sl2, r, e1, e2, e3, e4⟩
theorem plain_idx : Plain P (.idx a' b') := fun sl t sl' h => by
  obtain ⟨t1, sl1, t2, sl2, r, e1, e2, e3, e4⟩ := ev_idx h
  obtain ⟨b, h1, h2, rfl⟩ := fin_t e4
  refine ⟨r, b, ?_, h1, h2⟩
  have e2' : (if over a' && !isF t1 then (ev P .o b' (brw sl1)).bind fun r2 => if atom r2.1 then some (r2.1, sl1) else none else ev P .o b' sl1) = some (t2, sl') := e2
  simp only [ev, e1, Option.bind_some, e2', e3, fin]
theorem sd_idx (hu : X.A.units + 1 < cLine) (ha : Sd X P a a') (hb : Sd X P b b') (hs : PlainIx b) : Sd X P (.Subscript a b pos) (.idx a' b') :=
  have v : ∀ m, m ≠ .t → PE X (.Subscript a b pos) (tev X.K P m (.idx a' b')) := fun m hm => pe_any fun σ H Q ⟨F, sl, p, t, sl', ex, S, e, k⟩ => by
    obtain ⟨t1, sl1, t2, sl2, r, e1, e2, e3, e4⟩ := ev_idx e
    obtain ⟨rfl, rfl, hf⟩ := fin_some hm e4
    have fin_ : ∀ {F' H' : Hp} {pv1 p' q : FP} {v : V}, Ex F' H' → SlR X.K F' H' sl' σ p' → Rep X.K F' H' t v q → (∀ a, q a → pv1 a) → (over a' = false → Dj pv1 p') → Stp p F H (fun a => pv1 a ∨ p' a) F' H' → Q v H' := fun {F' H' pv1 p' q v} ex' S' R sub dj st => by
      refine k v F' H' q p' ex' S' R (fun z => ?_) (st.sub fun a x => x.imp (sub a) id)
      cases m with
      | t => exact absurd rfl hm
      | e => exact fun a x _ => R.of_isF (hf rfl rfl) a x
      | o => exact fun a x y => dj (by simpa [apart, over] using z) a (sub a x) y
    cases t1 with
    | lst o ts =>
      refine ⟨_, pe_ix ix_list (ha.v .o (by decide)) (hb.v .o (by decide)) hs, two ex S e1 e2 fun v1 v2 F' H' pv1 pv2 p' ex' S' R1 R2 dj st => ?_⟩
      cases t2 <;> first | (cases e3; done) | skip
      obtain ⟨rfl, _⟩ := R2.int'
      obtain ⟨a, xs, q, rfl, s1, r1, sub, _⟩ := R1.seqL ex'
      obtain ⟨v, q2, g, R, sub2⟩ := r1.atI e3
      exact ⟨a, xs, _, v, rfl, rfl, .inl s1, g, fin_ ex' S' R (fun a x => sub a (sub2 a x)) dj st⟩
    | tup ts =>
      refine ⟨_, pe_ix ix_tup (ha.v .o (by decide)) (hb.v .o (by decide)) hs, two ex S e1 e2 fun v1 v2 F' H' pv1 pv2 p' ex' S' R1 R2 dj st => ?_⟩
      cases t2 <;> first | (cases e3; done) | skip
      obtain ⟨rfl, _⟩ := R2.int'
      obtain ⟨a, xs, rfl, s1, r1⟩ := R1.seqT ex'
      obtain ⟨v, q2, g, R, sub2⟩ := r1.atI e3
      exact ⟨a, xs, _, v, rfl, rfl, s1, g, fin_ ex' S' R sub2 dj st⟩
    | dct o kd ks ts =>
      cases kd with
      | true => cases e3
      | false =>
        obtain ⟨kk, e5, e6⟩ := Option.bind_eq_some_iff.mp (show ((keyT t2).bind fun k => (ks.idxOf? [k]).bind fun i => ts[i]?) = some t from e3)
        obtain ⟨i, e7, e8⟩ := Option.bind_eq_some_iff.mp e6
        refine ⟨_, pe_dget hu (ha.v .o (by decide)) (hb.v .o (by decide)) fun o i => hs o i, two ex S e1 e2 fun v1 v2 F' H' pv1 pv2 p' ex' S' R1 R2 dj st => ?_⟩
        obtain ⟨rfl, _, _⟩ := keyT_kV R2 e5
        obtain ⟨a, xs, q, rfl, g, r1, sub, hl, _⟩ := R1.dget ex' kk
        obtain ⟨v, q2, g2, R, sub2⟩ := r1.at_ e8
        rw [e7, show ((some i).bind fun i => xs[i]?) = some v from g2] at g
        exact ⟨a, v, rfl, g, fin_ ex' S' R (fun a x => sub a (sub2 a x)) dj st⟩
    | _ => cases e3
  ⟨v, pt_plain (v .o (by decide)) plain_idx fun _ => rfl⟩
/-! ### fields -/
theorem lookup_idx {f : Str} : ∀ {fs : List (Str × V)} {i : Nat} {v : V}, (fs.map (·.1)).idxOf? f = some i → (fs.map (·.2))[i]? = some v → fs.lookup f = some v
  | [], i, v, h, _ => by simp at h
  | (g, w) :: fs, i, v, h, hv => by
    simp only [List.map_cons, List.idxOf?_cons] at h
    rw [List.lookup_cons]
    by_cases c : g == f
    · have c2 : (f == g) = true := by rw [beq_iff_eq] at c ⊢; exact c.symm
      rw [if_pos c] at h
      cases h
      rw [c2]
      simpa using hv
    · have c2 : (f == g) = false := by
        cases z : f == g with
        | false => rfl
        | true => exact absurd (by rw [beq_iff_eq] at z ⊢; exact z.symm) c
      rw [if_neg c] at h
      obtain ⟨j, e, rfl⟩ := Option.map_eq_some_iff.mp h
      rw [c2]
      exact lookup_idx e (by simpa using hv)
theorem lookup_none {f : Str} : ∀ {fs : List (Str × V)}, (fs.map (·.1)).contains f = false → fs.lookup f = none
  | [], _ => rfl
  | (g, w) :: fs, h => by
    simp only [List.map_cons, List.contains_cons, Bool.or_eq_false_iff] at h
    rw [List.lookup_cons, h.1]
    exact lookup_none h.2
theorem Rep.insI {K : PySem.W.Frag} {F H : Hp} {p : FP} {o : Bool} {c : Str} {ns : List Str} {ts : List T} {v : V} (h : Rep K F H (.ins o c ns ts) v p) (ex : Ex F H) :
    ∃ a dx fs q, v = .ref a ∧ H a = some (.ins (He.ga K c) dx fs) ∧ fs.map (·.1) = ns ∧ Reps K F H ts (fs.map (·.2)) q ∧ (∀ b, q b → p b) ∧ (o = true → p a ∧ F a = none ∧ ¬ q a ∧ ∀ b, p b ↔ b = a ∨ q b) := by
  cases h with
  | insF h w r => exact ⟨_, _, _, _, rfl, ex _ _ h, w, r, fun _ x => x, fun z => by cases z⟩
  | insO n h w r d e => exact ⟨_, _, _, _, rfl, h, w, r, fun b x => (e b).mpr (.inr x), fun _ => ⟨(e _).mpr (.inl rfl), n, d, e⟩⟩
/-- what is known of the program's classes -/
structure ClsOk (K : PySem.W.Frag) (P : Pg) : Prop where
  fd : ∀ c f, P.fd c f = true → Cls K (He.ga K c) ∧ NoAttr K (He.ga K c) f
theorem ev_fld {m : Md} {sl sl' : SL} {t : T} {f : Str} (h : ev P m (.fld a' f) sl = some (t, sl')) : ∃ t1 sl1 r, ev P .o a' sl = some (t1, sl1) ∧ child P t1 f = some r ∧ fin m true r sl1 = some (t, sl') := by
  simp only [ev, Option.bind_eq_some_iff] at h
  obtain ⟨⟨t1, sl1⟩, e1, r, e3, e4⟩ := h
  exact ⟨t1, sl1, r, e1, e3, e4⟩
theorem plain_fld {f : Str} : Plain P (.fld a' f) := fun sl t sl' h => by
  obtain ⟨t1, sl1, r, e1, e3, e4⟩ := ev_fld h
  obtain ⟨b, h1, h2, rfl⟩ := fin_t e4
  exact ⟨r, b, by simp only [ev, e1, Option.bind_some, e3, fin], h1, h2⟩
theorem child_some {t r : T} {f : Str} (h : child P t f = some r) : ∃ o c ns ts i, t = .ins o c ns ts ∧ P.fd c f = true ∧ ns.idxOf? f = some i ∧ ts[i]? = some r := by
  cases t <;> first | (cases h; done) | skip
  rename_i o c ns ts
  have h' : (if P.fd c f then (ns.idxOf? f).bind fun i => ts[i]? else none) = some r := h
  by_cases hf : P.fd c f = true
  · rw [if_pos hf] at h'
    obtain ⟨i, e1, e2⟩ := Option.bind_eq_some_iff.mp h'
    exact ⟨o, c, ns, ts, i, rfl, hf, e1, e2⟩
  · rw [if_neg hf] at h'; cases h'
theorem sd_fld {f : Str} (C : ClsOk X.K P) (ha : Sd X P a a') (hb : attributeBase a f X.env (eval a X.env) = eval a X.env) : Sd X P (.Attribute a f pos) (.fld a' f) :=
  have v : ∀ m, m ≠ .t → PE X (.Attribute a f pos) (tev X.K P m (.fld a' f)) := fun m hm => pe_imp (pe_fld (ha.v .o (by decide)) hb) fun σ H Q ⟨F, sl, p, t, sl', ex, S, e, k⟩ => by
    obtain ⟨t1, sl1, r, e1, e3, e4⟩ := ev_fld e
    obtain ⟨rfl, rfl, hf⟩ := fin_some hm e4
    obtain ⟨o, c, ns, ts, i, rfl, h1, h2, h3⟩ := child_some e3
    obtain ⟨c1, c2⟩ := C.fd c f h1
    refine ⟨F, sl, p, _, _, ex, S, e1, fun v1 F1 H1 pv1 p1 ex1 S1 R1 d1 st1 => ?_⟩
    obtain ⟨a0, dx, fs, q, rfl, g1, rfl, g3, sub, _⟩ := R1.insI ex1
    obtain ⟨v, q2, g4, R, sub2⟩ := g3.at_ h3
    refine ⟨a0, _, dx, fs, v, rfl, g1, c1, c2, lookup_idx h2 g4, k v F1 H1 q2 p1 ex1 S1 R (fun z => ?_) (st1.sub fun a x => x.imp (fun y => sub a (sub2 a y)) id)⟩
    cases m with
    | t => exact absurd rfl hm
    | e => exact fun a x _ => R.of_isF (hf rfl rfl) a x
    | o => exact fun a x y => d1 (by simpa [apart, over] using z) a (sub a (sub2 a x)) y
  ⟨v, pt_plain (v .o (by decide)) plain_fld fun _ => rfl⟩
/-! ### truth -/
theorem sd_nt (ha : Sd X P a a') : Sd X P (.UnaryOp .Not a pos) (.nt a') where
  v := fun m hm => pe_imp (pe_notT (ha.v .o (by decide))) fun σ H Q ⟨F, sl, p, t, sl', ex, S, e, k⟩ => by
    have e' : (ev P .o a' sl).bind (fun r => (tru r.1).bind fun b => some (T.bl (!b), r.2)) = some (t, sl') := by
      cases m with
      | t => exact absurd rfl hm
      | o => simpa only [ev] using e
      | e => simpa only [ev] using e
    obtain ⟨⟨t1, sl1⟩, e1, e2⟩ := Option.bind_eq_some_iff.mp e'
    obtain ⟨b, e3, e4⟩ := Option.bind_eq_some_iff.mp e2
    cases e4
    exact ⟨F, sl, p, t1, _, ex, S, e1, fun v1 F1 H1 pv1 p1 ex1 S1 R1 d1 st1 => ⟨b, truV R1 ex1 e3, k _ F1 H1 nop p1 ex1 S1 (.bl fun _ x => x) (fun _ _ x => x.elim) (st1.sub fun a x => x.elim (fun z => z.elim) .inr)⟩⟩
  t := pt_imp (pt_not ha.t) fun σ H Q ⟨F, sl, p, b, sl', ex, S, e, k⟩ => by
    simp only [ev, Option.bind_eq_some_iff] at e
    obtain ⟨⟨t1, sl1⟩, e1, e2⟩ := e
    cases t1 <;> first | (cases e2; done) | skip
    cases e2
    exact ⟨F, sl, p, _, _, ex, S, e1, fun F1 H1 p1 ex1 S1 st1 => k F1 H1 p1 ex1 S1 st1⟩
theorem Kv.both {K : PySem.W.Frag} {F F' H H' : Hp} {σ : L2.St} {sl' : SL} {p p' : FP} {t : T} {Q : VK} {d d' : Bool} (k : Kv K p F H σ d t sl' Q) (st : Stp p F H p' F' H') (hd : d = true → d' = true) : Kv K p' F' H' σ d' t sl' Q :=
  fun v F2 H2 pv p2 ex2 S2 R2 d2 st2 => k v F2 H2 pv p2 ex2 S2 R2 (fun z => d2 (hd z)) (st.trans st2)
theorem Kt.both {K : PySem.W.Frag} {F F' H H' : Hp} {σ : L2.St} {sl' : SL} {p p' : FP} {b : Bool} {Q : Bool → Hp → Prop} (k : Kt K p F H σ b sl' Q) (st : Stp p F H p' F' H') : Kt K p' F' H' σ b sl' Q :=
  fun F2 H2 p2 ex2 S2 st2 => k F2 H2 p2 ex2 S2 (st.trans st2)
/-- and, or: a row of expressions -/
structure SdB (X : Cx) (P : Pg) (op : BoolOp) (xs : List Expr) (pos : Pos) (e : E) : Prop where
  v : PE X (.BoolOp op xs pos) (tev X.K P .e e)
  t : PW X (.BoolOp op xs pos) (tevT X.K P e)
theorem pw_imp {e : Expr} {t t' : TT} (h1 : PW X e t) (h : ∀ σ H Q, t' σ H Q → t σ H Q) : PW X e t' := ⟨fun wh pins s σ H Q I w => h1.run wh pins s σ H Q I (h σ H Q w)⟩
theorem sdb_one {op : BoolOp} (ha : Sd X P a a') : SdB X P op [a] pos a' := ⟨pe_one (ha.v .e (by decide)), by cases op <;> first | exact pw_and1 ha.t | exact pw_or1 ha.t⟩
theorem sdb_and {rest : List Expr} (ha : Sd X P a a') (hb : SdB X P .And (b :: rest) pos b') : SdB X P .And (a :: b :: rest) pos (.an a' b') where
  v := pe_imp (pe_andT (ha.v .e (by decide)) hb.v) fun σ H Q ⟨F, sl, p, t, sl', ex, S, e, k⟩ => by
    simp only [ev, Option.bind_eq_some_iff] at e
    obtain ⟨⟨t1, sl1⟩, e1, b, e2, e3⟩ := e
    refine ⟨F, sl, p, t1, sl1, ex, S, e1, fun v1 F1 H1 pv1 p1 ex1 S1 R1 d1 st1 => ⟨b, truV R1 ex1 e2, ?_⟩⟩
    cases b with
    | true =>
      rw [if_pos rfl] at e3 ⊢
      exact ⟨F1, sl1, p1, t, sl', ex1, S1, e3, k.both (st1.sub fun a x => .inr x) fun _ => rfl⟩
    | false =>
      rw [if_neg (by decide)] at e3 ⊢
      cases e3
      exact k v1 F1 H1 pv1 p1 ex1 S1 R1 (fun _ => d1 rfl) st1
  t := pw_imp (pw_and ha.t hb.t) fun σ H Q ⟨F, sl, p, b, sl', ex, S, e, k⟩ => by
    simp only [ev, Option.bind_eq_some_iff] at e
    obtain ⟨⟨t1, sl1⟩, e1, e3⟩ := e
    cases t1 <;> first | (cases e3; done) | skip
    rename_i b1
    refine ⟨F, sl, p, b1, sl1, ex, S, e1, fun F1 H1 p1 ex1 S1 st1 => ?_⟩
    cases b1 with
    | true =>
      rw [if_pos rfl]
      exact ⟨F1, sl1, p1, b, sl', ex1, S1, e3, k.both st1⟩
    | false =>
      rw [if_neg (by decide)]
      cases e3
      exact k F1 H1 p1 ex1 S1 st1
theorem sdb_or {rest : List Expr} (ha : Sd X P a a') (hb : SdB X P .Or (b :: rest) pos b') : SdB X P .Or (a :: b :: rest) pos (.orr a' b') where
  v := pe_imp (pe_orT (ha.v .e (by decide)) hb.v) fun σ H Q ⟨F, sl, p, t, sl', ex, S, e, k⟩ => by
    simp only [ev, Option.bind_eq_some_iff] at e
    obtain ⟨⟨t1, sl1⟩, e1, b, e2, e3⟩ := e
    refine ⟨F, sl, p, t1, sl1, ex, S, e1, fun v1 F1 H1 pv1 p1 ex1 S1 R1 d1 st1 => ⟨b, truV R1 ex1 e2, ?_⟩⟩
    cases b with
    | false =>
      rw [if_neg (by decide)] at e3 ⊢
      exact ⟨F1, sl1, p1, t, sl', ex1, S1, e3, k.both (st1.sub fun a x => .inr x) fun _ => rfl⟩
    | true =>
      rw [if_pos rfl] at e3 ⊢
      cases e3
      exact k v1 F1 H1 pv1 p1 ex1 S1 R1 (fun _ => d1 rfl) st1
  t := pw_imp (pw_or ha.t hb.t) fun σ H Q ⟨F, sl, p, b, sl', ex, S, e, k⟩ => by
    simp only [ev, Option.bind_eq_some_iff] at e
    obtain ⟨⟨t1, sl1⟩, e1, e3⟩ := e
    cases t1 <;> first | (cases e3; done) | skip
    rename_i b1
    refine ⟨F, sl, p, b1, sl1, ex, S, e1, fun F1 H1 p1 ex1 S1 st1 => ?_⟩
    cases b1 with
    | false =>
      rw [if_neg (by decide)]
      exact ⟨F1, sl1, p1, b, sl', ex1, S1, e3, k.both st1⟩
    | true =>
      rw [if_pos rfl]
      cases e3
      exact k F1 H1 p1 ex1 S1 st1
theorem sd_and {xs : List Expr} (h : SdB X P .And xs pos (.an a' b')) : Sd X P (.BoolOp .And xs pos) (.an a' b') where
  v := fun m hm => by
    cases m with
    | t => exact absurd rfl hm
    | e => exact h.v
    | o =>
      refine pe_imp h.v fun σ H Q ⟨F, sl, p, t, sl', ex, S, e, k⟩ => ⟨F, sl, p, t, sl', ex, S, ?_, k⟩
      simp only [ev] at e ⊢
      exact e
  t := h.t.pt
theorem sd_or {xs : List Expr} (h : SdB X P .Or xs pos (.orr a' b')) : Sd X P (.BoolOp .Or xs pos) (.orr a' b') where
  v := fun m hm => by
    cases m with
    | t => exact absurd rfl hm
    | e => exact h.v
    | o =>
      refine pe_imp h.v fun σ H Q ⟨F, sl, p, t, sl', ex, S, e, k⟩ => ⟨F, sl, p, t, sl', ex, S, ?_, k⟩
      simp only [ev] at e ⊢
      exact e
  t := h.t.pt
theorem pt_none {x : Expr} {e : E} (h : ∀ sl, ev P .t e sl = none) : PT X x (tevT X.K P e) := ⟨fun pins s σ H Q I ⟨F, sl, p, b, sl', ex, S, ee, k⟩ => by rw [h] at ee; cases ee⟩
theorem sd_ite (hc : Sd X P c c') (ha : Sd X P a a') (hb : Sd X P b b') : Sd X P (.IfExp c a b pos) (.ite c' a' b') where
  v := fun m hm => pe_imp (pe_ifExp hc.t (ha.v .e (by decide)) (hb.v .e (by decide))) fun σ H Q ⟨F, sl, p, t, sl', ex, S, e, k⟩ => by
    have e' : ∃ b1 sl1, ev P .t c' sl = some (.bl b1, sl1) ∧ (if b1 = true then ev P .e a' sl1 else ev P .e b' sl1) = some (t, sl') := by
      cases m with
      | t => exact absurd rfl hm
      | o =>
        simp only [ev, Option.bind_eq_some_iff] at e
        obtain ⟨⟨t1, sl1⟩, e1, e2⟩ := e
        cases t1 <;> first | (cases e2; done) | skip
        rename_i b1
        exact ⟨b1, sl1, e1, by cases b1 <;> exact e2⟩
      | e =>
        simp only [ev, Option.bind_eq_some_iff] at e
        obtain ⟨⟨t1, sl1⟩, e1, e2⟩ := e
        cases t1 <;> first | (cases e2; done) | skip
        rename_i b1
        exact ⟨b1, sl1, e1, by cases b1 <;> exact e2⟩
    obtain ⟨b1, sl1, e1, e2⟩ := e'
    have hd2 : apart m (.ite c' a' b') = true := by cases m <;> first | rfl | exact absurd rfl hm
    refine ⟨F, sl, p, b1, sl1, ex, S, e1, fun F1 H1 p1 ex1 S1 st1 => ?_⟩
    cases b1 with
    | true =>
      rw [if_pos rfl] at e2 ⊢
      exact ⟨F1, sl1, p1, t, sl', ex1, S1, e2, k.both st1 fun _ => rfl⟩
    | false =>
      rw [if_neg (by decide)] at e2 ⊢
      exact ⟨F1, sl1, p1, t, sl', ex1, S1, e2, k.both st1 fun _ => rfl⟩
  t := pt_none fun sl => by simp only [ev]
/-! ### chains of comparisons -/
/-- a chain, the value to its left given: as a value, as a test -/
structure SdC (X : Cx) (P : Pg) (pos : Pos) (ops : List CmpOp) (xs : List Expr) (c : Ch) : Prop where
  v : ∀ (pins : List (Addr × Obj)) (s : Shared) (σ : L2.St) (H : Hp) (Q : VK) (x : V) (u : Value) (F : Hp) (t : T) (pt : FP) (sl : SL) (p : FP) (b : Bool) (sl' : SL), Inv X pins σ H s → RelV x u → Ex F H → Rep X.K F H t x pt → SlR X.K F H sl σ p → Dj pt p → evC P t c sl = some (.bl b, sl') →
    (∀ F' H' p', Ex F' H' → SlR X.K F' H' sl' σ p' → Stp p F H p' F' H' → Q (.bl b) H') →
    wpAny (model X.prog X.w) X.A (compareChain pos u ops (evalEach xs X.env)) (EP X pins σ Q) X.xe s
  t : ∀ (pins : List (Addr × Obj)) (s : Shared) (σ : L2.St) (H : Hp) (Q : Bool → Hp → Prop) (x : V) (u : Value) (F : Hp) (t : T) (pt : FP) (sl : SL) (p : FP) (b : Bool) (sl' : SL), Inv X pins σ H s → RelV x u → Ex F H → Rep X.K F H t x pt → SlR X.K F H sl σ p → Dj pt p → evC P t c sl = some (.bl b, sl') →
    (∀ F' H' p', Ex F' H' → SlR X.K F' H' sl' σ p' → Stp p F H p' F' H' → Q b H') →
    wpAny (model X.prog X.w) X.A (testChain pos u ops (evalEach xs X.env)) (TP X pins σ Q) X.xe s
/-- one comparison of the chain: the right side is reckoned, then the operation -/
theorem link {o : O2} {op : CmpOp} {pins : List (Addr × Obj)} {s : Shared} {σ : L2.St} {F H : Hp} {x : V} {u : Value} {t t2 r : T} {pt p : FP} {sl sl2 : SL} {G : Value → V → Value → Shared → Prop} (ho : OpR X (compareOp op) (rT2 X.K o)) (hb : Sd X P b b')
    (I : Inv X pins σ H s) (rx : RelV x u) (ex : Ex F H) (R : Rep X.K F H t x pt) (S : SlR X.K F H sl σ p) (dj : Dj pt p) (e1 : ev P .e b' sl = some (t2, sl2)) (e2 : op2 o t t2 = some r)
    (k : ∀ (w : Value) (z y : V) (v : Value) (s3 : Shared) (F3 H3 : Hp) (pv pz p3 : FP), Inv X pins σ H3 s3 → RelV y v → RelV z w → Ex F3 H3 → SlR X.K F3 H3 sl2 σ p3 → Rep X.K F3 H3 t2 y pv → Rep X.K F3 H3 r z pz → Dj pv p3 → Stp p F H p3 F3 H3 → G v z w s3) :
    wpAny (model X.prog X.w) X.A (eval b X.env) (fun v s₁ => wpAny (model X.prog X.w) X.A (compareOp op u v) (fun w s₂ => ∃ z, G v z w s₂) X.xe s₁) X.xe s := by
  refine thn ((hb.v .e (by decide)).run pins s σ H (fun y H2 => ∃ F2 p2 pv, Ex F2 H2 ∧ SlR X.K F2 H2 sl2 σ p2 ∧ Rep X.K F2 H2 t2 y pv ∧ Dj pv p2 ∧ Rep X.K F2 H2 t x pt ∧ Stp p F H p2 F2 H2) I ⟨F, sl, p, t2, sl2, ex, S, e1, fun v F' H' pv p' ex' S' R' d' st => ?_⟩) fun v s2 ⟨y, H2, I2, ry, F2, p2, pv, ex2, S2, R2, dj2, Rx, st2⟩ => ?_
  · obtain ⟨a1, a2, a3⟩ := st.frame R.own dj.symm
    exact ⟨F', p', pv, ex', S', R', d' rfl, R.frame st.ex a1, st.sub fun a x => .inr x⟩
  · refine thn (ho pins s2 σ H2 x y u v (fun z H3 => ∃ F3 pz, Ex F3 H3 ∧ SlR X.K F3 H3 sl2 σ p2 ∧ Rep X.K F3 H3 t2 y pv ∧ Rep X.K F3 H3 r z pz ∧ Stp p F H p2 F3 H3) I2 rx ry ⟨F2, t, t2, pt, pv, r, ex2, Rx, R2, e2, fun z F3 H3 pz ex3 Rz st3 => ?_⟩) fun w s3 ⟨z, H3, I3, rz, F3, pz, ex3, S3, R3, Rz, st3⟩ => ⟨z, k w z y v s3 F3 H3 pv pz p2 I3 ry rz ex3 S3 R3 Rz dj2 st3⟩
    obtain ⟨a1, a2, a3⟩ := st3.frame (r := fun a => pv a ∨ p2 a) (fun a x => x.elim (R2.own a) (S2.own a)) (fun _ x => x.elim)
    refine ⟨F3, pz, ex3, S2.frame st3.ex fun a x => a1 a (.inr x), R2.frame st3.ex fun a x => a1 a (.inl x), Rz, ?_⟩
    obtain ⟨b1, b2, b3⟩ := st3.frame S2.own (fun _ x => x.elim)
    exact (st2.trans (b3.cg fun a => ⟨fun x => x.elim (fun z => z.elim) id, .inr⟩)).sub fun a x => .inr x
theorem sdc_last {o : O2} {op : CmpOp} (ho : OpR X (compareOp op) (rT2 X.K o)) (hb : Sd X P b b') : SdC X P pos [op] [b] (.last o b') where
  v := fun pins s σ H Q x u F t pt sl p bb sl' I rx ex R S dj e k => by
    simp only [evC, Option.bind_eq_some_iff] at e
    obtain ⟨⟨t2, sl2⟩, e1, r, e2, e3⟩ := e
    cases e3
    refine chain_last (thn (link ho hb I rx ex R S dj e1 e2 (G := fun _ z w s3 => EP X pins σ Q w s3) ?_) fun v s1 h => thn h fun w s2 ⟨_, h⟩ => h)
    exact fun w z y v s3 F3 H3 pv pz p3 I3 ry rz ex3 S3 R3 Rz dj3 st3 => by
      obtain ⟨rfl, _⟩ := Rz.bl'
      exact ⟨_, H3, I3, rz, k F3 H3 p3 ex3 S3 st3⟩
  t := fun pins s σ H Q x u F t pt sl p bb sl' I rx ex R S dj e k => by
    simp only [evC, Option.bind_eq_some_iff] at e
    obtain ⟨⟨t2, sl2⟩, e1, r, e2, e3⟩ := e
    cases e3
    refine test_last (thn (link ho hb I rx ex R S dj e1 e2 (G := fun _ z w s3 => wpAny (model X.prog X.w) X.A (truthy w) (TP X pins σ Q) X.xe s3) ?_) fun v s1 h => thn h fun w s2 ⟨_, h⟩ => h)
    exact fun w z y v s3 F3 H3 pv pz p3 I3 ry rz ex3 S3 R3 Rz dj3 st3 => by
      obtain ⟨rfl, _⟩ := Rz.bl'
      cases rz
      exact wpAny_truthy_bool ⟨H3, I3, k F3 H3 p3 ex3 S3 st3⟩
theorem sdc_more {o : O2} {op op' : CmpOp} {ops : List CmpOp} {xs : List Expr} {ch : Ch} (ho : OpR X (compareOp op) (rT2 X.K o)) (hb : Sd X P b b') (hc : SdC X P pos (op' :: ops) (c :: xs) ch) : SdC X P pos (op :: op' :: ops) (b :: c :: xs) (.more o b' ch) where
  v := fun pins s σ H Q x u F t pt sl p bb sl' I rx ex R S dj e k => by
    simp only [evC, Option.bind_eq_some_iff] at e
    obtain ⟨⟨t2, sl2⟩, e1, r, e2, e3⟩ := e
    cases r <;> first | (cases e3; done) | skip
    rename_i b1
    refine chain_link (thn (link ho hb I rx ex R S dj e1 e2 (G := fun v z w s3 => wpAny (model X.prog X.w) X.A (truthy w) (fun t s4 => if t then wpAny (model X.prog X.w) X.A (compareChain pos v (op' :: ops) (evalEach (c :: xs) X.env)) (EP X pins σ Q) X.xe s4 else EP X pins σ Q w s4) X.xe s3) ?_) fun v s1 h => thn h fun w s2 ⟨_, h⟩ => h)
    intro w z y v s3 F3 H3 pv pz p3 I3 ry rz ex3 S3 R3 Rz dj3 st3
    obtain ⟨rfl, _⟩ := Rz.bl'
    cases rz
    refine wpAny_truthy_bool ?_
    cases b1 with
    | true => exact hc.v pins s3 σ H3 Q y v F3 t2 pv sl2 p3 bb sl' I3 ry ex3 R3 S3 dj3 e3 fun F' H' p' ex' S' st' => k F' H' p' ex' S' (st3.trans st')
    | false =>
      cases e3
      exact ⟨.bl false, H3, I3, rfl, k F3 H3 p3 ex3 S3 st3⟩
  t := fun pins s σ H Q x u F t pt sl p bb sl' I rx ex R S dj e k => by
    simp only [evC, Option.bind_eq_some_iff] at e
    obtain ⟨⟨t2, sl2⟩, e1, r, e2, e3⟩ := e
    cases r <;> first | (cases e3; done) | skip
    rename_i b1
    refine test_link (thn (link ho hb I rx ex R S dj e1 e2 (G := fun v z w s3 => wpAny (model X.prog X.w) X.A (truthy w) (fun t s4 => if t then wpAny (model X.prog X.w) X.A (testChain pos v (op' :: ops) (evalEach (c :: xs) X.env)) (TP X pins σ Q) X.xe s4 else TP X pins σ Q false s4) X.xe s3) ?_) fun v s1 h => thn h fun w s2 ⟨_, h⟩ => h)
    intro w z y v s3 F3 H3 pv pz p3 I3 ry rz ex3 S3 R3 Rz dj3 st3
    obtain ⟨rfl, _⟩ := Rz.bl'
    cases rz
    refine wpAny_truthy_bool ?_
    cases b1 with
    | true => exact hc.t pins s3 σ H3 Q y v F3 t2 pv sl2 p3 bb sl' I3 ry ex3 R3 S3 dj3 e3 fun F' H' p' ex' S' st' => k F' H' p' ex' S' (st3.trans st')
    | false =>
      cases e3
      exact ⟨H3, I3, k F3 H3 p3 ex3 S3 st3⟩
theorem sd_chn {op1 op2 : CmpOp} {ops : List CmpOp} {xs : List Expr} {ch : Ch} (ha : Sd X P a a') (hc : SdC X P pos (op1 :: op2 :: ops) (b :: c :: xs) ch) (hm : lastMarks (op1 :: op2 :: ops) (b :: c :: xs) = false) : Sd X P (.Compare a (op1 :: op2 :: ops) (b :: c :: xs) pos) (.chn a' ch) where
  v := fun m hmm => ⟨fun pins s σ H Q I ⟨F, sl, p, t, sl', ex, S, e, k⟩ => by
    simp only [ev, Option.bind_eq_some_iff] at e
    obtain ⟨⟨t1, sl1⟩, e1, ⟨t2, sl2⟩, e2, e3⟩ := e
    cases t2 <;> first | (cases e3; done) | skip
    cases e3
    refine Compare_chain (thn ((ha.v .e (by decide)).run pins s σ H (fun y H2 => ∃ F2 p2 pv, Ex F2 H2 ∧ SlR X.K F2 H2 sl1 σ p2 ∧ Rep X.K F2 H2 t1 y pv ∧ Dj pv p2 ∧ Stp p F H p2 F2 H2) I ⟨F, sl, p, t1, sl1, ex, S, e1, fun v F' H' pv p' ex' S' R' d' st => ⟨F', p', pv, ex', S', R', d' rfl, st.sub fun a x => .inr x⟩⟩) fun v s2 ⟨y, H2, I2, ry, F2, p2, pv, ex2, S2, R2, dj2, st2⟩ => ?_) hm
    exact hc.v pins s2 σ H2 Q y v F2 t1 pv sl1 p2 _ _ I2 ry ex2 R2 S2 dj2 e2 fun F' H' p' ex' S' st' => k _ F' H' nop p' ex' S' (.bl fun _ x => x) (fun _ _ x => x.elim) ((st2.trans st').sub fun a x => x.elim (fun z => z.elim) id)⟩
  t := ⟨fun pins s σ H Q I ⟨F, sl, p, b1, sl', ex, S, e, k⟩ => by
    simp only [ev, Option.bind_eq_some_iff] at e
    obtain ⟨⟨t1, sl1⟩, e1, ⟨t2, sl2⟩, e2, e3⟩ := e
    cases t2 <;> first | (cases e3; done) | skip
    cases e3
    refine isTrue_chain (thn ((ha.v .e (by decide)).run pins s σ H (fun y H2 => ∃ F2 p2 pv, Ex F2 H2 ∧ SlR X.K F2 H2 sl1 σ p2 ∧ Rep X.K F2 H2 t1 y pv ∧ Dj pv p2 ∧ Stp p F H p2 F2 H2) I ⟨F, sl, p, t1, sl1, ex, S, e1, fun v F' H' pv p' ex' S' R' d' st => ⟨F', p', pv, ex', S', R', d' rfl, st.sub fun a x => .inr x⟩⟩) fun v s2 ⟨y, H2, I2, ry, F2, p2, pv, ex2, S2, R2, dj2, st2⟩ => ?_) hm
    exact hc.t pins s2 σ H2 Q y v F2 t1 pv sl1 p2 _ _ I2 ry ex2 R2 S2 dj2 e2 fun F' H' p' ex' S' st' => k F' H' p' ex' S' (st2.trans st')⟩
end
end Pv

/-! Displays, arguments, calls. -/
namespace Pv
open PySem L2 PyProof.Rows
section
variable {K : PySem.W.Frag} {F F' F2 H H' H2 : Hp} {σ : L2.St} {sl sl' sl2 : SL} {p p' q r pv : FP} {P : Pg} {m : Md} {t t' : T} {Q : VK} {d : Bool}
theorem Kv.new (k : Kv K p F H σ d t sl' Q) (S : SlR K F' H' sl' σ p') (st : Stp p F H (fun a => q a ∨ p' a) F' H') (dj : Dj q p') {v : V} (s2 : Stp q F' H' pv F2 H2) (ex2 : Ex F2 H2) (R : Rep K F2 H2 t v pv) : Q v H2 := by
  obtain ⟨a1, a2, a3⟩ := s2.frame S.own dj
  exact k v F2 H2 pv p' ex2 (S.frame s2.ex a1) R (fun _ => a2) (st.trans a3)
end
def tevL (K : PySem.W.Frag) (P : Pg) (es : Es) : TA := fun σ H Q => ∃ F sl p ts sl', Ex F H ∧ SlR K F H sl σ p ∧ evL P es sl = some (ts, sl') ∧
  ∀ vs F' H' pv p', Ex F' H' → SlR K F' H' sl' σ p' → Reps K F' H' ts vs pv → Dj pv p' → Stp p F H (fun a => pv a ∨ p' a) F' H' → Q vs H'
inductive Lent (σ : L2.St) : List (Option Nat) → List V → Prop where
  | nil : Lent σ [] []
  | no {bs vs v} (h : Lent σ bs vs) : Lent σ (none :: bs) (v :: vs)
  | yes {bs vs v i} (e : σ[i]? = some (some v)) (h : Lent σ bs vs) : Lent σ (some i :: bs) (v :: vs)
def tevA (K : PySem.W.Frag) (P : Pg) (es : Es) : TA := fun σ H Q => ∃ F sl p ts bs sl', Ex F H ∧ SlR K F H sl σ p ∧ evA P es sl = some (ts, bs, sl') ∧
  ∀ vs F' H' pv p', Ex F' H' → SlR K F' H' sl' σ p' → Reps K F' H' ts vs pv → Dj pv p' → Lent σ bs vs → Stp p F H (fun a => pv a ∨ p' a) F' H' → Q vs H'
theorem set_same {σ : L2.St} {i : Nat} {v : V} (h : σ[i]? = some (some v)) : σ.set i (some v) = σ := by
  obtain ⟨hi, e⟩ := List.getElem?_eq_some_iff.mp h
  rw [← e]; exact List.set_getElem_self hi
theorem back_ok {K : PySem.W.Frag} {F H : Hp} {σ : L2.St} : ∀ {bs : List (Option Nat)} {vs : List V} {ts : List T} {sl : SL} {p q : FP}, Lent σ bs vs → Reps K F H ts vs q → SlR K F H sl σ p → Dj q p → ∃ p', SlR K F H (back bs ts sl) σ p' ∧ ∀ a, p' a → q a ∨ p a
  | _, _, _, sl, p, q, .nil, .nil e, S, dj => ⟨p, by simpa only [back] using S, fun a x => .inr x⟩
  | _, _, _, sl, p, q, .no h, .cons ht hs d e, S, dj => by
    obtain ⟨p', S', sub⟩ := back_ok h hs S fun a x y => dj a ((e a).mpr (.inr x)) y
    exact ⟨p', by simpa only [back] using S', fun a x => (sub a x).imp (fun z => (e a).mpr (.inr z)) id⟩
  | _, _, _, sl, p, q, .yes (v := v) (i := i) ei h, .cons (p := p0) ht hs d e, S, dj => by
    obtain ⟨r, sub, S1⟩ := S.drop i (some v)
    have hi : i < sl.length := by rw [S.len]; exact (List.getElem?_eq_some_iff.mp ei).1
    have S2 := S1.put2 hi ht fun a x y => dj a ((e a).mpr (.inl x)) (sub a y)
    rw [set_same ei] at S2
    obtain ⟨p', S', sub2⟩ := back_ok h hs S2 fun a x y => by
      rcases y with y | y
      · exact d a y x
      · exact dj a ((e a).mpr (.inr x)) (sub a y)
    refine ⟨p', by simpa only [back] using S', fun a x => ?_⟩
    rcases sub2 a x with x | x | x
    · exact .inl ((e a).mpr (.inr x))
    · exact .inl ((e a).mpr (.inl x))
    · exact .inr (sub a x)
/-- a def's promise: what the evaluator says of it -/
def spF (K : PySem.W.Frag) (cf : List T → Option (T × List T)) : Sp := fun vs H Q _ => ∃ F ts p t ts', Ex F H ∧ Reps K F H ts vs p ∧ cf ts = some (t, ts') ∧
  ∀ v F' H' pv p', Ex F' H' → Reps K F' H' ts' vs p' → Rep K F' H' t v pv → Dj pv p' → Stp p F H (fun a => pv a ∨ p' a) F' H' → Q v H'
section
variable {X : Cx} {P : Pg} {a b c x y : Expr} {xs : List Expr} {a' b' c' e : E} {es : Es} {pos : Pos}
abbrev SdL (X : Cx) (P : Pg) (xs : List Expr) (es : Es) : Prop := PA X xs (tevL X.K P es)
abbrev SdA (X : Cx) (P : Pg) (xs : List Expr) (es : Es) : Prop := PA X xs (tevA X.K P es)
theorem sdl_nil : SdL X P [] .nil := pa_imp pa_nil fun σ H Q ⟨F, sl, p, ts, sl', ex, S, e, k⟩ => by
  simp only [evL] at e
  cases e
  exact k [] F H nop p ex S (.nil fun _ x => x) (fun _ x => x.elim) (Stp.refl.sub fun a x => x.elim (fun z => z.elim) id)
theorem sdl_cons (ha : Sd X P a a') (hr : SdL X P xs es) (hs : starEach (a :: xs) X.env = (false, eval a X.env) :: starEach xs X.env) : SdL X P (a :: xs) (.cons a' es) :=
  pa_imp (pa_cons (ha.v .e (by decide)) hr hs) fun σ H Q ⟨F, sl, p, ts, sl', ex, S, e, k⟩ => by
    simp only [evL, Option.bind_eq_some_iff] at e
    obtain ⟨⟨t1, sl1⟩, e1, ⟨ts2, sl2⟩, e2, e3⟩ := e
    cases e3
    refine ⟨F, sl, p, t1, sl1, ex, S, e1, fun v1 F1 H1 pv1 p1 ex1 S1 R1 d1 st1 => ⟨F1, sl1, p1, ts2, _, ex1, S1, e2, fun vs F2 H2 pv2 p2 ex2 S2 R2 dj2 st2 => ?_⟩⟩
    obtain ⟨a1, a2, a3⟩ := st2.frame R1.own (d1 rfl).symm
    refine k (v1 :: vs) F2 H2 (fun a => pv1 a ∨ pv2 a) p2 ex2 S2 (.cons (R1.frame st2.ex a1) R2 (fun a x y => a2 a (.inl y) x) fun a => Iff.rfl) (fun a x y => x.elim (fun z => a2 a (.inr y) z) fun z => dj2 a z y) ?_
    refine (st1.trans (a3.cg fun a => or_comm)).sub fun a x => ?_
    rcases x with (x | x) | x
    · exact .inr x
    · exact .inl (.inl x)
    · exact .inl (.inr x)
theorem szL {ts : List T} {vs : List V} {K : PySem.W.Frag} {F H : Hp} {p : FP} (h : okN ts.length = true) (R : Reps K F H ts vs p) : vs.length ≤ sizeLine := by
  rw [← R.length]; exact szl (of_decide_eq_true h)
theorem sd_tup {k1 : Nat} (hl : SdL X P xs es) : Sd X P (.Tuple xs k1 pos) (.tup es) :=
  have v : ∀ m, m ≠ .t → PE X (.Tuple xs k1 pos) (tev X.K P m (.tup es)) := fun m hm => pe_imp (pe_tup hl) fun σ H Q ⟨F, sl, p, t, sl', ex, S, e, k⟩ => by
    simp only [ev, Option.bind_eq_some_iff] at e
    obtain ⟨⟨ts, sl1⟩, e1, e2⟩ := e
    by_cases hz : okN ts.length = true
    · rw [if_pos hz] at e2
      obtain ⟨rfl, rfl, _⟩ := fin_some hm e2
      refine ⟨F, sl, p, ts, _, ex, S, e1, fun vs F1 H1 pv1 p1 ex1 S1 R1 dj1 st1 => ⟨szL hz R1, fun q nq => ?_⟩⟩
      obtain ⟨b1, b2, b3⟩ := new_tup ex1 nq R1
      exact k.new S1 st1 dj1 b3 b1 b2
    · rw [if_neg hz] at e2; cases e2
  ⟨v, pt_plain (v .o (by decide)) (fun sl t sl' h => by
    simp only [ev, Option.bind_eq_some_iff] at h
    obtain ⟨⟨ts, sl1⟩, e1, e2⟩ := h
    by_cases hz : okN ts.length = true
    · rw [if_pos hz] at e2
      obtain ⟨b, h1, h2, rfl⟩ := fin_t e2
      exact ⟨_, b, by simp only [ev, e1, Option.bind_some, hz, if_true, fin], h1, h2⟩
    · rw [if_neg hz] at e2; cases e2) fun _ => rfl⟩
theorem sd_lst (hl : SdL X P xs es) : Sd X P (.List xs pos) (.lst es) :=
  have v : ∀ m, m ≠ .t → PE X (.List xs pos) (tev X.K P m (.lst es)) := fun m hm => pe_imp (pe_lst hl) fun σ H Q ⟨F, sl, p, t, sl', ex, S, e, k⟩ => by
    simp only [ev, Option.bind_eq_some_iff] at e
    obtain ⟨⟨ts, sl1⟩, e1, e2⟩ := e
    by_cases hz : okN ts.length = true
    · rw [if_pos hz] at e2
      obtain ⟨rfl, rfl, _⟩ := fin_some hm e2
      refine ⟨F, sl, p, ts, _, ex, S, e1, fun vs F1 H1 pv1 p1 ex1 S1 R1 dj1 st1 => ⟨szL hz R1, fun q nq => ?_⟩⟩
      obtain ⟨b1, b2, b3⟩ := new_lst ex1 nq R1
      exact k.new S1 st1 dj1 b3 b1 b2
    · rw [if_neg hz] at e2; cases e2
  ⟨v, pt_plain (v .o (by decide)) (fun sl t sl' h => by
    simp only [ev, Option.bind_eq_some_iff] at h
    obtain ⟨⟨ts, sl1⟩, e1, e2⟩ := h
    by_cases hz : okN ts.length = true
    · rw [if_pos hz] at e2
      obtain ⟨b, h1, h2, rfl⟩ := fin_t e2
      exact ⟨_, b, by simp only [ev, e1, Option.bind_some, hz, if_true, fin], h1, h2⟩
    · rw [if_neg hz] at e2; cases e2) fun _ => rfl⟩
/-! ### arguments -/
theorem sda_nil : SdA X P [] .nil := pa_imp pa_nil fun σ H Q ⟨F, sl, p, ts, bs, sl', ex, S, e, k⟩ => by
  simp only [evA] at e
  cases e
  exact k [] F H nop p ex S (.nil fun _ x => x) (fun _ x => x.elim) .nil (Stp.refl.sub fun a x => x.elim (fun z => z.elim) id)
def isVar : E → Bool
  | .var _ => true
  | _ => false
theorem evA_gen {sl : SL} (h : isVar a' = false) : evA P (.cons a' es) sl = (ev P .e a' sl).bind fun r => (evA P es r.2).bind fun r2 => some (r.1 :: r2.1, none :: r2.2.1, r2.2.2) := by
  cases a' <;> first | (cases h; done) | (simp only [evA])
theorem sda_cons (ha : Sd X P a a') (hn : isVar a' = false) (hr : SdA X P xs es) (hs : starEach (a :: xs) X.env = (false, eval a X.env) :: starEach xs X.env) : SdA X P (a :: xs) (.cons a' es) :=
  pa_imp (pa_cons (ha.v .e (by decide)) hr hs) fun σ H Q ⟨F, sl, p, ts, bs, sl', ex, S, e, k⟩ => by
    rw [evA_gen hn] at e
    simp only [Option.bind_eq_some_iff] at e
    obtain ⟨⟨t1, sl1⟩, e1, ⟨ts2, bs2, sl2⟩, e2, e3⟩ := e
    cases e3
    refine ⟨F, sl, p, t1, sl1, ex, S, e1, fun v1 F1 H1 pv1 p1 ex1 S1 R1 d1 st1 => ⟨F1, sl1, p1, ts2, bs2, _, ex1, S1, e2, fun vs F2 H2 pv2 p2 ex2 S2 R2 dj2 l2 st2 => ?_⟩⟩
    obtain ⟨a1, a2, a3⟩ := st2.frame R1.own (d1 rfl).symm
    refine k (v1 :: vs) F2 H2 (fun a => pv1 a ∨ pv2 a) p2 ex2 S2 (.cons (R1.frame st2.ex a1) R2 (fun a x y => a2 a (.inl y) x) fun a => Iff.rfl) (fun a x y => x.elim (fun z => a2 a (.inr y) z) fun z => dj2 a z y) (.no l2) ?_
    refine (st1.trans (a3.cg fun a => or_comm)).sub fun a x => ?_
    rcases x with (x | x) | x
    · exact .inr x
    · exact .inl (.inl x)
    · exact .inl (.inr x)
theorem sda_var {i : Nat} {n : Str} (hN : X.N[i]? = some n) (hv : Vis X.env.scope n) (hd : (n == ("__debug__" : Str)) = false) (hcd : (n == ("__classdict__" : Str)) = false) (hr : SdA X P xs es) : SdA X P (.Name n pos :: xs) (.cons (.var i) es) :=
  pa_imp (pa_cons (pe_var hN hv hd hcd) hr rfl) fun σ H Q ⟨F, sl, p, ts, bs, sl', ex, S, e, k⟩ => by
    simp only [evA, Option.bind_eq_some_iff] at e
    obtain ⟨t1, e1, e⟩ := e
    by_cases f : isF t1 = true
    · rw [if_pos f] at e
      obtain ⟨⟨ts2, bs2, sl2⟩, e2, e3⟩ := Option.bind_eq_some_iff.mp e
      cases e3
      obtain ⟨v, q, g, R, sub⟩ := S.peek e1
      have R0 : Rep X.K F H t1 v nop := R.cg fun b => ⟨fun x => R.of_isF f b x, fun x => x.elim⟩
      refine ⟨v, g, F, sl, p, ts2, bs2, _, ex, S, e2, fun vs F2 H2 pv2 p2 ex2 S2 R2 dj2 l2 st2 => ?_⟩
      refine k (v :: vs) F2 H2 pv2 p2 ex2 S2 (.cons (R0.frame st2.ex fun _ x => x.elim) R2 (fun _ x => x.elim) fun a => ⟨.inr, fun x => x.elim (fun z => z.elim) id⟩) dj2 (.no l2) st2
    · rw [if_neg f] at e
      obtain ⟨⟨ts2, bs2, sl2⟩, e2, e3⟩ := Option.bind_eq_some_iff.mp e
      cases e3
      obtain ⟨v, q, r, g, R, dj, ep, S1⟩ := S.take e1
      refine ⟨v, g, F, sl.set i .hole, r, ts2, bs2, _, ex, S1, e2, fun vs F2 H2 pv2 p2 ex2 S2 R2 dj2 l2 st2 => ?_⟩
      obtain ⟨a1, a2, a3⟩ := st2.frame R.own dj.symm
      refine k (v :: vs) F2 H2 (fun a => q a ∨ pv2 a) p2 ex2 S2 (.cons (R.frame st2.ex a1) R2 (fun a x y => a2 a (.inl y) x) fun a => Iff.rfl) (fun a x y => x.elim (fun z => a2 a (.inr y) z) fun z => dj2 a z y) (.yes g l2) ?_
      refine (a3.cg fun a => or_comm.trans (ep a).symm).sub fun a x => ?_
      rcases x with (x | x) | x
      · exact .inr x
      · exact .inl (.inl x)
      · exact .inl (.inr x)
/-! ### calls of defs -/
structure FnAt (X : Cx) (P : Pg) (f : Nat) (g : Addr) : Prop where
  ex : ∃ fd ps k, FnOk X.prog X.w X.K X.mg X.base CX0 k g fd ps (spF X.K (P.cf f)) ∧ Room (k + 1) X.A ∧ Binds X.K fd ps []
  kp : PySem.W.keepIn X.K (.ref g) = true
/-- behind a call: the value, the lent values put back -/
theorem called {K : PySem.W.Frag} {F F1 H H1 : Hp} {σ : L2.St} {sl1 : SL} {p p1 pv1 : FP} {d : Bool} {t : T} {Q : VK} {ts ts' : List T} {bs : List (Option Nat)} {vs : List V} {cf : List T → Option (T × List T)} (k : Kv K p F H σ d t (back bs ts' sl1) Q)
    (ex1 : Ex F1 H1) (S1 : SlR K F1 H1 sl1 σ p1) (R1 : Reps K F1 H1 ts vs pv1) (dj1 : Dj pv1 p1) (l : Lent σ bs vs) (st1 : Stp p F H (fun a => pv1 a ∨ p1 a) F1 H1) (e : cf ts = some (t, ts')) {E : XK} : spF K cf vs H1 Q E := by
  refine ⟨F1, ts, pv1, t, ts', ex1, R1, e, fun v F2 H2 pv2 p2 ex2 RS R2 dj2 st2 => ?_⟩
  obtain ⟨a1, a2, a3⟩ := st2.frame S1.own dj1
  obtain ⟨p3, S3, sub⟩ := back_ok l RS (S1.frame st2.ex a1) fun a x y => a2 a (.inr x) y
  refine k v F2 H2 pv2 p3 ex2 S3 R2 (fun _ a x y => (sub a y).elim (dj2 a x) fun z => a2 a (.inl x) z) ((st1.trans a3).sub fun a x => ?_)
  rcases x with x | x
  · exact .inl (.inl x)
  · exact (sub a x).imp .inr id
theorem ev_call {m : Md} {f : Nat} {sl sl' : SL} {t : T} (h : ev P m (.call f es) sl = some (t, sl')) : ∃ ts bs sl1 r ts', evA P es sl = some (ts, bs, sl1) ∧ P.cf f ts = some (r, ts') ∧ fin m false r (back bs ts' sl1) = some (t, sl') := by
  simp only [ev, Option.bind_eq_some_iff] at h
  obtain ⟨⟨ts, bs, sl1⟩, e1, ⟨r, ts'⟩, e2, e3⟩ := h
  exact ⟨ts, bs, sl1, r, ts', e1, e2, e3⟩
theorem plain_call {f : Nat} : Plain P (.call f es) := fun sl t sl' h => by
  obtain ⟨ts, bs, sl1, r, ts', e1, e2, e3⟩ := ev_call h
  obtain ⟨b, h1, h2, rfl⟩ := fin_t e3
  exact ⟨r, b, by simp only [ev, e1, Option.bind_some, e2, fin], h1, h2⟩
theorem core_call {m : Md} {f : Nat} {σ : L2.St} {H : Hp} {Q : VK} (hm : m ≠ .t) (h : tev X.K P m (.call f es) σ H Q) : tCall (spF X.K (P.cf f)) [] E0 (tevA X.K P es) σ H Q := by
  obtain ⟨F, sl, p, t, sl', ex, S, e, k⟩ := h
  obtain ⟨ts, bs, sl1, r, ts', e1, e2, e3⟩ := ev_call e
  obtain ⟨rfl, rfl, _⟩ := fin_some hm e3
  refine ⟨F, sl, p, ts, bs, sl1, ex, S, e1, fun vs F1 H1 pv1 p1 ex1 S1 R1 dj1 l st1 => ?_⟩
  show spF X.K (P.cf f) (vs ++ []) H1 Q E0
  rw [List.append_nil]
  exact called (ts' := ts') k ex1 S1 R1 dj1 l st1 e2
theorem sd_call {f : Nat} {g : Addr} {n : Str} {p : Pos} (hf : FnAt X P f g) (hg : Gl X n) (hm : X.mg n = some (.ref g)) (ha : SdA X P (x :: xs) es) (hdb : (n == ("__debug__" : Str)) = false)
    (he : starEach (x :: xs) X.env = (false, eval x X.env) :: starEach xs X.env) (hpl : (backTo pos (starEach xs X.env)).any (·.1) = false) : Sd X P (.Call (.Name n p) (x :: xs) [] pos) (.call f es) :=
  have v : ∀ m, m ≠ .t → PE X (.Call (.Name n p) (x :: xs) [] pos) (tev X.K P m (.call f es)) := fun m hmm => by
    obtain ⟨⟨fd, ps, k, F, hr, hb⟩, kp⟩ := hf
    exact pe_imp (pe_call F (hr.mono (Nat.le_succ _)) hg hm kp hb .nil pass0 ha hdb he hpl) fun σ H Q h => core_call hmm h
  ⟨v, pt_plain (v .o (by decide)) plain_call fun _ => rfl⟩
theorem sd_call0 {f : Nat} {g : Addr} {n : Str} {p : Pos} (hf : FnAt X P f g) (hg : Gl X n) (hm : X.mg n = some (.ref g)) (hdb : (n == ("__debug__" : Str)) = false) : Sd X P (.Call (.Name n p) [] [] pos) (.call f .nil) :=
  have v : ∀ m, m ≠ .t → PE X (.Call (.Name n p) [] [] pos) (tev X.K P m (.call f .nil)) := fun m hmm => by
    obtain ⟨⟨fd, ps, k, F, hr, hb⟩, kp⟩ := hf
    exact pe_imp (pe_call0 F (hr.mono (Nat.le_succ _)) hg hm kp hb .nil pass0 hdb) fun σ H Q h => by
      obtain ⟨F, sl, p, ts, bs, sl1, ex, S, e1, k⟩ := core_call hmm h
      simp only [evA] at e1
      cases e1
      exact k [] F H nop p ex S (.nil fun _ x => x) (fun _ x => x.elim) .nil (Stp.refl.sub fun a x => x.elim (fun z => z.elim) id)
  ⟨v, pt_plain (v .o (by decide)) plain_call fun _ => rfl⟩
/-! ### instances made -/
theorem ev_mk {m : Md} {c : Str} {f : Nat} {sl sl' : SL} {t : T} (h : ev P m (.mk c f es) sl = some (t, sl')) : ∃ ts bs sl1 r ts', evA P es sl = some (ts, bs, sl1) ∧ P.cf f (.ins true c [] [] :: ts) = some (.non, r :: ts') ∧ fin m false r (back bs ts' sl1) = some (t, sl') := by
  simp only [ev, Option.bind_eq_some_iff] at h
  obtain ⟨⟨ts, bs, sl1⟩, e1, ⟨r, rs⟩, e2, e3⟩ := h
  cases r <;> first | (cases e3; done) | skip
  cases rs with
  | nil => cases e3
  | cons r ts' => exact ⟨ts, bs, sl1, r, ts', e1, e2, e3⟩
theorem plain_mk {c : Str} {f : Nat} : Plain P (.mk c f es) := fun sl t sl' h => by
  obtain ⟨ts, bs, sl1, r, ts', e1, e2, e3⟩ := ev_mk h
  obtain ⟨b, h1, h2, rfl⟩ := fin_t e3
  exact ⟨r, b, by simp only [ev, e1, Option.bind_some, e2, fin], h1, h2⟩
theorem core_mk {m : Md} {c : Str} {f : Nat} {σ : L2.St} {H : Hp} {Q : VK} (hm : m ≠ .t) (h : tev X.K P m (.mk c f es) σ H Q) : tMake (He.ga X.K c) (spF X.K (P.cf f)) [] E0 (tevA X.K P es) σ H Q := by
  obtain ⟨F, sl, p, t, sl', ex, S, e, k⟩ := h
  obtain ⟨ts, bs, sl1, r, ts', e1, e2, e3⟩ := ev_mk e
  obtain ⟨rfl, rfl, _⟩ := fin_some hm e3
  refine ⟨F, sl, p, ts, bs, sl1, ex, S, e1, fun vs F1 H1 pv1 p1 ex1 S1 R1 dj1 l st1 x dx nx ndx ne => ?_⟩
  rw [List.append_nil]
  -- the new instance
  have up : Ex H1 (upd (upd H1 dx (.own x)) x (.ins (He.ga X.K c) dx [])) := fun b o q => by rw [upd_ne (ne_of_none q nx), upd_ne (ne_of_none q ndx)]; exact q
  have nx1 : ¬ pv1 x := ne_own R1.own nx
  have nx2 : ¬ p1 x := ne_own S1.own nx
  have fr : ∀ {q : FP}, (∀ a, q a → F1 a = none ∧ ∃ o, H1 a = some o) → ∀ a, q a → F1 a = none ∧ (upd (upd H1 dx (.own x)) x (.ins (He.ga X.K c) dx [])) a = H1 a := fun {q} own a z => by
    obtain ⟨h1, o, h2⟩ := own a z
    exact ⟨h1, (up a o h2).trans h2.symm⟩
  have stN : Stp (fun a => pv1 a ∨ p1 a) F1 H1 (fun a => (a = x ∨ pv1 a) ∨ p1 a) F1 (upd (upd H1 dx (.own x)) x (.ins (He.ga X.K c) dx [])) := ⟨Evl.Ex.refl F1, fun a o h _ => up a o h, fun _ _ _ _ => rfl, fun a z => by
    rcases z with (rfl | z) | z
    · exact .inr nx
    · exact .inl (.inl z)
    · exact .inl (.inr z)⟩
  have RI : Rep X.K F1 (upd (upd H1 dx (.own x)) x (.ins (He.ga X.K c) dx [])) (.ins true c [] []) (.ref x) (fun a => a = x) := .insO (q := nop) (fresh_F ex1 nx) upd_same rfl (.nil fun _ z => z) (fun z => z) fun b => ⟨.inl, fun z => z.elim id fun w => w.elim⟩
  have ex2 := ex1.trans up
  have RS : Reps X.K F1 (upd (upd H1 dx (.own x)) x (.ins (He.ga X.K c) dx [])) (.ins true c [] [] :: ts) (.ref x :: vs) (fun a => a = x ∨ pv1 a) := .cons RI (R1.frame (Evl.Ex.refl F1) (fr R1.own)) (fun a z w => nx1 (z ▸ w)) fun a => Iff.rfl
  refine ⟨F1, _, _, .non, _ :: ts', ex2, RS, e2, fun v F2 H2 pv2 p2 ex3 RS2 R2 dj2 st2 => ?_⟩
  obtain ⟨rfl, _⟩ := R2.non'
  refine ⟨rfl, ?_⟩
  cases RS2 with
  | cons Ri RS3 d3 e3' =>
    rename_i pi p3
    obtain ⟨a1, a2, a3⟩ := st2.frame (S1.frame (Evl.Ex.refl F1) (fr S1.own)).own (r := p1) (fun a z w => z.elim (fun q => nx2 (q ▸ w)) fun q => dj1 a q w)
    obtain ⟨p4, S4, sub⟩ := back_ok l RS3 ((S1.frame (Evl.Ex.refl F1) (fr S1.own)).frame st2.ex a1) fun a z w => a2 a (.inr ((e3' a).mpr (.inr z))) w
    refine k (.ref x) F2 H2 pi p4 ex3 S4 Ri (fun _ a z w => (sub a w).elim (d3 a z) fun q => a2 a (.inr ((e3' a).mpr (.inl z))) q) (((st1.trans stN).trans a3).sub fun a z => ?_)
    rcases z with z | z
    · exact .inl (.inr ((e3' a).mpr (.inl z)))
    · exact (sub a z).elim (fun q => .inl (.inr ((e3' a).mpr (.inr q)))) .inr
theorem sd_mk {f : Nat} {g : Addr} {n : Str} {p : Pos} (hf : FnAt X P f g) (M : Mk X.K (He.ga X.K n) g) (hg : Gl X n) (hm : X.mg n = some (.ref (He.ga X.K n))) (ha : SdA X P (x :: xs) es) (hdb : (n == ("__debug__" : Str)) = false)
    (he : starEach (x :: xs) X.env = (false, eval x X.env) :: starEach xs X.env) (hpl : (backTo pos (starEach xs X.env)).any (·.1) = false) : Sd X P (.Call (.Name n p) (x :: xs) [] pos) (.mk n f es) :=
  have v : ∀ m, m ≠ .t → PE X (.Call (.Name n p) (x :: xs) [] pos) (tev X.K P m (.mk n f es)) := fun m hmm => by
    obtain ⟨⟨fd, ps, k, F, hr, hb⟩, kp⟩ := hf
    exact pe_imp (pe_make M F hr hg hm hb .nil pass0 ha hdb he hpl) fun σ H Q h => core_mk hmm h
  ⟨v, pt_plain (v .o (by decide)) plain_mk fun _ => rfl⟩
theorem sd_mk0 {f : Nat} {g : Addr} {n : Str} {p : Pos} (hf : FnAt X P f g) (M : Mk X.K (He.ga X.K n) g) (hg : Gl X n) (hm : X.mg n = some (.ref (He.ga X.K n))) (hdb : (n == ("__debug__" : Str)) = false) : Sd X P (.Call (.Name n p) [] [] pos) (.mk n f .nil) :=
  have v : ∀ m, m ≠ .t → PE X (.Call (.Name n p) [] [] pos) (tev X.K P m (.mk n f .nil)) := fun m hmm => by
    obtain ⟨⟨fd, ps, k, F, hr, hb⟩, kp⟩ := hf
    exact pe_imp (pe_make0 M F hr hg hm hb .nil pass0 hdb) fun σ H Q h => by
      obtain ⟨F, sl, p, ts, bs, sl1, ex, S, e1, k⟩ := core_mk hmm h
      simp only [evA] at e1
      cases e1
      exact k [] F H nop p ex S (.nil fun _ x => x) (fun _ x => x.elim) .nil (Stp.refl.sub fun a x => x.elim (fun z => z.elim) id)
  ⟨v, pt_plain (v .o (by decide)) plain_mk fun _ => rfl⟩
end
end Pv

/-! Method calls, lists that change, built-in functions of two arguments. -/
namespace Pv
open PySem L2 PyProof.Rows
section
variable {X : Cx} {P : Pg} {a b c x y : Expr} {xs : List Expr} {a' b' c' e : E} {es : Es} {pos : Pos}
theorem sd_callB2 {n : Str} {id : String} {o : O2} {p : Pos} (hc : CallR X (.builtin id) (rC2 X.K o)) (hg : Gl X n) (hm : X.mg n = none) (hv : bootBuiltins n = some (.builtin id)) (ha : Sd X P a a') (hb : Sd X P b b') (hn : n ≠ "__name__") (hdb : (n == ("__debug__" : Str)) = false)
    (he : starEach [a, b] X.env = (false, eval a X.env) :: starEach [b] X.env) (he2 : starEach [b] X.env = (false, eval b X.env) :: starEach [] X.env) (hpl : (backTo pos (starEach [b] X.env)).any (·.1) = false) : Sd X P (.Call (.Name n p) [a, b] [] pos) (.op2 o a' b') :=
  have v : ∀ m, m ≠ .t → PE X (.Call (.Name n p) [a, b] [] pos) (tev X.K P m (.op2 o a' b')) := fun m hmm => pe_imp (pe_callB hc hg hm hv (pa_cons (ha.v .o (by decide)) (pa_cons (hb.v .o (by decide)) pa_nil he2) he) hn hdb he hpl) fun σ H Q h => by
    obtain ⟨F, sl, p, t, sl', ex, S, e, k⟩ := core2 hmm h
    exact ⟨F, sl, p, t, sl', ex, S, e, fun v1 F1 H1 pv p1 ex1 S1 R1 d1 st1 => by
      obtain ⟨F2, sl2, p2, t2, sl3, ex2, S2, e2, k2⟩ := k v1 F1 H1 pv p1 ex1 S1 R1 d1 st1
      exact ⟨F2, sl2, p2, t2, sl3, ex2, S2, e2, fun v2 F3 H3 pv3 p3 ex3 S3 R3 d3 st3 => ⟨v1, v2, rfl, k2 v2 F3 H3 pv3 p3 ex3 S3 R3 d3 st3⟩⟩⟩
  ⟨v, pt_plain (v .o (by decide)) plain_op2 fun _ => rfl⟩
/-- a module's name for a built-in function (from math import gcd) -/
theorem sd_callF2 {n : Str} {id : String} {o : O2} {p : Pos} (hc : CallR X (.builtin id) (rC2 X.K o)) (hg : Gl X n) (hm : X.mg n = some (.builtin id)) (ha : Sd X P a a') (hb : Sd X P b b') (hdb : (n == ("__debug__" : Str)) = false)
    (he : starEach [a, b] X.env = (false, eval a X.env) :: starEach [b] X.env) (he2 : starEach [b] X.env = (false, eval b X.env) :: starEach [] X.env) (hpl : (backTo pos (starEach [b] X.env)).any (·.1) = false) : Sd X P (.Call (.Name n p) [a, b] [] pos) (.op2 o a' b') :=
  have v : ∀ m, m ≠ .t → PE X (.Call (.Name n p) [a, b] [] pos) (tev X.K P m (.op2 o a' b')) := fun m hmm => pe_imp (pe_callBfun hc hg hm (pa_cons (ha.v .o (by decide)) (pa_cons (hb.v .o (by decide)) pa_nil he2) he) hdb he hpl) fun σ H Q h => by
    obtain ⟨F, sl, p, t, sl', ex, S, e, k⟩ := core2 hmm h
    exact ⟨F, sl, p, t, sl', ex, S, e, fun v1 F1 H1 pv p1 ex1 S1 R1 d1 st1 => by
      obtain ⟨F2, sl2, p2, t2, sl3, ex2, S2, e2, k2⟩ := k v1 F1 H1 pv p1 ex1 S1 R1 d1 st1
      exact ⟨F2, sl2, p2, t2, sl3, ex2, S2, e2, fun v2 F3 H3 pv3 p3 ex3 S3 R3 d3 st3 => ⟨v1, v2, rfl, k2 v2 F3 H3 pv3 p3 ex3 S3 R3 d3 st3⟩⟩⟩
  ⟨v, pt_plain (v .o (by decide)) plain_op2 fun _ => rfl⟩
/-! ### a method of an own class -/
/-- what is known of the methods -/
structure MthOk (X : Cx) (P : Pg) : Prop where
  mt : ∀ c q f, P.mt c q = some f → ∃ g, Cls X.K (He.ga X.K c) ∧ Meth X.K (He.ga X.K c) q g ∧ FnAt X P f g
theorem ev_meth {m : Md} {i : Nat} {q : Str} {sl sl' : SL} {t : T} (h : ev P m (.meth i q es) sl = some (t, sl')) :
    ∃ o0 c0 ns0 ts0 f ts bs sl1 t1, look sl i = some (.ins o0 c0 ns0 ts0) ∧ ns0.contains q = false ∧ P.mt c0 q = some f ∧ evA P es sl = some (ts, bs, sl1) ∧ look sl1 i = some t1 ∧
      ((isF t1 = true ∧ ∃ r t' ts', P.cf f (t1 :: ts) = some (r, t' :: ts') ∧ fin m false r (back bs ts' sl1) = some (t, sl')) ∨
       (isF t1 = false ∧ ∃ r ts', P.cf f (t1 :: ts) = some (r, ts') ∧ fin m false r (back (some i :: bs) ts' (sl1.set i .hole)) = some (t, sl'))) := by
  simp only [ev, Option.bind_eq_some_iff] at h
  obtain ⟨t0, e0, h⟩ := h
  cases t0 <;> first | (cases h; done) | skip
  rename_i o0 c0 ns0 ts0
  by_cases hq : ns0.contains q = true
  · simp only [hq, if_true] at h; cases h
  · have hq' : ns0.contains q = false := by simpa using hq
    simp only [hq', Option.bind_eq_some_iff] at h
    simp only [Bool.false_eq_true, if_false, Option.bind_eq_some_iff] at h
    obtain ⟨f, e1, ⟨ts, bs, sl1⟩, e2, t1, e3, h⟩ := h
    refine ⟨o0, c0, ns0, ts0, f, ts, bs, sl1, t1, e0, hq', e1, e2, e3, ?_⟩
    by_cases hf : isF t1 = true
    · rw [if_pos hf] at h
      obtain ⟨⟨r, rs⟩, e4, e5⟩ := Option.bind_eq_some_iff.mp h
      cases rs with
      | nil => cases e5
      | cons t' ts' => exact .inl ⟨hf, r, t', ts', e4, e5⟩
    · rw [if_neg hf] at h
      obtain ⟨⟨r, rs⟩, e4, e5⟩ := Option.bind_eq_some_iff.mp h
      exact .inr ⟨by simpa using hf, r, rs, e4, e5⟩
theorem plain_meth {i : Nat} {q : Str} : Plain P (.meth i q es) := fun sl t sl' h => by
  obtain ⟨o0, c0, ns0, ts0, f, ts, bs, sl1, t1, e0, hq, e1, e2, e3, h⟩ := ev_meth h
  rcases h with ⟨hf, r, t', ts', e4, e5⟩ | ⟨hf, r, ts', e4, e5⟩
  · obtain ⟨b, h1, h2, rfl⟩ := fin_t e5
    refine ⟨r, b, ?_, h1, h2⟩
    simp only [ev, e0, Option.bind_some, hq, Bool.false_eq_true, if_false, e1, e2, e3, hf, if_true, e4, fin]
  · obtain ⟨b, h1, h2, rfl⟩ := fin_t e5
    refine ⟨r, b, ?_, h1, h2⟩
    simp only [ev, e0, Option.bind_some, hq, Bool.false_eq_true, if_false, e1, e2, e3, hf, e4, fin]
theorem core_meth {m : Md} {i : Nat} {q : Str} {σ : L2.St} {H : Hp} {Q : VK} {F : Hp} {sl : SL} {p : FP} {t : T} {sl' : SL} {o0 : Bool} {c0 : Str} {ns0 : List Str} {ts0 ts : List T} {f : Nat} {bs : List (Option Nat)} {sl1 : SL} {t1 : T} (hm : m ≠ .t) (ex : Ex F H) (S : SlR X.K F H sl σ p)
    (k : Kv X.K p F H σ (apart m (.meth i q es)) t sl' Q) (e0 : look sl i = some (.ins o0 c0 ns0 ts0)) (hq : ns0.contains q = false) (e2 : evA P es sl = some (ts, bs, sl1)) (e3 : look sl1 i = some t1)
    (h : (isF t1 = true ∧ ∃ r t' ts', P.cf f (t1 :: ts) = some (r, t' :: ts') ∧ fin m false r (back bs ts' sl1) = some (t, sl')) ∨
       (isF t1 = false ∧ ∃ r ts', P.cf f (t1 :: ts) = some (r, ts') ∧ fin m false r (back (some i :: bs) ts' (sl1.set i .hole)) = some (t, sl'))) :
    tMeth (He.ga X.K c0) q (spF X.K (P.cf f)) [] E0 (tVar i) (tevA X.K P es) σ H Q := by
  obtain ⟨v, q0, g0, R0, sub0⟩ := S.peek e0
  refine ⟨v, g0, ?_⟩
  obtain ⟨a0, dx, fs, _, rfl, hH, hn, _⟩ := R0.insI ex
  refine ⟨a0, dx, fs, rfl, hH, lookup_none (by rw [hn]; exact hq), F, sl, p, ts, bs, sl1, ex, S, e2, fun vs F1 H1 pv1 p1 ex1 S1 R1 dj1 l st1 => ?_⟩
  show spF X.K (P.cf f) (.ref a0 :: (vs ++ [])) H1 Q E0
  rw [List.append_nil]
  rcases h with ⟨hf, r, t', ts', e4, e5⟩ | ⟨hf, r, ts', e4, e5⟩
  · -- a frozen receiver
    obtain ⟨rfl, rfl, _⟩ := fin_some hm e5
    obtain ⟨w, q2, g2, R2, sub2⟩ := S1.peek e3
    rw [g0] at g2; cases g2
    have R3 : Rep X.K F1 H1 t1 (.ref a0) nop := R2.cg fun b => ⟨fun x => R2.of_isF hf b x, fun x => x.elim⟩
    have RS : Reps X.K F1 H1 (t1 :: ts) (.ref a0 :: vs) pv1 := .cons R3 R1 (fun _ x => x.elim) fun a => ⟨.inr, fun x => x.elim (fun z => z.elim) id⟩
    refine ⟨F1, _, pv1, _, _, ex1, RS, e4, fun v F2 H2 pv2 p2 ex2 RS2 Rv dj2 st2 => ?_⟩
    cases RS2 with
    | cons Ri RS3 d3 e3' =>
      obtain ⟨a1, a2, a3⟩ := st2.frame S1.own dj1
      obtain ⟨p3, S3, sub⟩ := back_ok l RS3 (S1.frame st2.ex a1) fun a x y => a2 a (.inr ((e3' a).mpr (.inr x))) y
      refine k v F2 H2 pv2 p3 ex2 S3 Rv (fun _ a x y => (sub a y).elim (fun z => dj2 a x ((e3' a).mpr (.inr z))) fun z => a2 a (.inl x) z) ((st1.trans a3).sub fun a x => ?_)
      rcases x with x | x
      · exact .inl (.inl x)
      · exact (sub a x).imp (fun z => .inr ((e3' a).mpr (.inr z))) id
  · -- an owned receiver is lent
    obtain ⟨rfl, rfl, _⟩ := fin_some hm e5
    obtain ⟨w, q2, r2, g2, R2, dj, ep, S2⟩ := S1.take e3
    rw [g0] at g2; cases g2
    have RS : Reps X.K F1 H1 (t1 :: ts) (.ref a0 :: vs) (fun a => q2 a ∨ pv1 a) := .cons R2 R1 (fun a x y => dj1 a y ((ep a).mpr (.inl x))) fun a => Iff.rfl
    have st1' : Stp p F H (fun a => (q2 a ∨ pv1 a) ∨ r2 a) F1 H1 := st1.sub fun a x => by
      rcases x with (x | x) | x
      · exact .inr ((ep a).mpr (.inl x))
      · exact .inl x
      · exact .inr ((ep a).mpr (.inr x))
    exact called (ts' := ts') k ex1 S2 RS (fun a x y => x.elim (fun z => dj a z y) fun z => dj1 a z ((ep a).mpr (.inr y))) (.yes g0 l) st1' e4
theorem meth_ht {n q : Str} {pn apos : Pos} (hf : methodCallForm xs.length (backTo pos (starEach xs X.env)) (backToKw pos (keywordEach [] X.env)) = true) (hl : (apos.endLine == pos.line) = true) : eval (.Call (.Attribute (.Name n pn) q apos) xs [] pos) X.env = (do
      let ov ← eval (.Name n pn) X.env
      standAt apos.atName
      let (f, first) ← holding [ov] (getMethod ov q (plainOf (.Name n pn) X.env))
      callWith pos f first (backTo pos (starEach xs X.env)) (backToKw pos (keywordEach [] X.env))) := by
  show (do
    let ov ← attributeBase (.Name n pn) q X.env (eval (.Name n pn) X.env)
    standAt apos.atName
    methodCall (.Name n pn) q apos pos X.env ov (xs.length + ([] : List Keyword).length) (backTo pos (starEach xs X.env)) (backToKw pos (keywordEach [] X.env))) = _
  have e : ∀ ov, methodCall (.Name n pn) q apos pos X.env ov (xs.length + ([] : List Keyword).length) (backTo pos (starEach xs X.env)) (backToKw pos (keywordEach [] X.env)) = _ := fun ov => mcall_line (by simpa using hf) hl
  simp only [e]
  rfl
theorem sd_meth {i : Nat} {n q : Str} {pn apos : Pos} (M : MthOk X P) (hN : X.N[i]? = some n) (hv : Vis X.env.scope n) (hd : (n == ("__debug__" : Str)) = false) (hcd : (n == ("__classdict__" : Str)) = false) (ha : SdA X P (x :: xs) es)
    (he : starEach (x :: xs) X.env = (false, eval x X.env) :: starEach xs X.env) (hpl : (backTo pos (starEach xs X.env)).any (·.1) = false)
    (hf : methodCallForm (x :: xs).length (backTo pos (starEach (x :: xs) X.env)) (backToKw pos (keywordEach [] X.env)) = true) (hl : (apos.endLine == pos.line) = true) : Sd X P (.Call (.Attribute (.Name n pn) q apos) (x :: xs) [] pos) (.meth i q es) :=
  have v : ∀ m, m ≠ .t → PE X (.Call (.Attribute (.Name n pn) q apos) (x :: xs) [] pos) (tev X.K P m (.meth i q es)) := fun m hmm => pe_any fun σ H Q ⟨F, sl, p, t, sl', ex, S, e, k⟩ => by
    obtain ⟨o0, c0, ns0, ts0, f, ts, bs, sl1, t1, e0, hq, e1, e2, e3, h⟩ := ev_meth e
    obtain ⟨g, c1, c2, ⟨⟨fd, ps, kk, Fk, hr, hb⟩, kp⟩⟩ := M.mt c0 q f e1
    exact ⟨_, pe_meth (pe_var hN hv hd hcd) c1 c2 Fk (hr.mono (Nat.le_succ _)) hb .nil pass0 ha he hpl (meth_ht hf hl), core_meth hmm ex S k e0 hq e2 e3 h⟩
  ⟨v, pt_plain (v .o (by decide)) plain_meth fun _ => rfl⟩
theorem sd_meth0 {i : Nat} {n q : Str} {pn apos : Pos} (M : MthOk X P) (hN : X.N[i]? = some n) (hv : Vis X.env.scope n) (hd : (n == ("__debug__" : Str)) = false) (hcd : (n == ("__classdict__" : Str)) = false) (hl : (apos.endLine == pos.line) = true) : Sd X P (.Call (.Attribute (.Name n pn) q apos) [] [] pos) (.meth i q .nil) :=
  have v : ∀ m, m ≠ .t → PE X (.Call (.Attribute (.Name n pn) q apos) [] [] pos) (tev X.K P m (.meth i q .nil)) := fun m hmm => pe_any fun σ H Q ⟨F, sl, p, t, sl', ex, S, e, k⟩ => by
    obtain ⟨o0, c0, ns0, ts0, f, ts, bs, sl1, t1, e0, hq, e1, e2, e3, h⟩ := ev_meth e
    obtain ⟨g, c1, c2, ⟨⟨fd, ps, kk, Fk, hr, hb⟩, kp⟩⟩ := M.mt c0 q f e1
    refine ⟨_, pe_meth0 (pe_var hN hv hd hcd) c1 c2 Fk (hr.mono (Nat.le_succ _)) hb .nil pass0 (meth_ht rfl hl), ?_⟩
    obtain ⟨w, g0, a0, dx, fs, z1, z2, z3, F2, sl2, p2, ts2, bs2, sl3, ex2, S2, ee, kk2⟩ := core_meth hmm ex S k e0 hq e2 e3 h
    simp only [evA] at ee
    cases ee
    exact ⟨w, g0, a0, dx, fs, z1, z2, z3, kk2 [] F2 H nop p2 ex2 S2 (.nil fun _ x => x) (fun _ x => x.elim) .nil (Stp.refl.sub fun a x => x.elim (fun z => z.elim) id)⟩
  ⟨v, pt_plain (v .o (by decide)) plain_meth fun _ => rfl⟩
end
end Pv

/-! Lists that change. -/
namespace Pv
open PySem L2 PyProof.Rows
/-- a method that changes its receiver, by trees -/
def rM (K : PySem.W.Frag) (mk : MK) : V → List V → Hp → VK → Prop := fun x vs H Q => ∃ F t us p q t' u, Ex F H ∧ Rep K F H t x p ∧ Reps K F H us vs q ∧ Dj p q ∧ mutT mk t us = some (t', u) ∧
  ∀ v F' H' pv p', Ex F' H' → Rep K F' H' t' x p' → Rep K F' H' u v pv → Dj pv p' → Stp (fun a => p a ∨ q a) F H (fun a => pv a ∨ p' a) F' H' → Q v H'
section
variable {K : PySem.W.Frag} {F H : Hp} {p q q' pv : FP}
/-- the owned list at a is rewritten -/
theorem relist {a : Addr} {us : List T} {xs ys : List V} {u : T} {v : V} (ex : Ex F H) (n : F a = none) (h : H a = some (.lst xs)) (own : ∀ b, q b → F b = none ∧ ∃ o, H b = some o) (nq : ¬ q a) (R : Reps K F H us ys q') (Ru : Rep K F H u v pv) (s1 : ∀ b, q' b → q b) (s2 : ∀ b, pv b → q b) (dj : Dj pv q') :
    Ex F (upd H a (.lst ys)) ∧ Rep K F (upd H a (.lst ys)) (.lst true us) (.ref a) (fun b => b = a ∨ q' b) ∧ Rep K F (upd H a (.lst ys)) u v pv ∧ Dj pv (fun b => b = a ∨ q' b) ∧
      Stp (fun b => b = a ∨ q b) F H (fun b => pv b ∨ (b = a ∨ q' b)) F (upd H a (.lst ys)) := by
  have ne : ∀ b, q b → b ≠ a := fun b x e => nq (e ▸ x)
  refine ⟨fun b o e => ?_, .lstO n upd_same (R.frame (Evl.Ex.refl F) fun b x => ⟨(own b (s1 b x)).1, upd_ne (ne b (s1 b x))⟩) (fun x => nq (s1 a x)) fun b => Iff.rfl, Ru.frame (Evl.Ex.refl F) fun b x => ⟨(own b (s2 b x)).1, upd_ne (ne b (s2 b x))⟩, fun b x y => ?_, Evl.Ex.refl F, fun b o e z => ?_, fun _ _ _ _ => rfl, fun b x => .inl ?_⟩
  · rw [upd_ne (fun z => by subst z; rw [n] at e; cases e)]; exact ex b o e
  · rcases y with rfl | y
    · exact nq (s2 b x)
    · exact dj b x y
  · rw [upd_ne fun w => z (.inl w)]; exact e
  · rcases x with x | x | x
    · exact .inr (s2 b x)
    · exact .inl x
    · exact .inr (s1 b x)
theorem Reps.take' : ∀ {ts : List T} {vs : List V} {p : FP} (i : Nat), Reps K F H ts vs p → ∃ r s, Reps K F H (ts.take i) (vs.take i) r ∧ Reps K F H (ts.drop i) (vs.drop i) s ∧ Dj r s ∧ ∀ b, p b ↔ r b ∨ s b
  | _, _, p, i, .nil e => ⟨nop, nop, by rw [List.take_nil, List.take_nil]; exact .nil fun _ x => x, by rw [List.drop_nil, List.drop_nil]; exact .nil fun _ x => x, fun _ x => x.elim, fun b => ⟨fun x => (e b x).elim, fun x => x.elim (fun z => z.elim) fun z => z.elim⟩⟩
  | _, _, p, 0, .cons h hs d e => ⟨nop, p, .nil fun _ x => x, .cons h hs d e, fun _ x => x.elim, fun b => ⟨.inr, fun x => x.elim (fun z => z.elim) id⟩⟩
  | _, _, p, i + 1, .cons (p := p0) h hs d e => by
    obtain ⟨r, s, h1, h2, h3, h4⟩ := Reps.take' i hs
    refine ⟨fun b => p0 b ∨ r b, s, .cons h h1 (fun b x y => d b x ((h4 b).mpr (.inl y))) fun b => Iff.rfl, h2, fun b x y => ?_, fun b => ?_⟩
    · rcases x with x | x
      · exact d b x ((h4 b).mpr (.inr y))
      · exact h3 b x y
    · rw [e b, h4 b]; exact (or_assoc).symm
theorem Reps.one {t : T} {v : V} (h : Rep K F H t v p) : Reps K F H [t] [v] p := .cons h (.nil (p := nop) fun _ x => x) (fun _ _ x => x) fun b => ⟨.inl, fun x => x.elim id fun z => z.elim⟩
theorem Reps.erase {ts : List T} {vs : List V} {i : Nat} {t : T} (h : Reps K F H ts vs p) (g : ts[i]? = some t) : ∃ v q r, vs[i]? = some v ∧ Rep K F H t v q ∧ Reps K F H (ts.eraseIdx i) (vs.eraseIdx i) r ∧ Dj q r ∧ ∀ b, p b ↔ q b ∨ r b := by
  induction ts generalizing vs p i with
  | nil => simp at g
  | cons t0 ts ih =>
    cases h with
    | cons h hs d e =>
      rename_i v0 vs p0 q0
      cases i with
      | zero => simp at g; subst g; exact ⟨v0, p0, q0, rfl, h, by simpa using hs, d, e⟩
      | succ i =>
        obtain ⟨v, q, r, g1, g2, g3, g4, g5⟩ := ih hs (by simpa using g)
        refine ⟨v, q, fun b => p0 b ∨ r b, by simpa using g1, g2, .cons h g3 (fun b x y => d b x ((g5 b).mpr (.inr y))) fun b => Iff.rfl, fun b x y => ?_, fun b => ?_⟩
        · rcases y with y | y
          · exact d b y ((g5 b).mpr (.inl x))
          · exact g4 b x y
        · rw [e b, g5 b]; exact or_left_comm
end
section
variable {X : Cx} {P : Pg} {a b c x y : Expr} {xs : List Expr} {a' b' c' e : E} {es : Es} {pos : Pos}
theorem mtr_any {id : String} {r' : V → List V → Hp → VK → Prop} (h : ∀ x xs H Q, r' x xs H Q → ∃ r, MtR X id r ∧ r x xs H Q) : MtR X id r' := fun pins s σ H x xs v us Q I rx rv w => let ⟨r, h1, h2⟩ := h x xs H Q w; h1 pins s σ H x xs v us Q I rx rv h2
/-- extend by a list or a tuple, whatever is known of it -/
def rExtR (K : PySem.W.Frag) : V → List V → Hp → VK → Prop := fun x vs H Q => ∃ l b xs zs, x = .ref l ∧ vs = [.ref b] ∧ H l = some (.lst xs) ∧ Rd H b (.lst zs) ∧ xs.length + zs.length ≤ sizeLine ∧ Q .non (upd H l (.lst (xs ++ zs)))
theorem mt_extR : MtR X "list.extend" (rExtR X.K) := by
  intro pins s σ H x vs v us Q I rx rv h
  obtain ⟨l, b, xs, zs, rfl, rfl, hH, hB, hz, q⟩ := h
  cases rx
  obtain ⟨u, rfl, ru⟩ := rv.one
  cases ru
  obtain ⟨z, its, n, r, hl, e⟩ := I.lstM hH
  obtain ⟨z2, its2, n2, r2, hl2, e2⟩ := Pv.Inv.lstR I hB
  have hsz : its.toArray.size + its2.toArray.size ≤ sizeLine := by rw [List.size_toArray, List.size_toArray]; omega
  have hlong : ¬ (!its.toArray.isEmpty && Builtin.List.listTooLong (its.toArray.size + its2.toArray.size)) = true := by
    rw [notLongL hsz, Bool.and_false]
    exact Bool.false_ne_true
  refine call_meets F.slot_list_extend ⟨_, e, rfl⟩ F.entry_list_extend (F.args_list_extend_2 _ _)
    (AutoSeq1.list_extend_list_list_0 l its.toArray n b its2.toArray n2 hlong (by rw [List.size_toArray]; omega) (by omega)) ⟨e, e2, ?_⟩
  refine ⟨.non, _, I.lset (its' := its ++ its2) hH e (by simp) (r.append r2) ?_, rfl, q⟩
  rw [List.length_append]
  omega
theorem okN_le {n : Nat} (h : okN n = true) : n < sizeLine := by
  have := of_decide_eq_true h
  rw [sizeLine_eq]; omega
theorem mr_append : MtR X "list.append" (rM X.K .append) := mtr_any fun x vs H Q ⟨F, t, us, p, q, t', u, ex, R, Rs, dj, e, k⟩ => by
  match t, us, R, Rs, e with
  | .lst true ts, [x1], R, Rs, e =>
    have e' : (if okN ts.length then some (T.lst true (ts ++ [x1]), T.non) else none) = some (t', u) := e
    by_cases hz : okN ts.length = true
    · rw [if_pos hz] at e'; cases e'
      cases R with
      | @lstO a xs0 _ _ q0 n h r d ep =>
        cases Rs with
        | cons h1 h2 d1 e1 =>
          cases h2 with
          | nil e2 =>
            have dq : Dj q0 q := fun b x y => dj b ((ep b).mpr (.inr x)) y
            have R1 := (Reps.one (h1.cg fun b => ⟨fun x => (e1 b).mpr (.inl x), fun x => ((e1 b).mp x).elim id fun z => (e2 b z).elim⟩)).app (p := q) (us := []) (ws := []) (q := nop) (.nil fun _ x => x) fun _ _ x => x
            have R2 := r.app (Reps.one (h1.cg fun b => ⟨fun x => (e1 b).mpr (.inl x), fun x => ((e1 b).mp x).elim id fun z => (e2 b z).elim⟩)) dq
            have own : ∀ b, (q0 b ∨ q b) → F b = none ∧ ∃ o, H b = some o := fun b x => x.elim (r.own b) fun y => h1.own b (((e1 b).mp y).elim id fun z => (e2 b z).elim)
            have nq : ¬ (q0 a ∨ q a) := fun x => x.elim d fun y => dj a ((ep a).mpr (.inl rfl)) y
            obtain ⟨g1, g2, g3, g4, g5⟩ := relist (q := fun b => q0 b ∨ q b) (pv := nop) (u := .non) (v := .non) ex n h own nq R2 (.non fun _ x => x) (fun _ x => x) (fun _ x => x.elim) (fun _ x => x.elim)
            refine ⟨_, mt_append, a, xs0, _, rfl, rfl, h, by rw [← r.length]; exact okN_le hz, k .non F _ nop _ g1 g2 g3 g4 (g5.cg fun b => ?_)⟩
            rw [ep b]; exact (or_assoc).symm
    · rw [if_neg hz] at e'; cases e'
theorem mr_insert : MtR X "list.insert" (rM X.K .insert) := mtr_any fun x vs H Q ⟨F, t, us, p, q, t', u, ex, R, Rs, dj, e, k⟩ => by
  match t, us, R, Rs, e with
  | .lst true ts, [.int i, x1], R, Rs, e =>
    have e' : (if decide (0 ≤ i) && decide (i < 2 ^ 62) && okN ts.length then some (T.lst true (ts.take i.toNat ++ [x1] ++ ts.drop i.toNat), T.non) else none) = some (t', u) := e
    by_cases hz : (decide (0 ≤ i) && decide (i < 2 ^ 62) && okN ts.length) = true
    · rw [if_pos hz] at e'; cases e'
      simp only [Bool.and_eq_true, decide_eq_true_eq] at hz
      cases R with
      | @lstO a xs0 _ _ q0 n h r d ep =>
        cases Rs with
        | cons h0 h2 d1 e1 =>
          obtain ⟨rfl, n0⟩ := h0.int'
          cases h2 with
          | @cons _ v1 _ _ p1 q1 _ h1 h3 d2 e2 =>
            cases h3 with
            | nil e3 =>
              have h1' : Rep X.K F H x1 v1 q := h1.cg fun b => ⟨fun x => (e1 b).mpr (.inr ((e2 b).mpr (.inl x))), fun x => ((e1 b).mp x).elim (fun z => (n0 b z).elim) fun z => ((e2 b).mp z).elim id fun w => (e3 b w).elim⟩
              obtain ⟨r1, s1, t1, t2, t3, t4⟩ := r.take' i.toNat
              have dq : Dj q0 q := fun b x y => dj b ((ep b).mpr (.inr x)) y
              have R2 := (t1.app (Reps.one h1') fun b x y => dq b ((t4 b).mpr (.inl x)) y).app t2 fun b x y => x.elim (fun z => t3 b z y) fun z => dq b ((t4 b).mpr (.inr y)) z
              have own : ∀ b, (q0 b ∨ q b) → F b = none ∧ ∃ o, H b = some o := fun b x => x.elim (r.own b) (h1'.own b)
              have nq : ¬ (q0 a ∨ q a) := fun x => x.elim d fun y => dj a ((ep a).mpr (.inl rfl)) y
              obtain ⟨g1, g2, g3, g4, g5⟩ := relist (q := fun b => q0 b ∨ q b) (pv := nop) (u := .non) (v := .non) ex n h own nq R2 (.non fun _ x => x) (fun b x => by
                rcases x with (x | x) | x
                · exact .inl ((t4 b).mpr (.inl x))
                · exact .inr x
                · exact .inl ((t4 b).mpr (.inr x))) (fun _ x => x.elim) (fun _ x => x.elim)
              refine ⟨_, mt_insert, a, xs0, i, v1, rfl, rfl, h, by rw [← r.length]; exact okN_le hz.2, hz.1.1, by omega, k .non F _ nop _ g1 g2 g3 g4 (g5.cg fun b => ?_)⟩
              rw [ep b]; exact (or_assoc).symm
    · rw [if_neg hz] at e'; cases e'
theorem mr_extend : MtR X "list.extend" (rM X.K .extend) := mtr_any fun x vs H Q ⟨F, t, us, p, q, t', u, ex, R, Rs, dj, e, k⟩ => by
  match t, us, R, Rs, e with
  | .lst true ts, [.lst o us], R, Rs, e =>
    have e' : (if okN (ts.length + us.length) then some (T.lst true (ts ++ us), T.non) else none) = some (t', u) := e
    by_cases hz : okN (ts.length + us.length) = true
    · rw [if_pos hz] at e'; cases e'
      cases R with
      | @lstO a xs0 _ _ q0 n h r d ep =>
        cases Rs with
        | cons h1 h2 d1 e1 =>
          cases h2 with
          | nil e2 =>
            obtain ⟨b0, ys, q1, rfl, s1, r1, sub, _⟩ := h1.seqL ex
            have sub' : ∀ b, q1 b → q b := fun b x => (e1 b).mpr (.inl (sub b x))
            have dq : Dj q0 q1 := fun b x y => dj b ((ep b).mpr (.inr x)) (sub' b y)
            have R2 := r.app r1 dq
            have own : ∀ b, (q0 b ∨ q b) → F b = none ∧ ∃ o, H b = some o := fun b x => x.elim (r.own b) fun y => h1.own b (((e1 b).mp y).elim id fun z => (e2 b z).elim)
            have nq : ¬ (q0 a ∨ q a) := fun x => x.elim d fun y => dj a ((ep a).mpr (.inl rfl)) y
            obtain ⟨g1, g2, g3, g4, g5⟩ := relist (q := fun b => q0 b ∨ q b) (pv := nop) (u := .non) (v := .non) ex n h own nq R2 (.non fun _ x => x) (fun b x => x.imp id (sub' b)) (fun _ x => x.elim) (fun _ x => x.elim)
            refine ⟨_, mt_extR, a, b0, xs0, ys, rfl, rfl, h, s1, by rw [← r.length, ← r1.length]; exact Nat.le_of_lt (okN_le hz), k .non F _ nop _ g1 g2 g3 g4 (g5.cg fun b => ?_)⟩
            rw [ep b]; exact (or_assoc).symm
    · rw [if_neg hz] at e'; cases e'
theorem mr_pop : MtR X "list.pop" (rM X.K .pop) := mtr_any fun x vs H Q ⟨F, t, us, p, q, t', u, ex, R, Rs, dj, e, k⟩ => by
  match t, us, R, Rs, e with
  | .lst true ts, [], R, Rs, e =>
    have e' : (ts[ts.length - 1]?).map (fun t => (T.lst true ts.dropLast, t)) = some (t', u) := e
    obtain ⟨u0, g0, e2⟩ := Option.map_eq_some_iff.mp e'
    cases e2
    cases Rs with
    | nil e3 =>
      cases R with
      | @lstO a xs0 _ _ q0 n h r d ep =>
        obtain ⟨v, q1, r1, w1, w2, w3, w4, w5⟩ := r.erase g0
        have l := r.length
        have hne : 0 < ts.length := List.length_pos_iff.mpr (by intro z; subst z; simp at g0)
        have hd : ts.dropLast = ts.eraseIdx (ts.length - 1) := (List.eraseIdx_eq_dropLast (by omega)).symm
        have hd2 : xs0.dropLast = xs0.eraseIdx (ts.length - 1) := (List.eraseIdx_eq_dropLast (by omega)).symm
        obtain ⟨g1, g2, g3, g4, g5⟩ := relist (q := q0) (pv := q1) ex n h r.own d (by rw [hd2]; exact w3 : Reps X.K F H _ xs0.dropLast r1) w2 (fun b x => (w5 b).mpr (.inr x)) (fun b x => (w5 b).mpr (.inl x)) w4
        rw [← hd] at g2
        refine ⟨_, mt_pop, a, xs0, v, rfl, rfl, h, by rw [← l]; exact w1, k v F _ q1 _ g1 g2 g3 g4 (g5.cg fun b => ?_)⟩
        rw [ep b]
        exact ⟨.inl, fun x => x.elim id fun z => (e3 b z).elim⟩
theorem mr_popi : MtR X "list.pop" (rM X.K .popi) := mtr_any fun x vs H Q ⟨F, t, us, p, q, t', u, ex, R, Rs, dj, e, k⟩ => by
  match t, us, R, Rs, e with
  | .lst true ts, [.int i], R, Rs, e =>
    have e' : (if okN ts.length then (ixN ts.length i).bind (fun j => (ts[j]?).map fun t => (T.lst true (ts.eraseIdx j), t)) else none) = some (t', u) := e
    by_cases hz : okN ts.length = true
    · rw [if_pos hz] at e'
      obtain ⟨j, hj, e1⟩ := Option.bind_eq_some_iff.mp e'
      obtain ⟨u0, g0, e2⟩ := Option.map_eq_some_iff.mp e1
      cases e2
      obtain ⟨i1, i2, i3, i4⟩ := ixN_seq hj
      cases Rs with
      | cons h0 h2 d1 e3 =>
        obtain ⟨rfl, n0⟩ := h0.int'
        cases h2 with
        | nil e4 =>
          cases R with
          | @lstO a xs0 _ _ q0 n h r d ep =>
            obtain ⟨v, q1, r1, w1, w2, w3, w4, w5⟩ := r.erase g0
            have l := r.length
            have zz := of_decide_eq_true hz
            obtain ⟨g1, g2, g3, g4, g5⟩ := relist (q := q0) (pv := q1) ex n h r.own d w3 w2 (fun b x => (w5 b).mpr (.inr x)) (fun b x => (w5 b).mpr (.inl x)) w4
            refine ⟨_, mt_popAt, a, xs0, i, j, v, rfl, rfl, h, by omega, by omega, by rw [← l]; exact i1, w1, k v F _ q1 _ g1 g2 g3 g4 (g5.cg fun b => ?_)⟩
            rw [ep b]
            exact ⟨.inl, fun x => x.elim id fun z => (((e3 b).mp z).elim (n0 b) (e4 b)).elim⟩
    · rw [if_neg hz] at e'; cases e'
end
end Pv

/-! Calls of lists' methods; targets; what is walked. -/
namespace Pv
open PySem L2 PyProof.Rows
section
variable {X : Cx} {P : Pg} {a b c x y : Expr} {xs : List Expr} {a' b' c' e : E} {es : Es} {pos : Pos}
theorem ev_mut {m : Md} {i : Nat} {q : MK} {sl sl' : SL} {t : T} (h : ev P m (.mut i q es) sl = some (t, sl')) :
    ∃ t0 us sl1 t1 t' u, look sl i = some t0 ∧ kindM q t0 = true ∧ evL P es sl = some (us, sl1) ∧ look sl1 i = some t1 ∧ mutT q t1 us = some (t', u) ∧ fin m false u (sl1.set i t') = some (t, sl') := by
  simp only [ev, Option.bind_eq_some_iff] at h
  obtain ⟨t0, e0, h⟩ := h
  by_cases hk : kindM q t0 = true
  · simp only [hk, if_true, Option.bind_eq_some_iff] at h
    obtain ⟨⟨us, sl1⟩, e1, t1, e2, ⟨t', u⟩, e3, e4⟩ := h
    exact ⟨t0, us, sl1, t1, t', u, e0, hk, e1, e2, e3, e4⟩
  · simp only [hk] at h; cases h
theorem plain_mut {i : Nat} {q : MK} : Plain P (.mut i q es) := fun sl t sl' h => by
  obtain ⟨t0, us, sl1, t1, t', u, e0, hk, e1, e2, e3, e4⟩ := ev_mut h
  obtain ⟨b, h1, h2, rfl⟩ := fin_t e4
  exact ⟨u, b, by simp only [ev, e0, Option.bind_some, hk, if_true, e1, e2, e3, fin], h1, h2⟩
theorem kind_lst {q : MK} {t : T} (h : kindM q t = true) : ∃ o ts, t = .lst o ts := by
  cases q <;> cases t <;> first | (cases h; done) | exact ⟨_, _, rfl⟩
/-- the reading behind the arguments -/
theorem core_mut {m : Md} {i : Nat} {q : MK} {σ : L2.St} {H : Hp} {Q : VK} (hm : m ≠ .t) (h : tev X.K P m (.mut i q es) σ H Q) : tBM X.K "list" (rM X.K q) (tVar i) (tevL X.K P es) σ H Q := by
  obtain ⟨F, sl, p, t, sl', ex, S, e, k⟩ := h
  obtain ⟨t0, us, sl1, t1, t', u, e0, hk, e1, e2, e3, e4⟩ := ev_mut e
  obtain ⟨rfl, rfl, _⟩ := fin_some hm e4
  obtain ⟨v0, q0, g0, R0, _⟩ := S.peek e0
  obtain ⟨o, ts, rfl⟩ := kind_lst hk
  refine ⟨v0, g0, ?_⟩
  obtain ⟨a0, xs0, q1, rfl, s1, _⟩ := R0.seqL ex
  refine ⟨.inl ⟨rfl, xs0, .inl s1⟩, F, sl, p, us, sl1, ex, S, e1, fun vs F1 H1 pv1 p1 ex1 S1 R1 dj1 st1 => ?_⟩
  obtain ⟨w, q2, r2, g2, R2, dj, ep, S2⟩ := S1.take e2
  rw [g0] at g2; cases g2
  refine ⟨F1, t1, us, q2, pv1, t', _, ex1, R2, R1, fun b x y => dj1 b y ((ep b).mpr (.inl x)), e3, fun v F2 H2 pv p' ex2 Rt Ru dj2 st2 => ?_⟩
  obtain ⟨a1, a2, a3⟩ := st2.frame S2.own fun b x y => x.elim (fun z => dj b z y) fun z => dj1 b z ((ep b).mpr (.inr y))
  have S3 := (S2.frame st2.ex a1).put (set_hole_put e2) g0 Rt fun b x y => a2 b (.inr x) y
  rw [List.set_set] at S3
  refine k v F2 H2 pv _ ex2 S3 Ru (fun _ b x y => y.elim (dj2 b x) fun z => a2 b (.inl x) z) ?_
  have st1' : Stp p F H (fun b => (q2 b ∨ pv1 b) ∨ r2 b) F1 H1 := st1.sub fun b x => by
    rcases x with (x | x) | x
    · exact .inr ((ep b).mpr (.inl x))
    · exact .inl x
    · exact .inr ((ep b).mpr (.inr x))
  refine (st1'.trans a3).sub fun b x => ?_
  rcases x with x | x | x
  · exact .inl (.inl x)
  · exact .inl (.inr x)
  · exact .inr x
theorem sd_mut {i : Nat} {n name : Str} {id : String} {q : MK} {pn apos : Pos} (pa : PlainAttrs "list") (slot : Slot "list" name id) (hty : typeOf (.builtin id) = pure (.type "method_descriptor")) (hr : MtR X id (rM X.K q))
    (hN : X.N[i]? = some n) (hv : Vis X.env.scope n) (hd : (n == ("__debug__" : Str)) = false) (hcd : (n == ("__classdict__" : Str)) = false) (ha : SdL X P (x :: xs) es)
    (hfew : ((backTo pos (starEach (x :: xs) X.env)).all (fun x => !x.1) && (backToKw pos (keywordEach [] X.env)).all (fun x => x.1.isSome)
      && decide ((x :: xs).length + ([] : List Keyword).length + (if ([] : List Keyword).isEmpty then 0 else 1) < 30)) = true) (hl : (apos.endLine == pos.line) = true)
    (he : starEach (x :: xs) X.env = (false, eval x X.env) :: starEach xs X.env) (hpl : (backTo pos (starEach xs X.env)).any (·.1) = false) : Sd X P (.Call (.Attribute (.Name n pn) name apos) (x :: xs) [] pos) (.mut i q es) :=
  have v : ∀ m, m ≠ .t → PE X (.Call (.Attribute (.Name n pn) name apos) (x :: xs) [] pos) (tev X.K P m (.mut i q es)) := fun m hmm =>
    pe_imp (pe_bm pa slot hty hr (pe_var hN hv hd hcd) ha rfl hfew hl he hpl) fun σ H Q h => core_mut hmm h
  ⟨v, pt_plain (v .o (by decide)) plain_mut fun _ => rfl⟩
theorem sd_mut0 {i : Nat} {n name : Str} {id : String} {q : MK} {pn apos : Pos} (pa : PlainAttrs "list") (slot : Slot "list" name id) (hty : typeOf (.builtin id) = pure (.type "method_descriptor")) (hr : MtR X id (rM X.K q))
    (hN : X.N[i]? = some n) (hv : Vis X.env.scope n) (hd : (n == ("__debug__" : Str)) = false) (hcd : (n == ("__classdict__" : Str)) = false) (hl : (apos.endLine == pos.line) = true) : Sd X P (.Call (.Attribute (.Name n pn) name apos) [] [] pos) (.mut i q .nil) :=
  have v : ∀ m, m ≠ .t → PE X (.Call (.Attribute (.Name n pn) name apos) [] [] pos) (tev X.K P m (.mut i q .nil)) := fun m hmm =>
    pe_imp (pe_bm0 pa slot hty hr (pe_var hN hv hd hcd) rfl hl) fun σ H Q h => by
      obtain ⟨w, g0, ty, F, sl, p, us, sl1, ex, S, e1, k⟩ := core_mut hmm h
      simp only [evL] at e1
      cases e1
      exact ⟨w, g0, ty, k [] F H nop p ex S (.nil fun _ x => x) (fun _ x => x.elim) (Stp.refl.sub fun a x => x.elim (fun z => z.elim) fun z => z)⟩
  ⟨v, pt_plain (v .o (by decide)) plain_mut fun _ => rfl⟩
end

/-! ### targets -/
def Keep (A : List Nat) (σ σ' : L2.St) : Prop := σ'.length = σ.length ∧ ∀ i, i ∉ A → σ'[i]? = σ[i]?
theorem Keep.refl {A : List Nat} {σ : L2.St} : Keep A σ σ := ⟨rfl, fun _ _ => rfl⟩
theorem Keep.trans {A : List Nat} {σ σ1 σ2 : L2.St} (h : Keep A σ σ1) (g : Keep A σ1 σ2) : Keep A σ σ2 := ⟨g.1.trans h.1, fun i n => (g.2 i n).trans (h.2 i n)⟩
theorem Keep.mono {A B : List Nat} {σ σ' : L2.St} (h : Keep A σ σ') (s : ∀ i ∈ A, i ∈ B) : Keep B σ σ' := ⟨h.1, fun i n => h.2 i fun z => n (s i z)⟩
theorem Keep.set {σ : L2.St} {i : Nat} {x : Option V} : Keep [i] σ (σ.set i x) := ⟨by simp, fun j n => by
  rw [List.getElem?_set_ne]
  intro z; subst z; exact n (List.mem_singleton.mpr rfl)⟩
/-- a target's reading: set is what the evaluator does -/
def tevG (K : PySem.W.Frag) (A : List Nat) (set : T → SL → Option SL) : TG := fun v σ H Q => ∃ F t pv sl p sl', Ex F H ∧ Rep K F H t v pv ∧ SlR K F H sl σ p ∧ Dj pv p ∧ set t sl = some sl' ∧
  ∀ σ' F' H' p', Keep A σ σ' → Ex F' H' → SlR K F' H' sl' σ' p' → Stp (fun a => pv a ∨ p a) F H p' F' H' → Q σ' H'
def tevGs (K : PySem.W.Frag) (A : List Nat) (set : List T → SL → Option SL) : TGs := fun vs σ H Q => ∃ F ts pv sl p sl', Ex F H ∧ Reps K F H ts vs pv ∧ SlR K F H sl σ p ∧ Dj pv p ∧ set ts sl = some sl' ∧
  ∀ σ' F' H' p', Keep A σ σ' → Ex F' H' → SlR K F' H' sl' σ' p' → Stp (fun a => pv a ∨ p a) F H p' F' H' → Q σ' H'
/-- a value stored in a slot -/
theorem SlR.store {K : PySem.W.Frag} {F H : Hp} {sl : SL} {σ : L2.St} {p q : FP} {t : T} {v : V} (S : SlR K F H sl σ p) (i : Nat) (R : Rep K F H t v q) (dj : Dj q p) : ∃ p', (∀ a, p' a → q a ∨ p a) ∧ SlR K F H (sl.set i t) (σ.set i (some v)) p' := by
  obtain ⟨r, sub, S1⟩ := S.drop i (some v)
  by_cases hi : i < sl.length
  · exact ⟨_, fun a x => x.imp id (sub a), S1.put2 hi R fun a x y => dj a x (sub a y)⟩
  · have e1 : sl.set i t = sl := List.set_eq_of_length_le (by omega)
    have e2 : σ.set i (some v) = σ := List.set_eq_of_length_le (by have := S.len; omega)
    rw [e1, e2]
    exact ⟨p, fun a x => .inr x, S⟩
section
variable {X : Cx} {P : Pg} {a b c x y : Expr} {xs : List Expr} {pos : Pos}
theorem pg_imp {e : Expr} {t t' : TG} (h1 : PG X e t) (h : ∀ v σ H Q, t' v σ H Q → t v σ H Q) : PG X e t' := ⟨fun pins s σ H v u Q I r w => h1.run pins s σ H v u Q I r (h v σ H Q w)⟩
theorem pgs_imp {e : List Expr} {t t' : TGs} (h1 : PGs X e t) (h : ∀ v σ H Q, t' v σ H Q → t v σ H Q) : PGs X e t' := ⟨fun pins s σ H v u Q I r w => h1.run pins s σ H v u Q I r (h v σ H Q w)⟩
theorem sg_nm {i : Nat} {n : Str} (hN : X.N.Nodup) (hi : X.N[i]? = some n) (hx : Loc X.env.scope n) (hf : X.fn n = true ∨ X.env.scope.names.lookup n = some .local) : PG X (.Name n pos) (tevG X.K (stG0 (.nm i)) (setG0 P (.nm i))) :=
  pg_imp (pg_name hN hi hx hf) fun v σ H Q ⟨F, t, pv, sl, p, sl', ex, R, S, dj, e, k⟩ => by
    cases e
    obtain ⟨p', sub, S'⟩ := S.store i R dj
    exact k _ F H p' Keep.set ex S' (Stp.refl.sub sub)
theorem sgs_nil : PGs X [] (tevGs X.K [] (setNs [])) := pgs_imp pgs_nil fun vs σ H Q ⟨F, ts, pv, sl, p, sl', ex, R, S, dj, e, k⟩ => by
  cases R with
  | nil _ =>
    cases e
    exact ⟨rfl, k σ F H p Keep.refl ex S (Stp.refl.sub fun a x => .inr x)⟩
  | cons => cases e
theorem sgs_cons {i : Nat} {is : List Nat} (h1 : PG X a (tevG X.K [i] fun t sl => some (sl.set i t))) (h2 : PGs X xs (tevGs X.K is (setNs is))) (hs : (assignEach (a :: xs) X.env).map (·.2) = assign a X.env :: (assignEach xs X.env).map (·.2)) :
    PGs X (a :: xs) (tevGs X.K (i :: is) (setNs (i :: is))) := pgs_imp (pgs_cons h1 h2 hs) fun vs σ H Q ⟨F, ts, pv, sl, p, sl', ex, R, S, dj, e, k⟩ => by
  cases R with
  | nil _ => cases e
  | @cons t v ts vs p1 q1 _ h hs d e1 =>
    refine ⟨v, vs, rfl, F, t, p1, sl, p, sl.set i t, ex, h, S, fun b x y => dj b ((e1 b).mpr (.inl x)) y, rfl, fun σ1 F1 H1 p2 k1 ex1 S1 st1 => ?_⟩
    obtain ⟨a1, a2, a3⟩ := st1.frame hs.own fun b x y => x.elim (fun z => d b z y) fun z => dj b ((e1 b).mpr (.inr y)) z
    refine ⟨F1, ts, q1, sl.set i t, p2, sl', ex1, hs.frame st1.ex a1, S1, fun b x y => a2 b y x, e, fun σ2 F2 H2 p3 k2 ex2 S2 st2 => ?_⟩
    refine k σ2 F2 H2 p3 ((k1.mono fun j z => ?_).trans (k2.mono fun j z => List.mem_cons_of_mem _ z)) ex2 S2 ?_
    · rw [List.mem_singleton.mp z]; exact List.mem_cons_self
    · refine (a3.trans (st2.cg fun b => or_comm)).cg fun b => ?_
      rw [e1 b]
      constructor
      · rintro ((x | x) | x)
        · exact .inl (.inl x)
        · exact .inr x
        · exact .inl (.inr x)
      · rintro ((x | x) | x)
        · exact .inl (.inl x)
        · exact .inr x
        · exact .inl (.inr x)
theorem sg_tp {k1 : Nat} {is : List Nat} (hc : X.calm = true) (h : PGs X xs (tevGs X.K is (setNs is))) (hn : (assignEach xs X.env).length = is.length) (hst : (assignEach xs X.env).findIdx? (·.1) = none) : PG X (.Tuple xs k1 pos) (tevG X.K (stG0 (.tp is)) (setG0 P (.tp is))) :=
  pg_imp (pg_tup hc h hn hst) fun v σ H Q ⟨F, t, pv, sl, p, sl', ex, R, S, dj, e, k⟩ => by
    cases t <;> first | (cases e; done) | skip
    rename_i ts
    have e' : setNs is ts sl = some sl' := e
    obtain ⟨a0, ys, rfl, s1, r1⟩ := R.seqT ex
    have hl : ∀ {is : List Nat} {ts : List T} {sl sl' : SL}, setNs is ts sl = some sl' → ts.length = is.length := fun {is} => by
      induction is with
      | nil => intro ts sl sl' h; cases ts <;> first | rfl | cases h
      | cons i is ih => intro ts sl sl' h; cases ts with
        | nil => cases h
        | cons t ts => exact congrArg Nat.succ (ih h)
    exact ⟨a0, ys, rfl, s1, by rw [← r1.length, hl e'], F, ts, pv, sl, p, sl', ex, r1, S, dj, e', k⟩
/-! ### o.f = .. -/
theorem pg_fld {o : Expr} {f : Str} {ta : TE} (ha : PE X o ta) (hs : ∀ v, assign (.Attribute o f pos) X.env v = (do
      let ov ← holding [v] (eval o X.env)
      standAt pos.atName
      holding [v, ov] (setAttr ov f v)
      release [v, ov] [])) : PG X (.Attribute o f pos) (fun y σ H Q => ta σ H fun x H2 => ∃ a C dx fs, x = .ref a ∧ H2 a = some (.ins C dx fs) ∧ Cls X.K C ∧ NoAttr X.K C f ∧ fs.length < 1000 ∧ Q σ (upd H2 a (.ins C dx (putF f y fs)))) := by
  refine ⟨fun pins s σ H v u Q I r h => ?_⟩
  rw [hs]
  refine wpAny_bind (wpAny_holding (thn (ha.run pins s σ H _ I h) fun ov s1 ⟨x, H1, I1, r1, a, C, dx, fs, ex, ea, c, n, l, q⟩ => ?_))
  subst ex
  obtain rfl : ov = Value.ref a := r1
  refine wpAny_bind (wpAny_standAt (wpAny_bind (wpAny_holding (setattr_ok I1 ea c n l r fun s3 I3 => ?_))))
  exact wpAny_release ⟨σ, _, I3, q⟩
theorem putF_some {f : Str} {v : V} : ∀ {fs : List (Str × V)} {i : Nat}, (fs.map (·.1)).idxOf? f = some i → (putF f v fs).map (·.1) = fs.map (·.1) ∧ (putF f v fs).map (·.2) = (fs.map (·.2)).set i v
  | [], i, h => by simp at h
  | (g, w) :: fs, i, h => by
    simp only [List.map_cons, List.idxOf?_cons] at h
    show ((if g = f then (g, v) :: fs else (g, w) :: putF f v fs) : List (Str × V)).map (·.1) = _ ∧ ((if g = f then (g, v) :: fs else (g, w) :: putF f v fs) : List (Str × V)).map (·.2) = _
    by_cases c : g = f
    · rw [if_pos (beq_iff_eq.mpr c)] at h
      cases h
      rw [if_pos c]
      exact ⟨rfl, rfl⟩
    · rw [if_neg (fun z => c (beq_iff_eq.mp z))] at h
      obtain ⟨j, e, rfl⟩ := Option.map_eq_some_iff.mp h
      obtain ⟨h1, h2⟩ := putF_some (v := v) e
      rw [if_neg c]
      exact ⟨congrArg (g :: ·) h1, congrArg (w :: ·) h2⟩
theorem putF_none {f : Str} {v : V} : ∀ {fs : List (Str × V)}, (fs.map (·.1)).idxOf? f = none → (putF f v fs).map (·.1) = fs.map (·.1) ++ [f] ∧ (putF f v fs).map (·.2) = fs.map (·.2) ++ [v]
  | [], h => ⟨rfl, rfl⟩
  | (g, w) :: fs, h => by
    simp only [List.map_cons, List.idxOf?_cons] at h
    show ((if g = f then (g, v) :: fs else (g, w) :: putF f v fs) : List (Str × V)).map (·.1) = _ ∧ ((if g = f then (g, v) :: fs else (g, w) :: putF f v fs) : List (Str × V)).map (·.2) = _
    by_cases c : g = f
    · rw [if_pos (beq_iff_eq.mpr c)] at h
      cases h
    · rw [if_neg (fun z => c (beq_iff_eq.mp z))] at h
      obtain ⟨h1, h2⟩ := putF_none (v := v) (Option.map_eq_none_iff.mp h)
      rw [if_neg c]
      exact ⟨congrArg (g :: ·) h1, congrArg (w :: ·) h2⟩
/-- an owned object is rewritten -/
theorem reown {K : PySem.W.Frag} {F H : Hp} {q q' : FP} {a : Addr} {o' : HO} {us : List T} {ys : List V} (ex : Ex F H) (n : F a = none) (own : ∀ b, q b → F b = none ∧ ∃ o, H b = some o) (nq : ¬ q a) (R : Reps K F H us ys q') (s1 : ∀ b, q' b → q b) :
    Ex F (upd H a o') ∧ Reps K F (upd H a o') us ys q' ∧ Stp (fun b => b = a ∨ q b) F H (fun b => b = a ∨ q' b) F (upd H a o') := by
  have ne : ∀ b, q b → b ≠ a := fun b x e => nq (e ▸ x)
  refine ⟨fun b o e => ?_, R.frame (Evl.Ex.refl F) fun b x => ⟨(own b (s1 b x)).1, upd_ne (ne b (s1 b x))⟩, Evl.Ex.refl F, fun b o e z => ?_, fun _ _ _ _ => rfl, fun b x => .inl (x.imp id (s1 b))⟩
  · rw [upd_ne (fun z => by subst z; rw [n] at e; cases e)]; exact ex b o e
  · rw [upd_ne fun w => z (.inl w)]; exact e
theorem setC_some {P : Pg} {c : Str} {ns : List Str} {ts : List T} {f : Str} {x z' : T} (h : setC P (.ins true c ns ts) f x = some z') : P.fd c f = true ∧ ns.length < 900 ∧ ((∃ i, ns.idxOf? f = some i ∧ z' = .ins true c ns (ts.set i x)) ∨ (ns.idxOf? f = none ∧ z' = .ins true c (ns ++ [f]) (ts ++ [x]))) := by
  have h' : (if P.fd c f && decide (ns.length < 900) then (match ns.idxOf? f with
    | some i => some (T.ins true c ns (ts.set i x))
    | none => some (T.ins true c (ns ++ [f]) (ts ++ [x]))) else none) = some z' := h
  by_cases hz : (P.fd c f && decide (ns.length < 900)) = true
  · rw [if_pos hz] at h'
    simp only [Bool.and_eq_true, decide_eq_true_eq] at hz
    refine ⟨hz.1, hz.2, ?_⟩
    cases e : ns.idxOf? f with
    | some i => rw [e] at h'; cases h'; exact .inl ⟨i, rfl, rfl⟩
    | none => rw [e] at h'; cases h'; exact .inr ⟨rfl, rfl⟩
  · rw [if_neg hz] at h'; cases h'
/-- the field of an owned instance is stored -/
theorem setC_ok {K : PySem.W.Frag} {P : Pg} {F H : Hp} {p q : FP} {c : Str} {ns : List Str} {ts : List T} {f : Str} {t z' : T} {v w : V} (C : ClsOk K P) (ex : Ex F H) (R : Rep K F H (.ins true c ns ts) w p) (Rt : Rep K F H t v q) (dj : Dj q p) (h : setC P (.ins true c ns ts) f t = some z') :
    ∃ a dx fs p', w = .ref a ∧ H a = some (.ins (He.ga K c) dx fs) ∧ Cls K (He.ga K c) ∧ NoAttr K (He.ga K c) f ∧ fs.length < 900 ∧ Ex F (upd H a (.ins (He.ga K c) dx (putF f v fs))) ∧ Rep K F (upd H a (.ins (He.ga K c) dx (putF f v fs))) z' w p' ∧
      Stp (fun b => q b ∨ p b) F H p' F (upd H a (.ins (He.ga K c) dx (putF f v fs))) ∧ fs.map (·.1) = ns := by
  obtain ⟨hf, hn, h⟩ := setC_some h
  obtain ⟨c1, c2⟩ := C.fd c f hf
  cases R with
  | @insO a dx _ fs _ _ _ q0 n hH hw r d e =>
    subst hw
    rw [List.length_map] at hn
    have own : ∀ b, (q0 b ∨ q b) → F b = none ∧ ∃ o, H b = some o := fun b x => x.elim (r.own b) (Rt.own b)
    have nq : ¬ (q0 a ∨ q a) := fun x => x.elim d fun y => dj a y ((e a).mpr (.inl rfl))
    have fin : ∀ {us : List T} {ys : List V} {q' : FP} {ns' : List Str}, Reps K F H us ys q' → (∀ b, q' b → q0 b ∨ q b) → (putF f v fs).map (·.1) = ns' → (putF f v fs).map (·.2) = ys →
        ∃ p', Ex F (upd H a (.ins (He.ga K c) dx (putF f v fs))) ∧ Rep K F (upd H a (.ins (He.ga K c) dx (putF f v fs))) (.ins true c ns' us) (.ref a) p' ∧ Stp (fun b => q b ∨ p b) F H p' F (upd H a (.ins (He.ga K c) dx (putF f v fs))) := fun {us ys q' ns'} R' sub e1 e2 => by
      obtain ⟨g1, g2, g3⟩ := reown (o' := .ins (He.ga K c) dx (putF f v fs)) ex n own nq R' sub
      refine ⟨_, g1, .insO n upd_same e1 (e2 ▸ g2) (fun x => nq (sub a x)) fun b => Iff.rfl, g3.cg fun b => ?_⟩
      rw [e b]
      constructor
      · rintro (x | x | x)
        · exact .inr (.inl x)
        · exact .inr (.inr x)
        · exact .inl x
      · rintro (x | x | x)
        · exact .inr (.inr x)
        · exact .inl x
        · exact .inr (.inl x)
    rcases h with ⟨i, hi, rfl⟩ | ⟨hi, rfl⟩
    · obtain ⟨e1, e2⟩ := putF_some (v := v) hi
      have hil : i < ts.length := by
        have h2 := (List.idxOf?_eq_some_iff.mp hi).1
        rw [r.length]; simpa using h2
      obtain ⟨w0, qi, ri, _, _, dji, ei, Ri⟩ := r.focus (i := i) (t := ts[i]) (by simp [hil])
      have R2 := Ri.put (i := i) (t := t) (v := v) (q := q) (by rw [List.getElem?_set_self hil]) Rt fun b x y => dj b x ((e b).mpr (.inr ((ei b).mpr (.inr y))))
      rw [List.set_set] at R2
      obtain ⟨p', g1, g2, g3⟩ := fin R2 (fun b x => x.elim .inr fun y => .inl ((ei b).mpr (.inr y))) e1 e2
      exact ⟨a, dx, fs, p', rfl, hH, c1, c2, hn, g1, g2, g3, rfl⟩
    · obtain ⟨e1, e2⟩ := putF_none (v := v) hi
      have R2 := r.app (Reps.one Rt) fun b x y => dj b y ((e b).mpr (.inr x))
      obtain ⟨p', g1, g2, g3⟩ := fin R2 (fun b x => x) e1 e2
      exact ⟨a, dx, fs, p', rfl, hH, c1, c2, hn, g1, g2, g3, rfl⟩
theorem sg_at {r : Nat} {n f : Str} {pn : Pos} (C : ClsOk X.K P) (hN : X.N[r]? = some n) (hv : Vis X.env.scope n) (hd : (n == ("__debug__" : Str)) = false) (hcd : (n == ("__classdict__" : Str)) = false) : PG X (.Attribute (.Name n pn) f pos) (tevG X.K (stG0 (.at r f)) (setG0 P (.at r f))) :=
  pg_imp (pg_fld (pe_var hN hv hd hcd) fun _ => rfl) fun v σ H Q ⟨F, t, pv, sl, p, sl', ex, R, S, dj, e, k⟩ => by
    have e' : (look sl r).bind (fun z => match z with
      | .ins true c ns ts => (setC P z f t).bind fun z' => some (sl.set r z')
      | _ => none) = some sl' := e
    obtain ⟨z, e1, e2⟩ := Option.bind_eq_some_iff.mp e'
    obtain ⟨w, q, r1, g0, Rz, djz, ez, S1⟩ := S.take e1
    cases z <;> first | (cases e2; done) | skip
    rename_i o c ns ts
    cases o <;> first | (cases e2; done) | skip
    obtain ⟨z', e3, e4⟩ := Option.bind_eq_some_iff.mp e2
    cases e4
    obtain ⟨a, dx, fs, p', rfl, h1, h2, h3, h4, h5, h6, h7, _⟩ := setC_ok C ex Rz R (fun b x y => dj b x ((ez b).mpr (.inl y))) e3
    obtain ⟨a1, a2, a3⟩ := h7.frame S1.own fun b x y => x.elim (fun z => dj b z ((ez b).mpr (.inr y))) fun z => djz b z y
    have S3 := (S1.frame h7.ex a1).put (set_hole_put e1) g0 h6 a2
    rw [List.set_set] at S3
    refine ⟨_, g0, a, _, dx, fs, rfl, h1, h2, h3, by omega, k σ F _ _ Keep.refl h5 S3 (a3.cg fun b => ?_)⟩
    rw [ez b]; exact or_assoc
end
end Pv

/-! What is walked. -/
namespace Pv
open PySem L2 PyProof.Rows
/-- the iterator J hands out the frozen values ts -/
structure WalkT (K : PySem.W.Frag) (ts : List T) (F H : Hp) (J : L2.It) : Prop where
  stop : ∀ F2 H2, Ex F F2 → Ex F2 H2 → J.stop ts.length H2
  go : ∀ (i : Nat) t F2 H2, ts[i]? = some t → Ex F F2 → Ex F2 H2 → J.go i H2 ∧ ∀ x H3, J.yld i H2 x H3 → ∃ F3, Ex F3 H3 ∧ Rep K F3 H3 t x nop ∧ Stp nop F2 H2 nop F3 H3
def tevI (K : PySem.W.Frag) (P : Pg) (it : Pv.It) : TI := fun σ H R => ∃ F sl p ts sl', Ex F H ∧ SlR K F H sl σ p ∧ evI P it sl = some (ts, sl') ∧
  ∀ J F' H' p', WalkT K ts F' H' J → Ex F' H' → SlR K F' H' sl' σ p' → Stp p F H p' F' H' → R J H'
section
variable {K : PySem.W.Frag} {F F' H H' : Hp} {σ : L2.St} {p p' q : FP} {ts : List T} {xs : List V}
/-- what is frozen at a value: the row -/
theorem frz_row {t : T} {v : V} {us : List T} (R : Rep K F H (frz t) v nop) (h : items t = some us) : ∃ a xs, v = .ref a ∧ ((∃ o, t = .lst o us) ∧ Rd F a (.lst xs) ∨ t = .tup us ∧ SqT K F a xs) ∧ Reps K F H (frzs us) xs nop := by
  cases t <;> first | (cases h; done) | skip
  · cases h
    simp only [frz] at R
    cases R with
    | tup s r => exact ⟨_, _, rfl, .inr ⟨rfl, s⟩, r⟩
  · cases h
    simp only [frz] at R
    cases R with
    | lstF s r => exact ⟨_, _, rfl, .inl ⟨⟨_, rfl⟩, s⟩, r⟩
theorem Reps.atN (R : Reps K F H ts xs nop) {i : Nat} {t : T} (h : ts[i]? = some t) : ∃ v, xs[i]? = some v ∧ Rep K F H t v nop := by
  obtain ⟨v, q, e, r, sub⟩ := R.at_ h
  exact ⟨v, e, r.cg fun b => ⟨sub b, fun x => x.elim⟩⟩
theorem Rep.upF {t : T} {v : V} (R : Rep K F H t v nop) (ex : Ex F F') : Rep K F' H' t v nop := R.frame ex fun _ x => x.elim
theorem walks_list {a : Addr} (s : Rd F a (.lst xs)) (R : Reps K F H ts xs nop) : WalkT K ts F H (Itl K a) where
  stop := fun F2 H2 e1 e2 => ⟨xs, .inl (Evl.ex_rd e2 (Evl.ex_rd e1 s)), by rw [R.length]; exact Nat.le_refl _⟩
  go := fun i t F2 H2 h e1 e2 => by
    obtain ⟨v, hv, r⟩ := R.atN h
    have s2 : SqL K H2 a xs := .inl (Evl.ex_rd e2 (Evl.ex_rd e1 s))
    refine ⟨⟨xs, v, s2, hv⟩, fun x H3 ⟨e, y⟩ => ?_⟩
    subst e
    have := y xs s2
    rw [hv] at this; cases this
    exact ⟨F2, e2, r.upF e1, Stp.refl⟩
theorem walks_tup {a : Addr} (s : SqT K F a xs) (R : Reps K F H ts xs nop) : WalkT K ts F H (Itt K a) where
  stop := fun F2 H2 e1 e2 => ⟨xs, Evl.ex_t e2 (Evl.ex_t e1 s), by rw [R.length]; exact Nat.le_refl _⟩
  go := fun i t F2 H2 h e1 e2 => by
    obtain ⟨v, hv, r⟩ := R.atN h
    have s2 : SqT K H2 a xs := Evl.ex_t e2 (Evl.ex_t e1 s)
    refine ⟨⟨xs, v, s2, hv⟩, fun x H3 ⟨e, y⟩ => ?_⟩
    subst e
    have := y xs s2
    rw [hv] at this; cases this
    exact ⟨F2, e2, r.upF e1, Stp.refl⟩
theorem walks_rng {lo hi : Int} : WalkT K (rngU lo hi) F H (Itr lo (hi - lo).toNat) where
  stop := fun F2 H2 e1 e2 => by
    show (hi - lo).toNat ≤ (rngU lo hi).length
    simp [rngU]
  go := fun i t F2 H2 h e1 e2 => by
    unfold rngU at h
    rw [List.getElem?_map] at h
    obtain ⟨k, hk, e⟩ := Option.map_eq_some_iff.mp h
    obtain ⟨h1, h2⟩ := List.getElem?_eq_some_iff.mp hk
    rw [List.length_range] at h1
    rw [List.getElem_range] at h2
    subst h2 e
    refine ⟨h1, fun x H3 ⟨e, y⟩ => ?_⟩
    subst e y
    exact ⟨F2, e2, .int fun _ x => x, Stp.refl⟩
theorem walks_rngD {lo hi : Int} : WalkT K (rngD lo hi) F H (Itc lo (-1) (lo - hi).toNat) where
  stop := fun F2 H2 e1 e2 => by
    show (lo - hi).toNat ≤ (rngD lo hi).length
    simp [rngD]
  go := fun i t F2 H2 h e1 e2 => by
    unfold rngD at h
    rw [List.getElem?_map] at h
    obtain ⟨k, hk, e⟩ := Option.map_eq_some_iff.mp h
    obtain ⟨h1, h2⟩ := List.getElem?_eq_some_iff.mp hk
    rw [List.length_range] at h1
    rw [List.getElem_range] at h2
    subst h2 e
    refine ⟨h1, fun x H3 ⟨e, y⟩ => ?_⟩
    subst e y
    exact ⟨F2, e2, .int fun _ x => x, Stp.refl⟩
/-- a new tuple of frozen values -/
theorem fresh_tup {F2 H2 : Hp} {us : List T} {ys : List V} {a : Addr} (e2 : Ex F2 H2) (n : H2 a = none) (R : Reps K F2 H2 us ys nop) : ∃ F3, Ex F3 (upd H2 a (.tup ys)) ∧ Rep K F3 (upd H2 a (.tup ys)) (.tup us) (.ref a) nop ∧ Stp nop F2 H2 nop F3 (upd H2 a (.tup ys)) := by
  obtain ⟨b1, b2, b3⟩ := new_tup e2 n R
  exact ⟨_, b1, b2, b3⟩
theorem walks_enum {a : Addr} (s : Rd F a (.lst xs)) (R : Reps K F H ts xs nop) : WalkT K (ts.mapIdx fun i t => .tup [.int (i : Nat), t]) F H (Ite K a) where
  stop := fun F2 H2 e1 e2 => ⟨xs, .inl (Evl.ex_rd e2 (Evl.ex_rd e1 s)), by rw [List.length_mapIdx, R.length]; exact Nat.le_refl _⟩
  go := fun i t F2 H2 h e1 e2 => by
    rw [List.getElem?_mapIdx] at h
    obtain ⟨t0, h0, e⟩ := Option.map_eq_some_iff.mp h
    subst e
    obtain ⟨v, hv, r⟩ := R.atN h0
    have s2 : SqL K H2 a xs := .inl (Evl.ex_rd e2 (Evl.ex_rd e1 s))
    refine ⟨⟨xs, v, s2, hv⟩, fun x H3 ⟨T0, w, e, n, e3, y⟩ => ?_⟩
    subst e e3
    have := y xs s2
    rw [hv] at this; cases this
    exact fresh_tup e2 n (.cons (.int (p := nop) fun _ x => x) (.cons (r.upF e1) (.nil (p := nop) fun _ x => x) (fun _ x => x.elim) fun b => ⟨.inl, fun x => x.elim id id⟩) (fun _ x => x.elim) fun b => ⟨.inl, fun x => x.elim id id⟩)
theorem pair_nop {t u : T} {v w : V} (h : Rep K F H t v nop) (g : Rep K F H u w nop) : Reps K F H [t, u] [v, w] nop :=
  .cons h (.cons g (.nil (p := nop) fun _ x => x) (fun _ x => x.elim) fun b => ⟨.inl, fun x => x.elim id id⟩) (fun _ x => x.elim) fun b => ⟨.inl, fun x => x.elim id id⟩
theorem walks_zip {a b : Addr} {us : List T} {ys : List V} (s : Rd F a (.lst xs)) (R : Reps K F H ts xs nop) (s' : Rd F b (.lst ys)) (R' : Reps K F H us ys nop) : WalkT K (List.zipWith (fun t u => .tup [t, u]) ts us) F H (Itz K a b) where
  stop := fun F2 H2 e1 e2 => ⟨xs, ys, .inl (Evl.ex_rd e2 (Evl.ex_rd e1 s)), .inl (Evl.ex_rd e2 (Evl.ex_rd e1 s')), by
    rw [List.length_zipWith, ← R.length, ← R'.length]; omega⟩
  go := fun i t F2 H2 h e1 e2 => by
    rw [List.getElem?_zipWith] at h
    cases h0 : ts[i]? with
    | none => rw [h0] at h; cases h
    | some t0 =>
      cases h1 : us[i]? with
      | none => rw [h0, h1] at h; cases h
      | some u0 =>
        rw [h0, h1] at h; cases h
        obtain ⟨v, hv, r⟩ := R.atN h0
        obtain ⟨w, hw, r'⟩ := R'.atN h1
        have s2 : SqL K H2 a xs := .inl (Evl.ex_rd e2 (Evl.ex_rd e1 s))
        have s3 : SqL K H2 b ys := .inl (Evl.ex_rd e2 (Evl.ex_rd e1 s'))
        refine ⟨⟨xs, ys, v, w, s2, s3, hv, hw⟩, fun x H3 ⟨T0, x1, y1, e, n, e3, yx, yy⟩ => ?_⟩
        subst e e3
        have z1 := yx xs s2
        have z2 := yy ys s3
        rw [hv] at z1; rw [hw] at z2
        cases z1; cases z2
        exact fresh_tup e2 n (pair_nop (r.upF e1) (r'.upF e1))
theorem walks_zipT {a b : Addr} {us : List T} {ys : List V} (s : SqT K F a xs) (R : Reps K F H ts xs nop) (s' : SqT K F b ys) (R' : Reps K F H us ys nop) : WalkT K (List.zipWith (fun t u => .tup [t, u]) ts us) F H (RZ.ItzT K a b) where
  stop := fun F2 H2 e1 e2 => ⟨xs, ys, Evl.ex_t e2 (Evl.ex_t e1 s), Evl.ex_t e2 (Evl.ex_t e1 s'), by
    rw [List.length_zipWith, ← R.length, ← R'.length]; omega⟩
  go := fun i t F2 H2 h e1 e2 => by
    rw [List.getElem?_zipWith] at h
    cases h0 : ts[i]? with
    | none => rw [h0] at h; cases h
    | some t0 =>
      cases h1 : us[i]? with
      | none => rw [h0, h1] at h; cases h
      | some u0 =>
        rw [h0, h1] at h; cases h
        obtain ⟨v, hv, r⟩ := R.atN h0
        obtain ⟨w, hw, r'⟩ := R'.atN h1
        have s2 : SqT K H2 a xs := Evl.ex_t e2 (Evl.ex_t e1 s)
        have s3 : SqT K H2 b ys := Evl.ex_t e2 (Evl.ex_t e1 s')
        refine ⟨⟨xs, ys, v, w, s2, s3, hv, hw⟩, fun x H3 ⟨T0, x1, y1, e, n, e3, yx, yy⟩ => ?_⟩
        subst e e3
        have z1 := yx xs s2
        have z2 := yy ys s3
        rw [hv] at z1; rw [hw] at z2
        cases z1; cases z2
        exact fresh_tup e2 n (pair_nop (r.upF e1) (r'.upF e1))
theorem rev_at {α : Type} {l : List α} {i : Nat} {x : α} (h : l.reverse[i]? = some x) : i < l.length ∧ l[l.length - 1 - i]? = some x := by
  have hi : i < l.length := by
    have := (List.getElem?_eq_some_iff.mp h).1
    simpa using this
  rw [List.getElem?_reverse hi] at h
  exact ⟨hi, h⟩
theorem walks_rev {a : Addr} (s : Rd F a (.lst xs)) (R : Reps K F H ts xs nop) : WalkT K ts.reverse F H (Itv K a xs.length) where
  stop := fun F2 H2 e1 e2 => by
    show xs.length ≤ ts.reverse.length
    rw [List.length_reverse, R.length]; exact Nat.le_refl _
  go := fun i t F2 H2 h e1 e2 => by
    obtain ⟨hi, h'⟩ := rev_at h
    rw [R.length] at hi h'
    obtain ⟨v, hv, r⟩ := R.atN h'
    have s2 : SqL K H2 a xs := .inl (Evl.ex_rd e2 (Evl.ex_rd e1 s))
    refine ⟨⟨hi, xs, v, s2, hv⟩, fun x H3 ⟨e, y⟩ => ?_⟩
    subst e
    have := y xs s2
    rw [hv] at this; cases this
    exact ⟨F2, e2, r.upF e1, Stp.refl⟩
theorem walks_keys {a : Addr} {od : Obj} {ks : List (List Key)} (s : F a = some (.frz od (dho false ks xs))) (hl : ks.length = xs.length) : WalkT K (ks.map fun k => unK (key1k k)) F H (Itk a od ((ks.map key1).zip xs)) where
  stop := fun F2 H2 e1 e2 => ⟨e2 _ _ (e1 _ _ s), by rw [List.length_zip, List.length_map, List.length_map, ← hl, Nat.min_self]; exact Nat.le_refl _⟩
  go := fun i t F2 H2 h e1 e2 => by
    rw [List.getElem?_map] at h
    obtain ⟨k, hk, rfl⟩ := Option.map_eq_some_iff.mp h
    have hi := (List.getElem?_eq_some_iff.mp hk).1
    refine ⟨⟨e2 _ _ (e1 _ _ s), by rw [List.length_zip, List.length_map, ← hl, Nat.min_self]; exact hi⟩, fun x H3 ⟨e, k2, v2, y, ex⟩ => ?_⟩
    subst e; subst ex
    have : ((ks.map key1).zip xs)[i]? = some (key1 k, xs[i]'(hl ▸ hi)) := by
      rw [List.getElem?_zip_eq_some]
      exact ⟨by rw [List.getElem?_map, hk]; rfl, List.getElem?_eq_getElem _⟩
    rw [this] at y; cases y
    have e0 : key1k k = key1 k := by cases k <;> rfl
    rw [e0]
    exact ⟨F2, e2, rep_unK _, Stp.refl⟩
theorem zip_at {ks : List (List Key)} {i : Nat} {k2 : Key} {v2 : V} (y : ((ks.map key1).zip xs)[i]? = some (k2, v2)) : ∃ k, ks[i]? = some k ∧ k2 = key1 k ∧ xs[i]? = some v2 := by
  rw [List.getElem?_zip_eq_some] at y
  obtain ⟨y1, y2⟩ := y
  rw [List.getElem?_map] at y1
  obtain ⟨k, hk, e⟩ := Option.map_eq_some_iff.mp y1
  exact ⟨k, hk, e.symm, y2⟩
theorem walks_vals {a : Addr} {od : Obj} {ks : List (List Key)} (s : F a = some (.frz od (dho false ks xs))) (hl : ks.length = xs.length) (R : Reps K F H ts xs nop) : WalkT K ts F H (Itd a od ((ks.map key1).zip xs)) where
  stop := fun F2 H2 e1 e2 => ⟨e2 _ _ (e1 _ _ s), by rw [List.length_zip, List.length_map, R.length]; exact Nat.min_le_right _ _⟩
  go := fun i t F2 H2 h e1 e2 => by
    obtain ⟨v, hv, r⟩ := R.atN h
    have hi := (List.getElem?_eq_some_iff.mp hv).1
    refine ⟨⟨e2 _ _ (e1 _ _ s), by rw [List.length_zip, List.length_map, ← hl, Nat.min_self, hl]; exact hi⟩, fun x H3 ⟨e, k2, y⟩ => ?_⟩
    subst e
    obtain ⟨k, _, _, y2⟩ := zip_at y
    rw [hv] at y2; cases y2
    exact ⟨F2, e2, r.upF e1, Stp.refl⟩
theorem walks_itms {a : Addr} {od : Obj} {ks : List (List Key)} (s : F a = some (.frz od (dho false ks xs))) (hl : ks.length = xs.length) (R : Reps K F H ts xs nop) : WalkT K (List.zipWith (fun k t => .tup [unK (key1k k), t]) ks ts) F H (Iti a od ((ks.map key1).zip xs)) where
  stop := fun F2 H2 e1 e2 => ⟨e2 _ _ (e1 _ _ s), by rw [List.length_zip, List.length_map, List.length_zipWith, R.length]; exact Nat.le_refl _⟩
  go := fun i t F2 H2 h e1 e2 => by
    rw [List.getElem?_zipWith] at h
    cases h0 : ks[i]? with
    | none => rw [h0] at h; cases h
    | some k0 =>
      cases h1 : ts[i]? with
      | none => rw [h0, h1] at h; cases h
      | some t0 =>
        rw [h0, h1] at h; cases h
        obtain ⟨v, hv, r⟩ := R.atN h1
        have hi := (List.getElem?_eq_some_iff.mp hv).1
        refine ⟨⟨e2 _ _ (e1 _ _ s), by rw [List.length_zip, List.length_map, ← hl, Nat.min_self, hl]; exact hi⟩, fun x H3 ⟨T0, k2, v2, y, e, n, e3⟩ => ?_⟩
        subst e e3
        obtain ⟨k, g1, g2, y2⟩ := zip_at y
        rw [hv] at y2; cases y2
        rw [h0] at g1; cases g1
        have e0 : key1k k0 = key1 k0 := by cases k0 <;> rfl
        rw [e0, g2]
        exact fresh_tup e2 n (pair_nop (rep_unK _) (r.upF e1))
/-- an owned dict is locked for good -/
theorem lock_dct {ks : List (List Key)} {us : List T} {v : V} (ex : Ex F H) (R : Rep K F H (.dct .own false ks us) v p) : ∃ a ys, v = .ref a ∧ H a = some (.dK ((ks.map key1).zip ys)) ∧ DW false ks ys.length ∧ ∀ od, ∃ F2, Ex F F2 ∧ Ex F2 (upd H a (.frz od (.dK ((ks.map key1).zip ys)))) ∧
    F2 a = some (.frz od (dho false ks ys)) ∧ Reps K F2 (upd H a (.frz od (.dK ((ks.map key1).zip ys)))) (frzs us) ys nop ∧ (∀ b, ¬ p b → F2 b = F b ∧ (upd H a (.frz od (.dK ((ks.map key1).zip ys)))) b = H b) ∧ Stp p F H nop F2 (upd H a (.frz od (.dK ((ks.map key1).zip ys)))) := by
  cases R with
  | @dctO a ys _ _ _ _ q n h w r d e =>
    refine ⟨a, ys, rfl, h, w, fun od => ?_⟩
    have n1 : frF F H q a = none := (frF_out d).trans n
    have e1 : Ex F (frF F H q) := frF_ex fun b x => (r.own b x).1
    have ne : ∀ b, q b → b ≠ a := fun b x z => d (z ▸ x)
    have off : ∀ b, ¬ p b → upd (frF F H q) a (.frz od (dho false ks ys)) b = F b ∧ upd H a (.frz od (dho false ks ys)) b = H b := fun b x => by
      have hb : b ≠ a := fun z => x ((e b).mpr (.inl z))
      rw [upd_ne hb, upd_ne hb]
      exact ⟨frF_out fun z => x ((e b).mpr (.inr z)), rfl⟩
    have e2 : Ex F (upd (frF F H q) a (.frz od (dho false ks ys))) := e1.trans (Evl.Ex.new n1)
    refine ⟨upd (frF F H q) a (.frz od (dho false ks ys)), e2, fun b o x => ?_, upd_same, r.frz e2 fun b x => ?_, off, e2, fun b o x y => (off b y).2.trans x, fun b o x y => (off b y).1, fun b x => x.elim⟩
    · by_cases hb : b = a
      · subst hb; rw [upd_same] at x; rw [← x]; exact upd_same
      · rw [upd_ne hb] at x; rw [upd_ne hb]; exact frF_sub ex b o x
    · rw [upd_ne (ne b x)]; exact frF_in x
/-- the walked value is frozen -/
theorem freeze {sl' : SL} {t : T} {v : V} {pv : FP} (S : SlR K F' H' sl' σ p') (R : Rep K F' H' t v pv) (ex : Ex F' H') (dj : Dj pv p') (st : Stp p F H (fun a => pv a ∨ p' a) F' H') :
    ∃ F2, Ex F' F2 ∧ Ex F2 H' ∧ SlR K F2 H' sl' σ p' ∧ Rep K F2 H' (frz t) v nop ∧ Stp p F H p' F2 H' := by
  have exF : Ex F' (frF F' H' pv) := frF_ex fun a x => (R.own a x).1
  refine ⟨frF F' H' pv, exF, frF_sub ex, S.frame exF fun a x => ⟨(frF_out fun z => dj a z x).trans (S.own a x).1, rfl⟩, R.frz exF fun a x => frF_in x, ?_⟩
  have s2 : Stp (fun a => pv a ∨ p' a) F' H' p' (frF F' H' pv) H' := ⟨exF, fun _ _ h _ => h, fun a o h n => frF_out fun z => n (.inl z), fun a x => .inl (.inr x)⟩
  exact st.trans s2
end
section
variable {X : Cx} {P : Pg} {a b c x y : Expr} {xs : List Expr} {a' b' c' e : E} {es : Es} {pos : Pos} {tg : Expr}
theorem pe_lok {e : Expr} {t : TE} (h : PE X e t) : PE X e (fun σ H Q => t σ H fun v H1 => (∃ d u, v = .ref d ∧ H1 d = some u ∧ Mut (some u) ∧ ∀ od, Q v (upd H1 d (.frz od u))) ∨ Q v H1) :=
  ⟨fun pins s σ H Q I w => thn (h.run pins s σ H _ I w) fun u s1 ⟨x, H1, I1, r, q⟩ => match q with
    | .inr q => ⟨x, H1, I1, r, q⟩
    | .inl ⟨d, u0, e, hd, mu, q⟩ => let ⟨od, I2⟩ := I1.lock hd mu; ⟨x, _, I2, r, q od⟩⟩
/-- an owned dict, by its name, locked -/
theorem lock_var {i : Nat} {sl : SL} {σ : L2.St} {F H : Hp} {p : FP} {ks : List (List Key)} {us : List T} {Q : VK} (ex : Ex F H) (S : SlR X.K F H sl σ p) (e1 : look sl i = some (.dct .own false ks us))
    (k : ∀ a od ys F2 H2 p2, Ex F2 H2 → F2 a = some (.frz od (dho false ks ys)) → DW false ks ys.length → Reps X.K F2 H2 (frzs us) ys nop → SlR X.K F2 H2 (sl.set i (.dct .lok false ks (frzs us))) σ p2 → Stp p F H p2 F2 H2 → Q (.ref a) H2) :
    ∃ v, σ[i]? = some (some v) ∧ ∃ d u, v = .ref d ∧ H d = some u ∧ Mut (some u) ∧ ∀ od, Q v (upd H d (.frz od u)) := by
  obtain ⟨v, q, r, g, R, dj, e3, S2⟩ := S.take e1
  obtain ⟨a, ys, rfl, h, w, lk⟩ := lock_dct ex R
  refine ⟨_, g, a, _, rfl, h, trivial, fun od => ?_⟩
  obtain ⟨F2, l1, l2, l3, l4, l5, l6⟩ := lk od
  have S3 := S2.frame (F' := F2) (H' := upd H a (.frz od (.dK ((ks.map key1).zip ys)))) l1 fun b x => ⟨(l5 b fun z => dj b z x).1.trans (S2.own b x).1, (l5 b fun z => dj b z x).2⟩
  have S4 := S3.put (t := .dct .lok false ks (frzs us)) (q := nop) (set_hole_put e1) g (.dctL l3 w l4) fun _ x => x.elim
  rw [List.set_set] at S4
  refine k a od ys F2 _ _ l2 l3 w l4 S4 ⟨l1, fun b o x y => l6.keep b o x fun z => y ((e3 b).mpr (.inl z)), fun b o x y => l6.grow b o x fun z => y ((e3 b).mpr (.inl z)), fun b x => .inl ((e3 b).mpr (.inr ?_))⟩
  rcases x with x | x
  · exact x.elim
  · exact x
/-- a walked dict: keys, values, items -/
theorem dctT_ok {t : T} {v : V} {F H F0 H0 : Hp} {σ : L2.St} {sl : SL} {p0 p pv : FP} {ks : List (List Key)} {us : List T} {Q : VK} (ex : Ex F H) (S : SlR X.K F H sl σ p) (R : Rep X.K F H t v pv) (dj : Dj pv p) (st : Stp p0 F0 H0 (fun a => pv a ∨ p a) F H) (h : dctT t = some (ks, us))
    (k : ∀ a od ys F2 H2, Ex F2 H2 → F2 a = some (.frz od (dho false ks ys)) → DW false ks ys.length → Reps X.K F2 H2 (frzs us) ys nop → SlR X.K F2 H2 sl σ p → Stp p0 F0 H0 p F2 H2 → Q (.ref a) H2) :
    (∃ d u, v = .ref d ∧ H d = some u ∧ Mut (some u) ∧ ∀ od, Q v (upd H d (.frz od u))) ∨ Q v H := by
  cases t <;> first | (cases h; done) | skip
  rename_i o kd ks0 ts0
  cases o <;> cases kd <;> first | (cases h; done) | skip
  · cases h
    obtain ⟨a, ys, rfl, h, w, lk⟩ := lock_dct ex R
    refine .inl ⟨a, _, rfl, h, trivial, fun od => ?_⟩
    obtain ⟨F2, l1, l2, l3, l4, l5, l6⟩ := lk od
    refine k a od ys F2 _ l2 l3 w l4 (S.frame l1 fun b x => ⟨(l5 b fun z => dj b z x).1.trans (S.own b x).1, (l5 b fun z => dj b z x).2⟩) ?_
    refine st.trans ⟨l1, fun b o x y => l6.keep b o x fun z => y (.inl z), fun b o x y => l6.grow b o x fun z => y (.inl z), fun b x => .inl (.inr x)⟩
  · cases h
    refine .inr ?_
    cases R with
    | @dctL a ys od _ _ _ _ hF w r =>
      have fz : ∀ {l : List T} {ws : List V} {q : FP}, Reps X.K F H l ws q → (∀ a, q a → F a = none) → ∃ F2, Ex F F2 ∧ Ex F2 H ∧ Reps X.K F2 H (frzs l) ws nop ∧ (∀ b, ¬ q b → F2 b = F b) := fun {l ws q} r hq =>
        ⟨frF F H q, frF_ex hq, frF_sub ex, r.frz (frF_ex hq) fun a x => frF_in x, fun b x => frF_out x⟩
      obtain ⟨F2, l1, l2, l4, l5⟩ := fz r fun a x => (r.own a x).1
      refine k a od ys F2 H l2 (l1 _ _ hF) w l4 (S.frame l1 fun b x => ⟨(l5 b fun z => dj b z x).trans (S.own b x).1, rfl⟩) ?_
      exact st.trans ⟨l1, fun b o x y => x, fun b o x y => l5 b fun z => y (.inl z), fun b x => .inl (.inr x)⟩
theorem items2_d {t : T} {us : List T} (h : items2 t = some us) : (∃ ts, items t = some ts ∧ us = frzs ts) ∨ ∃ ks ts, dctT t = some (ks, ts) ∧ us = ks.map fun k => unK (key1k k) := by
  cases t <;> first | (cases h; done) | skip
  · cases h; exact .inl ⟨_, rfl, rfl⟩
  · cases h; exact .inl ⟨_, rfl, rfl⟩
  · rename_i o kd ks ts
    cases o <;> cases kd <;> first | (cases h; done) | (cases h; exact .inr ⟨_, _, rfl, rfl⟩)
/-- what is walked stands, apart from the slots -/
theorem walk_fin {t : T} {v : V} {us : List T} {F H F0 H0 : Hp} {σ : L2.St} {sl : SL} {p0 p pv : FP} {R : L2.It → Hp → Prop} (S : SlR X.K F H sl σ p) (R' : Rep X.K F H t v pv) (ex : Ex F H) (dj : Dj pv p) (st : Stp p0 F0 H0 (fun a => pv a ∨ p a) F H) (e2 : items t = some us)
    (k : ∀ J F' H' p', WalkT X.K (frzs us) F' H' J → Ex F' H' → SlR X.K F' H' sl σ p' → Stp p0 F0 H0 p' F' H' → R J H') :
    ∃ a, v = .ref a ∧ (((∃ o, t = .lst o us) ∧ (∃ xs, SqL X.K H a xs) ∧ R (Itl X.K a) H) ∨ (t = .tup us ∧ (∃ xs, SqT X.K H a xs) ∧ R (Itt X.K a) H)) := by
  obtain ⟨F2, f1, f2, S2, R2, st2⟩ := freeze S R' ex dj st
  obtain ⟨a, xs, rfl, h, r⟩ := frz_row R2 e2
  refine ⟨a, rfl, ?_⟩
  rcases h with ⟨h1, h2⟩ | ⟨h1, h2⟩
  · exact .inl ⟨h1, ⟨xs, .inl (Evl.ex_rd f2 h2)⟩, k _ F2 H p (walks_list h2 r) f2 S2 st2⟩
  · exact .inr ⟨h1, ⟨xs, Evl.ex_t f2 h2⟩, k _ F2 H p (walks_tup h2 r) f2 S2 st2⟩
theorem si_seq (ha : Sd X P a a') : PI X tg a (tevI X.K P (.seq a')) := pi_any fun σ H R ⟨F, sl, p, ts, sl', ex, S, e, k⟩ => by
  simp only [evI, Option.bind_eq_some_iff] at e
  obtain ⟨⟨t1, sl1⟩, e1, us, e2, e3⟩ := e
  cases e3
  rcases items2_d e2 with ⟨ws, e4, rfl⟩ | ⟨ks, ws, e4, rfl⟩
  · cases t1 <;> first | (cases e4; done) | skip
    · refine ⟨_, pi_tup (ha.v .e (by decide)), F, sl, p, _, _, ex, S, e1, fun v F' H' pv p' ex' S' R' dj st => ?_⟩
      obtain ⟨a, rfl, ⟨⟨o, h⟩, _⟩ | ⟨_, h2, h3⟩⟩ := walk_fin S' R' ex' (dj rfl) st e4 k
      · cases h
      · exact ⟨a, rfl, h2, h3⟩
    · refine ⟨_, pi_list (ha.v .e (by decide)), F, sl, p, _, _, ex, S, e1, fun v F' H' pv p' ex' S' R' dj st => ?_⟩
      obtain ⟨a, rfl, ⟨_, h2, h3⟩ | ⟨h, _⟩⟩ := walk_fin S' R' ex' (dj rfl) st e4 k
      · exact ⟨a, rfl, h2, h3⟩
      · cases h
  · refine ⟨_, pi_keys (pe_lok (ha.v .e (by decide))), F, sl, p, _, _, ex, S, e1, fun v F' H' pv p' ex' S' R' dj st => ?_⟩
    exact dctT_ok (Q := fun v H2 => ∃ d o, v = .ref d ∧ ((∃ kvs, H2 d = some (.frz o (.dK kvs)) ∧ R (Itk d o kvs) H2) ∨ ∃ kvs, H2 d = some (.frz o (.dT kvs)) ∧ R (Itkt d o kvs) H2)) ex' S' R' (dj rfl) st e4 fun a od ys F2 H2 ex2 l3 w l4 S2 st2 => ⟨a, od, rfl, .inl ⟨_, ex2 _ _ l3, k _ F2 H2 p' (walks_keys l3 w.len) ex2 S2 st2⟩⟩
theorem si_vals {apos pos : Pos} (ha : Sd X P a a') (hb : attributeBase a "values" X.env (eval a X.env) = eval a X.env) (hl : (apos.endLine == pos.line) = true) : PI X tg (.Call (.Attribute a "values" apos) [] [] pos) (tevI X.K P (.vals a')) :=
  pi_imp (pi_values (pe_lok (ha.v .e (by decide))) hb hl) fun σ H R ⟨F, sl, p, ts, sl', ex, S, e, k⟩ => by
    simp only [evI, Option.bind_eq_some_iff] at e
    obtain ⟨⟨t1, sl1⟩, e1, ⟨ks, us⟩, e2, e3⟩ := e
    cases e3
    refine ⟨F, sl, p, _, _, ex, S, e1, fun v F' H' pv p' ex' S' R' dj st => ?_⟩
    exact dctT_ok (Q := fun v H2 => ∃ d o kvs, v = .ref d ∧ H2 d = some (.frz o (.dK kvs)) ∧ R (Itd d o kvs) H2) ex' S' R' (dj rfl) st e2 fun a od ys F2 H2 ex2 l3 w l4 S2 st2 => ⟨a, od, _, rfl, ex2 _ _ l3, k _ F2 H2 p' (walks_vals l3 w.len l4) ex2 S2 st2⟩
theorem si_itms {apos pos tpos : Pos} {elts : List Expr} {kk : Nat} (ha : Sd X P a a') (hb : attributeBase a "items" X.env (eval a X.env) = eval a X.env) (hl : (apos.endLine == pos.line) = true) : PI X (.Tuple elts kk tpos) (.Call (.Attribute a "items" apos) [] [] pos) (tevI X.K P (.itms a')) :=
  pi_imp (pi_items (pe_lok (ha.v .e (by decide))) hb hl) fun σ H R ⟨F, sl, p, ts, sl', ex, S, e, k⟩ => by
    simp only [evI, Option.bind_eq_some_iff] at e
    obtain ⟨⟨t1, sl1⟩, e1, ⟨ks, us⟩, e2, e3⟩ := e
    cases e3
    refine ⟨F, sl, p, _, _, ex, S, e1, fun v F' H' pv p' ex' S' R' dj st => ?_⟩
    exact dctT_ok (Q := fun v H2 => ∃ d o kvs, v = .ref d ∧ H2 d = some (.frz o (.dK kvs)) ∧ R (Iti d o kvs) H2) ex' S' R' (dj rfl) st e2 fun a od ys F2 H2 ex2 l3 w l4 S2 st2 => ⟨a, od, _, rfl, ex2 _ _ l3, k _ F2 H2 p' (walks_itms l3 w.len l4) ex2 S2 st2⟩
/-- a locked dict in a slot -/
theorem lok_var {i : Nat} {sl : SL} {σ : L2.St} {F H : Hp} {p : FP} {t : T} {ks : List (List Key)} {us : List T} {Q : VK} (ex : Ex F H) (S : SlR X.K F H sl σ p) (e1 : look sl i = some t) (h : dctT t = some (ks, us))
    (k : ∀ a od ys F2 H2 p2, Ex F2 H2 → F2 a = some (.frz od (dho false ks ys)) → DW false ks ys.length → Reps X.K F2 H2 (frzs us) ys nop → SlR X.K F2 H2 (sl.set i (.dct .lok false ks (frzs us))) σ p2 → Stp p F H p2 F2 H2 → Q (.ref a) H2) :
    ∃ v, σ[i]? = some (some v) ∧ ((∃ d u, v = .ref d ∧ H d = some u ∧ Mut (some u) ∧ ∀ od, Q v (upd H d (.frz od u))) ∨ Q v H) := by
  cases t <;> first | (cases h; done) | skip
  rename_i o kd ks0 ts0
  cases o <;> cases kd <;> first | (cases h; done) | skip
  · cases h
    obtain ⟨v, g, h⟩ := lock_var ex S e1 k
    exact ⟨v, g, .inl h⟩
  · cases h
    obtain ⟨v, q, r, g, R, dj, e3, S2⟩ := S.take e1
    refine ⟨v, g, .inr ?_⟩
    cases R with
    | @dctL a ys od _ _ _ _ hF w r0 =>
      have x1 : Ex F (frF F H q) := frF_ex fun b x => (r0.own b x).1
      have l4 := r0.frz (H' := H) x1 fun b x => frF_in x
      have S3 := S2.frame (H' := H) x1 fun b x => ⟨(frF_out fun z => dj b z x).trans (S2.own b x).1, rfl⟩
      have S4 := S3.put (t := .dct .lok false ks (frzs us)) (q := nop) (set_hole_put e1) g (.dctL (x1 _ _ hF) w l4) fun _ x => x.elim
      rw [List.set_set] at S4
      refine k a od ys _ H _ (frF_sub ex) (x1 _ _ hF) w l4 S4 ⟨x1, fun b o x _ => x, fun b o x y => frF_out fun z => y ((e3 b).mpr (.inl z)), fun b x => .inl ((e3 b).mpr (.inr ?_))⟩
      rcases x with x | x
      · exact x.elim
      · exact x
theorem si_valsv {apos pos : Pos} {i : Nat} (ha : PE X a (tVar i)) (hb : attributeBase a "values" X.env (eval a X.env) = eval a X.env) (hl : (apos.endLine == pos.line) = true) : PI X tg (.Call (.Attribute a "values" apos) [] [] pos) (tevI X.K P (.valsv i)) :=
  pi_imp (pi_values (pe_lok ha) hb hl) fun σ H R ⟨F, sl, p, ts, sl', ex, S, e, k⟩ => by
    simp only [evI, Option.bind_eq_some_iff] at e
    obtain ⟨t1, e1, ⟨ks, us⟩, e2, e3⟩ := e
    cases e3
    exact lok_var (Q := fun v H2 => ∃ d o kvs, v = .ref d ∧ H2 d = some (.frz o (.dK kvs)) ∧ R (Itd d o kvs) H2) ex S e1 e2 fun a od ys F2 H2 p2 ex2 l3 w l4 S2 st2 => ⟨a, od, _, rfl, ex2 _ _ l3, k _ F2 H2 p2 (walks_vals l3 w.len l4) ex2 S2 st2⟩
theorem si_itmsv {apos pos tpos : Pos} {i : Nat} {elts : List Expr} {kk : Nat} (ha : PE X a (tVar i)) (hb : attributeBase a "items" X.env (eval a X.env) = eval a X.env) (hl : (apos.endLine == pos.line) = true) : PI X (.Tuple elts kk tpos) (.Call (.Attribute a "items" apos) [] [] pos) (tevI X.K P (.itmsv i)) :=
  pi_imp (pi_items (pe_lok ha) hb hl) fun σ H R ⟨F, sl, p, ts, sl', ex, S, e, k⟩ => by
    simp only [evI, Option.bind_eq_some_iff] at e
    obtain ⟨t1, e1, ⟨ks, us⟩, e2, e3⟩ := e
    cases e3
    exact lok_var (Q := fun v H2 => ∃ d o kvs, v = .ref d ∧ H2 d = some (.frz o (.dK kvs)) ∧ R (Iti d o kvs) H2) ex S e1 e2 fun a od ys F2 H2 p2 ex2 l3 w l4 S2 st2 => ⟨a, od, _, rfl, ex2 _ _ l3, k _ F2 H2 p2 (walks_itms l3 w.len l4) ex2 S2 st2⟩
theorem si_var {i : Nat} (ha : PE X a (tVar i)) : PI X tg a (tevI X.K P (.var i)) := pi_any fun σ H R ⟨F, sl, p, ts, sl', ex, S, e, k⟩ => by
  simp only [evI, Option.bind_eq_some_iff] at e
  obtain ⟨t, e1, e2⟩ := e
  have dk : ∀ {ks us}, dctT t = some (ks, us) → ts = (ks.map fun k => unK (key1k k)) → sl' = sl.set i (.dct .lok false ks (frzs us)) → ∃ t', PI X tg a t' ∧ t' σ H R := fun {ks us} h1 h2 h3 => by
    subst h2 h3
    exact ⟨_, pi_keys (pe_lok ha), lok_var (Q := fun v H2 => ∃ d o, v = .ref d ∧ ((∃ kvs, H2 d = some (.frz o (.dK kvs)) ∧ R (Itk d o kvs) H2) ∨ ∃ kvs, H2 d = some (.frz o (.dT kvs)) ∧ R (Itkt d o kvs) H2)) ex S e1 h1 fun a od ys F2 H2 p2 ex2 l3 w l4 S2 st2 => ⟨a, od, rfl, .inl ⟨_, ex2 _ _ l3, k _ F2 H2 p2 (walks_keys l3 w.len) ex2 S2 st2⟩⟩⟩
  have gen : (∀ ks us, t ≠ .dct .own false ks us) → (items2 t).bind (fun ts => some (ts, sl.set i (frz t))) = some (ts, sl') → ∃ t', PI X tg a t' ∧ t' σ H R := fun hn e9 => by
    clear e2
    obtain ⟨us, e3, e4⟩ := Option.bind_eq_some_iff.mp e9
    cases e4
    rcases items2_d e3 with ⟨ws, e5, rfl⟩ | ⟨ks, ws, e5, rfl⟩
    · obtain ⟨v, q, r, g, R1, dj, e6, S2⟩ := S.take e1
      have exF : Ex F (frF F H q) := frF_ex fun a x => (R1.own a x).1
      have S3 : SlR X.K (frF F H q) H (sl.set i .hole) σ r := S2.frame exF fun a x => ⟨(frF_out fun z => dj a z x).trans (S2.own a x).1, rfl⟩
      have R2 : Rep X.K (frF F H q) H (frz t) v nop := R1.frz exF fun a x => frF_in x
      have S4 := S3.put (t := frz t) (set_hole_put e1) g R2 (fun _ x => x.elim)
      rw [List.set_set] at S4
      have st : Stp p F H (fun b => nop b ∨ r b) (frF F H q) H := ⟨exF, fun _ _ h _ => h, fun a o h n => frF_out fun z => n ((e6 a).mpr (.inl z)), fun a x => .inl ((e6 a).mpr (.inr (x.elim (fun z => z.elim) id)))⟩
      obtain ⟨a, xs, rfl, h, r1⟩ := frz_row R2 e5
      rcases h with ⟨⟨o, h1⟩, h2⟩ | ⟨h1, h2⟩
      · exact ⟨_, pi_list ha, _, g, a, rfl, ⟨xs, .inl (Evl.ex_rd (frF_sub ex) h2)⟩, k _ _ H _ (walks_list h2 r1) (frF_sub ex) S4 st⟩
      · exact ⟨_, pi_tup ha, _, g, a, rfl, ⟨xs, Evl.ex_t (frF_sub ex) h2⟩, k _ _ H _ (walks_tup h2 r1) (frF_sub ex) S4 st⟩
    · cases t <;> first | (cases e5; done) | skip
      rename_i o kd ks0 ts0
      cases o <;> cases kd <;> first | (cases e5; done) | skip
      · exact absurd rfl (hn _ _)
      · cases e5
        exact dk (ks := ks) (us := ws) rfl rfl (by simp only [frz, Dw.fz])
  cases t <;> first | exact gen (fun _ _ => nofun) e2 | skip
  rename_i o kd ks us
  cases o <;> cases kd <;> first | exact gen (fun _ _ => nofun) e2 | skip
  cases e2
  exact dk (ks := ks) (us := us) rfl rfl rfl
theorem rngOk_ {lo hi : Int} (h : rngOk lo hi = true) : -(2 ^ 62) ≤ lo ∧ lo < 2 ^ 62 ∧ -(2 ^ 62) ≤ hi ∧ hi < 2 ^ 62 := by
  simp only [rngOk, Bool.and_eq_true, decide_eq_true_eq] at h
  omega
theorem si_rng1 {p : Pos} (hg : Gl X "range") (hm : X.mg "range" = none) (ha : Sd X P a a') (hs : starEach [a] X.env = (false, eval a X.env) :: starEach [] X.env) : PI X tg (.Call (.Name "range" p) [a] [] pos) (tevI X.K P (.rng1 a')) :=
  pi_imp (pi_range1 hg hm (pa_cons (ha.v .e (by decide)) pa_nil hs) hs) fun σ H R ⟨F, sl, p, ts, sl', ex, S, e, k⟩ => by
    simp only [evI, Option.bind_eq_some_iff] at e
    obtain ⟨⟨t1, sl1⟩, e1, e2⟩ := e
    cases t1 <;> first | (cases e2; done) | skip
    rename_i n
    have e2' : (if rngOk 0 n then some (rngU 0 n, sl1) else none) = some (ts, sl') := e2
    by_cases hz : rngOk 0 n = true
    · rw [if_pos hz] at e2'; cases e2'
      obtain ⟨_, _, b1, b2⟩ := rngOk_ hz
      refine ⟨F, sl, p, _, _, ex, S, e1, fun v F' H' pv p' ex' S' R' dj st => ?_⟩
      obtain ⟨rfl, _⟩ := R'.int'
      refine ⟨n, rfl, b1, b2, k _ F' H' p' ?_ ex' S' (st.sub fun a x => .inr x)⟩
      have := walks_rng (K := X.K) (F := F') (H := H') (lo := 0) (hi := n)
      rw [Int.sub_zero] at this
      exact this
    · rw [if_neg hz] at e2'; cases e2'
theorem si_rng2 {p : Pos} (hg : Gl X "range") (hm : X.mg "range" = none) (ha : Sd X P a a') (hb : Sd X P b b') (hs : starEach [a, b] X.env = (false, eval a X.env) :: starEach [b] X.env) (hs2 : starEach [b] X.env = (false, eval b X.env) :: starEach [] X.env) : PI X tg (.Call (.Name "range" p) [a, b] [] pos) (tevI X.K P (.rng2 a' b')) :=
  pi_imp (pi_range2 hg hm (pa_cons (ha.v .e (by decide)) (pa_cons (hb.v .e (by decide)) pa_nil hs2) hs) (by rw [hs, hs2]; rfl) (by rw [hs2]; rfl)) fun σ H R ⟨F, sl, p, ts, sl', ex, S, e, k⟩ => by
    simp only [evI, Option.bind_eq_some_iff] at e
    obtain ⟨⟨t1, sl1⟩, e1, ⟨t2, sl2⟩, e2, e3⟩ := e
    cases t1 <;> first | (cases e3; done) | skip
    cases t2 <;> first | (cases e3; done) | skip
    rename_i n m
    have e3' : (if rngOk n m then some (rngU n m, sl2) else none) = some (ts, sl') := e3
    by_cases hz : rngOk n m = true
    · rw [if_pos hz] at e3'; cases e3'
      refine ⟨F, sl, p, _, _, ex, S, e1, fun v F' H' pv p' ex' S' R' dj st => ?_⟩
      obtain ⟨rfl, _⟩ := R'.int'
      refine ⟨F', _, p', _, _, ex', S', e2, fun v F2 H2 pv2 p2 ex2 S2 R2 dj2 st2 => ?_⟩
      obtain ⟨rfl, _⟩ := R2.int'
      exact ⟨n, m, rfl, rngOk_ hz, k _ F2 H2 p2 walks_rng ex2 S2 ((st.sub fun a x => .inr x).trans (st2.sub fun a x => .inr x))⟩
    · rw [if_neg hz] at e3'; cases e3'
theorem si_rng3 {p : Pos} (hg : Gl X "range") (hm : X.mg "range" = none) (ha : Sd X P a a') (hb : Sd X P b b') (hc : Sd X P c c') (hs : starEach [a, b, c] X.env = (false, eval a X.env) :: starEach [b, c] X.env) (hs2 : starEach [b, c] X.env = (false, eval b X.env) :: starEach [c] X.env)
    (hs3 : starEach [c] X.env = (false, eval c X.env) :: starEach [] X.env) (hpl : (backTo pos (starEach [b, c] X.env)).any (·.1) = false) : PI X tg (.Call (.Name "range" p) [a, b, c] [] pos) (tevI X.K P (.rng3 a' b' c')) :=
  pi_imp (pi_range3 hg hm (pa_cons (ha.v .e (by decide)) (pa_cons (hb.v .e (by decide)) (pa_cons (hc.v .e (by decide)) pa_nil hs3) hs2) hs) hs hpl) fun σ H R ⟨F, sl, p, ts, sl', ex, S, e, k⟩ => by
    simp only [evI, Option.bind_eq_some_iff] at e
    obtain ⟨⟨t1, sl1⟩, e1, ⟨t2, sl2⟩, e2, ⟨t3, sl3⟩, e3, e4⟩ := e
    cases t1 <;> first | (cases e4; done) | skip
    cases t2 <;> first | (cases e4; done) | skip
    cases t3 <;> first | (cases e4; done) | skip
    rename_i n m j
    have e4' : (if rngOk n m && decide (j = -1) then some (rngD n m, sl3) else none) = some (ts, sl') := e4
    by_cases hz : (rngOk n m && decide (j = -1)) = true
    · rw [if_pos hz] at e4'; cases e4'
      simp only [Bool.and_eq_true, decide_eq_true_eq] at hz
      obtain ⟨hz, rfl⟩ := hz
      obtain ⟨b1, b2, b3, b4⟩ := rngOk_ hz
      refine ⟨F, sl, p, _, _, ex, S, e1, fun v F' H' pv p' ex' S' R' dj st => ?_⟩
      obtain ⟨rfl, _⟩ := R'.int'
      refine ⟨F', _, p', _, _, ex', S', e2, fun v F2 H2 pv2 p2 ex2 S2 R2 dj2 st2 => ?_⟩
      obtain ⟨rfl, _⟩ := R2.int'
      refine ⟨F2, _, p2, _, _, ex2, S2, e3, fun v F3 H3 pv3 p3 ex3 S3 R3 dj3 st3 => ?_⟩
      obtain ⟨rfl, _⟩ := R3.int'
      exact ⟨n, m, -1, _, rfl, RgC.neg b1 b2 b3 b4, k _ F3 H3 p3 walks_rngD ex3 S3 (((st.sub fun a x => .inr x).trans (st2.sub fun a x => .inr x)).trans (st3.sub fun a x => .inr x))⟩
    · rw [if_neg hz] at e4'; cases e4'
theorem si_enum {p tpos : Pos} {elts : List Expr} {kk : Nat} (hg : Gl X "enumerate") (hm : X.mg "enumerate" = none) (ha : Sd X P a a') (hs : starEach [a] X.env = (false, eval a X.env) :: starEach [] X.env) : PI X (.Tuple elts kk tpos) (.Call (.Name "enumerate" p) [a] [] pos) (tevI X.K P (.enum a')) :=
  pi_imp (pi_enum hg hm (pa_cons (ha.v .e (by decide)) pa_nil hs) hs) fun σ H R ⟨F, sl, p, ts, sl', ex, S, e, k⟩ => by
    simp only [evI, Option.bind_eq_some_iff] at e
    obtain ⟨⟨t1, sl1⟩, e1, e2⟩ := e
    cases t1 <;> first | (cases e2; done) | skip
    rename_i o us
    cases e2
    refine ⟨F, sl, p, _, _, ex, S, e1, fun v F' H' pv p' ex' S' R' dj st => ?_⟩
    obtain ⟨F2, f1, f2, S2, R2, st2⟩ := freeze S' R' ex' (dj rfl) st
    obtain ⟨a, xs, rfl, h, r⟩ := frz_row (us := us) R2 rfl
    rcases h with ⟨h1, h2⟩ | ⟨h1, h2⟩
    · exact ⟨a, xs, rfl, .inl (Evl.ex_rd f2 h2), k _ F2 H' p' (walks_enum h2 r) f2 S2 st2⟩
    · cases h1
theorem si_zip {p tpos : Pos} {elts : List Expr} {kk : Nat} (hg : Gl X "zip") (hm : X.mg "zip" = none) (ha : Sd X P a a') (hb : Sd X P b b') (hs : starEach [a, b] X.env = (false, eval a X.env) :: starEach [b] X.env) (hs2 : starEach [b] X.env = (false, eval b X.env) :: starEach [] X.env)
    (hpl : (backTo pos (starEach [b] X.env)).any (·.1) = false) : PI X (.Tuple elts kk tpos) (.Call (.Name "zip" p) [a, b] [] pos) (tevI X.K P (.zip a' b')) :=
  pi_imp (RZ.pi_zipA hg hm (pa_cons (ha.v .e (by decide)) (pa_cons (hb.v .e (by decide)) pa_nil hs2) hs) hs hpl) fun σ H R ⟨F, sl, p, ts, sl', ex, S, e, k⟩ => by
    simp only [evI, Option.bind_eq_some_iff] at e
    obtain ⟨⟨t1, sl1⟩, e1, ⟨t2, sl2⟩, e2, e3⟩ := e
    refine ⟨F, sl, p, _, _, ex, S, e1, fun v F' H' pv p' ex' S' R' dj st => ?_⟩
    obtain ⟨F2, f1, f2, S2, R2, st2⟩ := freeze S' R' ex' (dj rfl) st
    refine ⟨F2, _, p', _, _, f2, S2, e2, fun v3 F3 H3 pv3 p3 ex3 S3 R3 dj3 st3 => ?_⟩
    obtain ⟨F4, g1, g2, S4, R4, st4⟩ := freeze S3 R3 ex3 (dj3 rfl) st3
    have R2' := R2.upF (H' := H3) (st3.ex.trans g1)
    cases t1 <;> cases t2 <;> first | (cases e3; done) | skip
    · cases e3
      obtain ⟨a, xs, rfl, h, r⟩ := frz_row (us := _) R2' rfl
      obtain ⟨b, ys, rfl, h', r'⟩ := frz_row (us := _) R4 rfl
      rcases h with ⟨⟨_, h1⟩, h2⟩ | ⟨h1, h2⟩
      · cases h1
      · rcases h' with ⟨⟨_, h1⟩, h3⟩ | ⟨h1, h3⟩
        · cases h1
        · exact ⟨a, b, xs, ys, rfl, .inr ⟨Evl.ex_t g2 h2, Evl.ex_t g2 h3, k _ F4 H3 p3 (walks_zipT h2 r h3 r') g2 S4 (st2.trans st4)⟩⟩
    · cases e3
      obtain ⟨a, xs, rfl, h, r⟩ := frz_row (us := _) R2' rfl
      obtain ⟨b, ys, rfl, h', r'⟩ := frz_row (us := _) R4 rfl
      rcases h with ⟨_, h2⟩ | ⟨h1, h2⟩
      · rcases h' with ⟨_, h3⟩ | ⟨h1, h3⟩
        · exact ⟨a, b, xs, ys, rfl, .inl ⟨.inl (Evl.ex_rd g2 h2), .inl (Evl.ex_rd g2 h3), k _ F4 H3 p3 (walks_zip h2 r h3 r') g2 S4 (st2.trans st4)⟩⟩
        · cases h1
      · cases h1
theorem si_rev {p : Pos} (hg : Gl X "reversed") (hm : X.mg "reversed" = none) (ha : Sd X P a a') (hs : starEach [a] X.env = (false, eval a X.env) :: starEach [] X.env) : PI X tg (.Call (.Name "reversed" p) [a] [] pos) (tevI X.K P (.rev a')) :=
  pi_imp (RT.pi_revA hg hm (ha.v .e (by decide)) hs) fun σ H R ⟨F, sl, p, ts, sl', ex, S, e, k⟩ => by
    simp only [evI, Option.bind_eq_some_iff] at e
    obtain ⟨⟨t1, sl1⟩, e1, us, e2, e3⟩ := e
    cases e3
    refine ⟨F, sl, p, _, _, ex, S, e1, fun v F' H' pv p' ex' S' R' dj st => ?_⟩
    obtain ⟨F2, f1, f2, S2, R2, st2⟩ := freeze S' R' ex' (dj rfl) st
    obtain ⟨a, xs, rfl, h, r⟩ := frz_row R2 e2
    rcases h with ⟨h1, h2⟩ | ⟨h1, h2⟩
    · exact ⟨a, xs, rfl, .inl ⟨.inl (Evl.ex_rd f2 h2), k _ F2 H' p' (walks_rev h2 r) f2 S2 st2⟩⟩
    · refine ⟨a, xs, rfl, .inr ⟨Evl.ex_t f2 h2, k _ F2 H' p' ⟨fun F3 H3 e1 e2 => ?_, fun i t F3 H3 h e1 e2 => ?_⟩ f2 S2 st2⟩⟩
      · show xs.length ≤ (frzs us).reverse.length
        rw [List.length_reverse, r.length]; exact Nat.le_refl _
      · obtain ⟨hi, h'⟩ := rev_at h
        rw [r.length] at hi h'
        obtain ⟨v, hv, r0⟩ := r.atN h'
        have s2 : SqT X.K H3 a xs := Evl.ex_t e2 (Evl.ex_t e1 h2)
        refine ⟨⟨hi, xs, v, s2, hv⟩, fun x H4 ⟨e, y⟩ => ?_⟩
        subst e
        have := y xs s2
        rw [hv] at this; cases this
        exact ⟨F3, e2, r0.upF e1, Stp.refl⟩
end
end Pv

/-! Comprehensions. -/
namespace Pv
open PySem L2 PyProof.Rows
theorem wipe_get {σ : L2.St} {i : Nat} : ∀ {vs : List Nat}, (wipe σ vs)[i]? = if i ∈ vs then (σ[i]?).map (fun _ => none) else σ[i]?
  | [] => by simp [wipe]
  | v :: vs => by
    unfold wipe
    by_cases hi : v = i
    · subst hi
      rw [if_pos List.mem_cons_self]
      by_cases hv : v < (wipe σ vs).length
      · rw [List.getElem?_set_self hv]
        rw [wipe_length] at hv
        simp [hv]
      · rw [List.getElem?_eq_none (by simpa using hv)]
        rw [wipe_length] at hv
        rw [List.getElem?_eq_none (by omega)]
        rfl
    · rw [List.getElem?_set_ne hi, wipe_get (vs := vs)]
      by_cases h2 : i ∈ vs
      · rw [if_pos h2, if_pos (List.mem_cons_of_mem _ h2)]
      · rw [if_neg h2, if_neg (fun z => (List.mem_cons.mp z).elim (fun e => hi e.symm) h2)]
theorem wipe_keep {σ σ2 : L2.St} {A vs : List Nat} (k : Keep A (wipe σ vs) σ2) (h : ∀ i ∈ A, i ∈ vs) : wipe σ2 vs = wipe σ vs := by
  apply List.ext_getElem?
  intro i
  rw [wipe_get, wipe_get]
  by_cases hi : i ∈ vs
  · rw [if_pos hi, if_pos hi]
    have l := k.1
    rw [wipe_length] at l
    by_cases z : i < σ.length
    · simp [z, show i < σ2.length by omega]
    · simp [show σ.length ≤ i by omega, show σ2.length ≤ i by omega]
  · rw [if_neg hi, if_neg hi]
    rw [k.2 i fun z => hi (h i z), wipe_get, if_neg hi]
/-- the block's own as they were -/
def unw (σ0 : L2.St) : List Nat → L2.St → L2.St
  | [], σ => σ
  | i :: is, σ => (unw σ0 is σ).set i (σ0[i]?.getD none)
theorem unw_len {σ0 σ : L2.St} : ∀ {vs : List Nat}, (unw σ0 vs σ).length = σ.length
  | [] => rfl
  | v :: vs => by unfold unw; rw [List.length_set, unw_len]
theorem unw_get {σ0 σ : L2.St} {i : Nat} : ∀ {vs : List Nat}, (unw σ0 vs σ)[i]? = if i ∈ vs then (σ[i]?).map (fun _ => σ0[i]?.getD none) else σ[i]?
  | [] => by simp [unw]
  | v :: vs => by
    unfold unw
    by_cases hi : v = i
    · subst hi
      rw [if_pos List.mem_cons_self]
      by_cases hv : v < (unw σ0 vs σ).length
      · rw [List.getElem?_set_self hv]
        rw [unw_len] at hv
        simp [hv]
      · rw [List.getElem?_eq_none (by simpa using hv)]
        rw [unw_len] at hv
        rw [List.getElem?_eq_none (l := σ) (by omega)]
        rfl
    · rw [List.getElem?_set_ne hi, unw_get (vs := vs)]
      by_cases h2 : i ∈ vs
      · rw [if_pos h2, if_pos (List.mem_cons_of_mem _ h2)]
      · rw [if_neg h2, if_neg (fun z => (List.mem_cons.mp z).elim (fun e => hi e.symm) h2)]
theorem unw_wipe {σ : L2.St} {vs : List Nat} : unw σ vs (wipe σ vs) = σ := by
  apply List.ext_getElem?
  intro i
  rw [unw_get]
  by_cases hi : i ∈ vs
  · rw [if_pos hi, wipe_get, if_pos hi]
    by_cases z : i < σ.length
    · simp [z]
    · simp [show σ.length ≤ i by omega]
  · rw [if_neg hi, wipe_get, if_neg hi]
section
variable {K : PySem.W.Frag} {F F' H H' : Hp} {σ : L2.St} {sl sl' : SL} {p p' q r : FP}
theorem SlR.wipe (s : SlR K F H sl σ p) : ∀ (vs : List Nat), ∃ r, (∀ a, r a → p a) ∧ SlR K F H (wipeS vs sl) (L2.wipe σ vs) r
  | [] => ⟨p, fun _ x => x, s⟩
  | v :: vs => by
    obtain ⟨r, s1, S1⟩ := s.wipe vs
    obtain ⟨r2, s2, S2⟩ := S1.drop v none
    exact ⟨r2, fun a x => s1 a (s2 a x), S2⟩
theorem SlR.rest {F0 H0 : Hp} {sl0 : SL} {p0 : FP} {σ0 : L2.St} (s0 : SlR K F0 H0 sl0 σ0 p0) (ex : Ex F0 F) : ∀ {vs : List Nat}, ownOk vs sl0 = true → SlR K F H sl σ p → ∃ r, (∀ a, r a → p a) ∧ SlR K F H (restS sl0 vs sl) (unw σ0 vs σ) r
  | [], _, s => ⟨p, fun _ x => x, s⟩
  | v :: vs, h, s => by
    have h1 : ownOk vs sl0 = true := by
      unfold ownOk at h ⊢
      rw [List.all_cons, Bool.and_eq_true] at h
      exact h.2
    obtain ⟨r, s1, S1⟩ := SlR.rest s0 ex h1 s
    show ∃ r, (∀ a, r a → p a) ∧ SlR K F H ((restS sl0 vs sl).set v (sl0.getD v .hole)) ((unw σ0 vs σ).set v (σ0[v]?.getD none)) r
    have drop : ∃ r, (∀ a, r a → p a) ∧ SlR K F H ((restS sl0 vs sl).set v .hole) ((unw σ0 vs σ).set v (σ0[v]?.getD none)) r := by
      obtain ⟨r2, s2, S2⟩ := S1.drop v (σ0[v]?.getD none)
      exact ⟨r2, fun a x => s1 a (s2 a x), S2⟩
    rw [List.getD_eq_getElem?_getD]
    cases e : sl0[v]? with
    | none => exact drop
    | some t =>
      rw [Option.getD_some]
      by_cases hh : isHole t = true
      · rw [isHole_eq hh]; exact drop
      · have f : isF t = true := by
          unfold ownOk at h
          rw [List.all_cons, Bool.and_eq_true] at h
          have := h.1
          rw [e] at this
          have z : (isF t || isHole t) = true := this
          rw [Bool.or_eq_true] at z
          exact z.resolve_right hh
        have lk : look sl0 v = some t := by
          unfold look
          rw [e]
          cases t <;> first | rfl | exact absurd rfl hh
        obtain ⟨w, q, g, R, sub⟩ := s0.peek lk
        rw [g, Option.getD_some]
        have R0 : Rep K F H t w nop := (R.cg fun b => ⟨fun x => R.of_isF f b x, fun x => x.elim⟩ : Rep K F0 H0 t w nop).upF ex
        obtain ⟨r2, s2, S2⟩ := S1.store v R0 fun _ x => x.elim
        exact ⟨r2, fun a x => (s2 a x).elim (fun z => z.elim) (s1 a), S2⟩
end
section
variable {X : Cx} {P : Pg} {elt tg iter : Expr} {ifs : List Expr} {scope : Scope} {own : List (Str × Nat)} {pos : Pos} {it : Pv.It} {g : G} {c' e' : E} {ows : List Nat}
theorem ev_lc {m : Md} {sl sl' : SL} {t : T} (h : ev P m (.lc ows g it c' e') sl = some (t, sl')) : ∃ xs sl1 acc sl2, evI P it sl = some (xs, sl1) ∧ ownOk ows sl1 = true ∧ lcGo (setG P g) (ev P .t c') (ev P .e e') (wipeS ows) xs sl1 [] = some (acc, sl2) ∧ fin m false (.lst true acc) (restS sl1 ows (wipeS ows sl2)) = some (t, sl') := by
  simp only [ev, Option.bind_eq_some_iff] at h
  obtain ⟨⟨xs, sl1⟩, e1, e2⟩ := h
  by_cases hz : ownOk ows sl1 = true
  · rw [if_pos hz] at e2
    obtain ⟨⟨acc, sl2⟩, e3, e4⟩ := Option.bind_eq_some_iff.mp e2
    exact ⟨xs, sl1, acc, sl2, e1, hz, e3, e4⟩
  · rw [if_neg hz] at e2; cases e2
theorem plain_lc : Plain P (.lc ows g it c' e') := fun sl t sl' h => by
  obtain ⟨xs, sl1, acc, sl2, e1, hz, e3, e4⟩ := ev_lc h
  obtain ⟨b, h1, h2, rfl⟩ := fin_t e4
  refine ⟨_, b, ?_, h1, h2⟩
  simp only [ev, e1, Option.bind_some, hz, if_true, e3, fin]
/-- a step of the walk -/
theorem lcGo_cons {set : T → SL → Option SL} {cnd elt : SL → Option (T × SL)} {wipe : SL → SL} {x : T} {xs : List T} {sl : SL} {acc : List T} {z : List T × SL} (h : lcGo set cnd elt wipe (x :: xs) sl acc = some z) :
    ∃ sl1 b sl2, set x (wipe sl) = some sl1 ∧ cnd sl1 = some (.bl b, sl2) ∧ ((b = true ∧ ∃ t sl3, elt sl2 = some (t, sl3) ∧ okN acc.length = true ∧ lcGo set cnd elt wipe xs sl3 (acc ++ [t]) = some z) ∨ (b = false ∧ lcGo set cnd elt wipe xs sl2 acc = some z)) := by
  unfold lcGo at h
  obtain ⟨sl1, e1, h⟩ := Option.bind_eq_some_iff.mp h
  obtain ⟨⟨t1, sl2⟩, e2, h⟩ := Option.bind_eq_some_iff.mp h
  cases t1 <;> first | (cases h; done) | skip
  rename_i b
  cases b with
  | false => exact ⟨sl1, false, sl2, e1, e2, .inr ⟨rfl, h⟩⟩
  | true =>
    have h' : ((elt sl2).bind fun r2 => if okN acc.length = true then lcGo set cnd elt wipe xs r2.2 (acc ++ [r2.1]) else none) = some z := h
    obtain ⟨⟨t, sl3⟩, e3, h2⟩ := Option.bind_eq_some_iff.mp h'
    by_cases hz : okN acc.length = true
    · rw [if_pos hz] at h2
      exact ⟨sl1, true, sl2, e1, e2, .inl ⟨rfl, t, sl3, e3, hz, h2⟩⟩
    · rw [if_neg hz] at h2; cases h2
/-- an owned list grows by one -/
theorem grow1 {K : PySem.W.Frag} {F H : Hp} {D : Addr} {acc : List T} {t : T} {v : V} {p q : FP} (ex : Ex F H) (R : Rep K F H (.lst true acc) (.ref D) p) (Rt : Rep K F H t v q) (dj : Dj q p) : ∃ ys p', H D = some (.lst ys) ∧ ys.length = acc.length ∧
    Ex F (upd H D (.lst (ys ++ [v]))) ∧ Rep K F (upd H D (.lst (ys ++ [v]))) (.lst true (acc ++ [t])) (.ref D) p' ∧ Stp (fun b => q b ∨ p b) F H p' F (upd H D (.lst (ys ++ [v]))) := by
  cases R with
  | @lstO _ ys _ _ q0 n h r d e =>
    have R2 := r.app (Reps.one Rt) fun b x y => dj b y ((e b).mpr (.inr x))
    have own : ∀ b, (q0 b ∨ q b) → F b = none ∧ ∃ o, H b = some o := fun b x => x.elim (r.own b) (Rt.own b)
    have nq : ¬ (q0 D ∨ q D) := fun x => x.elim d fun y => dj D y ((e D).mpr (.inl rfl))
    obtain ⟨g1, g2, g3⟩ := reown (o' := .lst (ys ++ [v])) ex n own nq R2 fun b x => x
    refine ⟨ys, _, h, r.length.symm, g1, .lstO n upd_same g2 nq fun b => Iff.rfl, g3.cg fun b => ?_⟩
    rw [e b]
    constructor
    · rintro (x | x | x)
      · exact .inr (.inl x)
      · exact .inr (.inr x)
      · exact .inl x
    · rintro (x | x | x)
      · exact .inr (.inr x)
      · exact .inl x
      · exact .inr (.inl x)
theorem core_lc {m : Md} {σ : L2.St} {H : Hp} {Q : VK} (hm : m ≠ .t) (hsub : ∀ i ∈ stG g, i ∈ ows) (h : tev X.K P m (.lc ows g it c' e') σ H Q) : tLc (tevI X.K P it) (tevG X.K (stG g) (setG P g)) (tevT X.K P c') (tev X.K P .e e') ows σ H Q := by
  obtain ⟨F, sl, p, t, sl', ex, S, e, k⟩ := h
  obtain ⟨xs, sl1, accz, slz, e1, hz, e3, e4⟩ := ev_lc e
  obtain ⟨rfl, rfl, _⟩ := fin_some hm e4
  refine ⟨F, sl, p, xs, sl1, ex, S, e1, fun J F1 H1 p1 wk ex1 S1 st1 D nD => ?_⟩
  refine ⟨fun i m H => ∃ F sl p acc pD, i ≤ xs.length ∧ m = xs.length - i ∧ lcGo (setG P g) (ev P .t c') (ev P .e e') (wipeS ows) (xs.drop i) sl acc = some (accz, slz) ∧ Ex F H ∧ SlR X.K F H (wipeS ows sl) (wipe σ ows) p ∧ Rep X.K F H (.lst true acc) (.ref D) pD ∧ Dj pD p ∧ Stp p1 F1 H1 (fun a => pD a ∨ p a) F H, ?_, ?_⟩
  · obtain ⟨a1, a2, a3⟩ := new_lst (K := X.K) ex1 nD (.nil (p := nop) fun _ x => x)
    obtain ⟨r, s1, S2⟩ := S1.wipe ows
    obtain ⟨b1, b2, b3⟩ := a3.frame S2.own fun _ x => x.elim
    refine ⟨_, F1, sl1, r, [], _, Nat.zero_le _, rfl, e3, a1, S2.frame a3.ex b1, a2, b2, ?_⟩
    exact b3.more fun a x => x.elim (fun z => z.elim) (s1 a)
  · rintro i m H2 ⟨F2, sl2, p2, acc, pD, hi, rfl, e5, ex2, S2, RD, dj2, st2⟩
    by_cases hl : i < xs.length
    · refine .inr ?_
      obtain ⟨x, hx⟩ : ∃ x, xs[i]? = some x := ⟨xs[i], by simp [hl]⟩
      obtain ⟨g1, g2⟩ := wk.go i x F2 H2 hx st2.ex ex2
      have ed : xs.drop i = x :: xs.drop (i + 1) := by
        obtain ⟨h1, h2⟩ := List.getElem?_eq_some_iff.mp hx
        rw [← h2]; exact List.drop_eq_getElem_cons h1
      rw [ed] at e5
      obtain ⟨sl3, b, sl4, e6, e7, e8⟩ := lcGo_cons e5
      refine ⟨g1, fun H => ∃ F sl p acc pD, lcGo (setG P g) (ev P .t c') (ev P .e e') (wipeS ows) (xs.drop (i + 1)) sl acc = some (accz, slz) ∧ Ex F H ∧ SlR X.K F H (wipeS ows sl) (wipe σ ows) p ∧ Rep X.K F H (.lst true acc) (.ref D) pD ∧ Dj pD p ∧ Stp p1 F1 H1 (fun a => pD a ∨ p a) F H, fun H' ⟨F, sl, p, acc, pD, h⟩ => ⟨xs.length - (i + 1), by omega, F, sl, p, acc, pD, hl, rfl, h⟩, fun v H3 y => ?_⟩
      obtain ⟨F3, ex3, R3, st3⟩ := g2 v H3 y
      obtain ⟨a1, a2, a3⟩ := st3.frame (r := fun a => pD a ∨ p2 a) (fun a x => x.elim (RD.own a) (S2.own a)) fun _ x => x.elim
      have RD3 := RD.frame st3.ex fun a x => a1 a (.inl x)
      have st23 := st2.trans ((a3.cg fun a => ⟨fun x => x.elim (fun z => z.elim) id, .inr⟩).sub fun a x => .inr x)
      refine ⟨F3, x, nop, _, p2, sl3, ex3, R3, S2.frame st3.ex fun a x => a1 a (.inr x), fun _ x => x.elim, e6, fun σ2 F4 H4 p4 kp ex4 S4 st4 => ?_⟩
      have hw := wipe_keep kp hsub
      refine ⟨hw, F4, sl3, p4, b, sl4, ex4, S4, e7, fun F5 H5 p5 ex5 S5 st5 => ?_⟩
      have st45 := (st4.cg (q := p2) fun a => ⟨fun x => x.elim (fun z => z.elim) id, .inr⟩).trans st5
      obtain ⟨b1, b2, b3⟩ := st45.frame RD3.own fun a x y => dj2 a y x
      have RD5 := RD3.frame st45.ex b1
      have st25 := st23.trans (b3.cg fun a => or_comm)
      rcases e8 with ⟨rfl, t, sl5, e9, hn, e10⟩ | ⟨rfl, e10⟩
      · refine ⟨F5, sl4, p5, t, sl5, ex5, S5, e9, fun v6 F6 H6 pv6 p6 ex6 S6 R6 dj6 st6 => ?_⟩
        obtain ⟨c1, c2, c3⟩ := st6.frame RD5.own b2
        have RD6 := RD5.frame st6.ex c1
        obtain ⟨ys, pE, h1, h2, h3, h4, h5⟩ := grow1 ex6 RD6 R6 fun a x y => c2 a (.inl x) y
        obtain ⟨r, s1, S7⟩ := S6.wipe ows
        rw [hw] at S7
        obtain ⟨d1, d2, d3⟩ := h5.frame S7.own fun a x y => x.elim (fun z => dj6 rfl a z (s1 a y)) fun z => c2 a (.inr (s1 a y)) z
        refine ⟨ys, h1, by rw [h2]; exact (by have := of_decide_eq_true hn; rw [sizeLine_eq]; omega), F6, sl5, r, acc ++ [t], pE, e10, h3, S7.frame h5.ex d1, h4, d2, ?_⟩
        refine (st25.trans (c3.cg fun a => Iff.rfl)).trans (d3.more fun a x => ?_)
        rcases x with (x | x) | x
        · exact .inl (.inl x)
        · exact .inr x
        · exact .inl (.inr (s1 a x))
      · obtain ⟨r, s1, S7⟩ := S5.wipe ows
        rw [hw] at S7
        exact ⟨F5, sl4, r, acc, pD, e10, ex5, S7, RD5, fun a x y => b2 a (s1 a y) x, st25.sub fun a x => x.elim .inr fun z => .inl (s1 a z)⟩
    · refine .inl ?_
      obtain rfl : i = xs.length := by omega
      refine ⟨wk.stop F2 H2 st2.ex ex2, ?_⟩
      rw [List.drop_length] at e5
      cases e5
      obtain ⟨r, s1, S3⟩ := SlR.rest S1 st2.ex hz S2
      rw [unw_wipe] at S3
      exact k _ F2 H2 pD r ex2 S3 RD (fun _ a x y => dj2 a x (s1 a y)) ((st1.trans st2).sub fun a x => x.imp id (s1 a))
theorem sd_lc (hc : X.calm = true) (hN : X.N.Nodup) (hi : PI X tg iter (tevI X.K P it)) (ok : BlkOk X.N X.env.scope scope own) (hsub : ∀ i ∈ stG g, i ∈ own.map (·.2))
    (hg : ∀ (s : Shared) (H : Hp) (C : Addr) (cl : List (Str × Addr)) (fp : List Addr), PG (X.blk s H scope (compEnvC scope cl C X.env) fp) tg (tevG X.K (stG g) (setG P g))) (ht : ∀ (s : Shared) (H : Hp) (C : Addr) (cl : List (Str × Addr)) (fp : List Addr), PTs (X.blk s H scope (compEnvC scope cl C X.env) fp) ifs (tevT X.K P c'))
    (he : ∀ (s : Shared) (H : Hp) (C : Addr) (cl : List (Str × Addr)) (fp : List Addr), PE (X.blk s H scope (compEnvC scope cl C X.env) fp) elt (tev X.K P .e e')) (hs : ∀ x, foldedSetIterable iter X.env x = pure x) :
    Sd X P (.ListComp elt [⟨tg, iter, ifs, 0⟩] scope pos) (.lc (own.map (·.2)) g it c' e') :=
  have v : ∀ m, m ≠ .t → PE X (.ListComp elt [⟨tg, iter, ifs, 0⟩] scope pos) (tev X.K P m (.lc (own.map (·.2)) g it c' e')) := fun m hmm => pe_imp (pe_lc hc hN hi ok hg ht he hs) fun σ H Q h => core_lc hmm hsub h
  ⟨v, pt_plain (v .o (by decide)) plain_lc fun _ => rfl⟩
theorem pts_yes : PTs X [] (tevT X.K P (.cst (.bl true))) := ⟨fun pins s σ H Q I ⟨F, sl, p, b, sl', ex, S, e, k⟩ => by
  simp only [ev, fin, tru] at e
  cases e
  exact pts_nil.run pins s σ H Q I (k F H p ex S Stp.refl)⟩
end
end Pv

/-! Statements. -/
namespace Pv
open PySem L2 PyProof.Rows
def KN (K : PySem.W.Frag) (p : FP) (F H : Hp) (σ : L2.St) (A : List Nat) (sl' : SL) (Q : L2.St → Hp → Prop) : Prop := ∀ σ' F' H' p', Keep A σ σ' → Ex F' H' → SlR K F' H' sl' σ' p' → Stp p F H p' F' H' → Q σ' H'
def KR (K : PySem.W.Frag) (p : FP) (F H : Hp) (σ : L2.St) (A : List Nat) (t : T) (sl' : SL) (Q : VK) : Prop := ∀ v σ' F' H' pv p', Keep A σ σ' → Ex F' H' → SlR K F' H' sl' σ' p' → Rep K F' H' t v pv → Dj pv p' → Stp p F H (fun a => pv a ∨ p' a) F' H' → Q v H'
def KS (K : PySem.W.Frag) (p : FP) (F H : Hp) (σ : L2.St) (A : List Nat) (fl : Fl) (sl' : SL) (D : Ends) : Prop := match fl with
  | .nx => KN K p F H σ A sl' D.nx
  | .bk => KN K p F H σ A sl' D.bk
  | .ct => KN K p F H σ A sl' D.ct
  | .rt t => KR K p F H σ A t sl' D.rt
def tevS (K : PySem.W.Frag) (P : Pg) (s : S) : TS := fun D σ H => ∃ F sl p fl sl', Ex F H ∧ SlR K F H sl σ p ∧ evS P s sl = some (fl, sl') ∧ KS K p F H σ (stS s) fl sl' D
def tevSs (K : PySem.W.Frag) (P : Pg) (s : Ss) : TS := fun D σ H => ∃ F sl p fl sl', Ex F H ∧ SlR K F H sl σ p ∧ evSs P s sl = some (fl, sl') ∧ KS K p F H σ (stSs s) fl sl' D
section
variable {K : PySem.W.Frag} {F F' H H' : Hp} {σ σ' : L2.St} {sl' : SL} {p p' : FP} {A B : List Nat} {D : Ends} {fl : Fl}
theorem KN.after {Q : L2.St → Hp → Prop} (k : KN K p F H σ A sl' Q) (kp : Keep A σ σ') (st : Stp p F H p' F' H') : KN K p' F' H' σ' A sl' Q := fun σ2 F2 H2 p2 kp2 ex2 S2 st2 => k σ2 F2 H2 p2 (kp.trans kp2) ex2 S2 (st.trans st2)
theorem KR.after {Q : VK} {t : T} (k : KR K p F H σ A t sl' Q) (kp : Keep A σ σ') (st : Stp p F H p' F' H') : KR K p' F' H' σ' A t sl' Q := fun v σ2 F2 H2 pv p2 kp2 ex2 S2 R2 dj st2 => k v σ2 F2 H2 pv p2 (kp.trans kp2) ex2 S2 R2 dj (st.trans st2)
theorem KS.after (k : KS K p F H σ A fl sl' D) (kp : Keep A σ σ') (st : Stp p F H p' F' H') : KS K p' F' H' σ' A fl sl' D := by
  cases fl with
  | nx => exact KN.after k kp st
  | bk => exact KN.after k kp st
  | ct => exact KN.after k kp st
  | rt t => exact KR.after k kp st
theorem KN.mono {Q : L2.St → Hp → Prop} (k : KN K p F H σ A sl' Q) (h : ∀ i ∈ B, i ∈ A) : KN K p F H σ B sl' Q := fun σ2 F2 H2 p2 kp => k σ2 F2 H2 p2 (kp.mono h)
theorem KR.mono {Q : VK} {t : T} (k : KR K p F H σ A t sl' Q) (h : ∀ i ∈ B, i ∈ A) : KR K p F H σ B t sl' Q := fun v σ2 F2 H2 pv p2 kp => k v σ2 F2 H2 pv p2 (kp.mono h)
theorem KS.mono (k : KS K p F H σ A fl sl' D) (h : ∀ i ∈ B, i ∈ A) : KS K p F H σ B fl sl' D := by
  cases fl with
  | nx => exact KN.mono k h
  | bk => exact KN.mono k h
  | ct => exact KN.mono k h
  | rt t => exact KR.mono k h
end
section
variable {X : Cx} {P : Pg} {a b c x y e tg : Expr} {a' b' c' e' : E} {es : Es} {pos : Pos} {st : Stmt} {rest sts sts2 : List Stmt} {s : S} {ss ss2 : Ss} {g : G}
theorem ss_nil : PSs X [] (tevSs X.K P .nil) := pss_imp pss_nil fun D σ H ⟨F, sl, p, fl, sl', ex, S, e, k⟩ => by
  simp only [evSs] at e
  cases e
  exact k σ F H p Keep.refl ex S Stp.refl
theorem ss_cons (h1 : PS X st (tevS X.K P s)) (h2 : PSs X rest (tevSs X.K P ss)) : PSs X (st :: rest) (tevSs X.K P (.cons s ss)) := pss_imp (pss_cons h1 h2) fun D σ H ⟨F, sl, p, fl, sl', ex, S, e, k⟩ => by
  simp only [evSs, Option.bind_eq_some_iff] at e
  obtain ⟨⟨fl1, sl1⟩, e1, e2⟩ := e
  have m1 : ∀ i ∈ stS s, i ∈ stSs (.cons s ss) := fun i h => by simp only [stSs]; exact List.mem_append_left _ h
  have m2 : ∀ i ∈ stSs ss, i ∈ stSs (.cons s ss) := fun i h => by simp only [stSs]; exact List.mem_append_right _ h
  cases fl1 with
  | nx => exact ⟨F, sl, p, .nx, sl1, ex, S, e1, fun σ' F' H' p' kp ex' S' st => ⟨F', sl1, p', fl, sl', ex', S', e2, (k.after (kp.mono m1) st).mono m2⟩⟩
  | bk => cases e2; exact ⟨F, sl, p, .bk, _, ex, S, e1, KN.mono k m1⟩
  | ct => cases e2; exact ⟨F, sl, p, .ct, _, ex, S, e1, KN.mono k m1⟩
  | rt t => cases e2; exact ⟨F, sl, p, .rt t, _, ex, S, e1, KR.mono k m1⟩
theorem ss_pass : PS X (.Pass pos) (tevS X.K P .pass) := ps_imp ps_pass fun D σ H ⟨F, sl, p, fl, sl', ex, S, e, k⟩ => by
  simp only [evS] at e
  cases e
  exact k σ F H p Keep.refl ex S Stp.refl
theorem ss_doc {z : Str} {j : Nat} {pos' : Pos} : PS X (.Expr (.Constant (.str z) j pos) pos') (tevS X.K P .pass) := ps_imp ps_doc fun D σ H ⟨F, sl, p, fl, sl', ex, S, e, k⟩ => by
  simp only [evS] at e
  cases e
  exact k σ F H p Keep.refl ex S Stp.refl
theorem ss_brk : PS X (.Break pos) (tevS X.K P .brk) := ps_imp ps_break fun D σ H ⟨F, sl, p, fl, sl', ex, S, e, k⟩ => by
  simp only [evS] at e
  cases e
  exact k σ F H p Keep.refl ex S Stp.refl
theorem ss_cnt : PS X (.Continue pos) (tevS X.K P .cnt) := ps_imp ps_continue fun D σ H ⟨F, sl, p, fl, sl', ex, S, e, k⟩ => by
  simp only [evS] at e
  cases e
  exact k σ F H p Keep.refl ex S Stp.refl
theorem ss_retn : PS X (.Return none pos) (tevS X.K P .retn) := ps_imp ps_retN fun D σ H ⟨F, sl, p, fl, sl', ex, S, e, k⟩ => by
  simp only [evS] at e
  cases e
  exact k .non σ F H nop p Keep.refl ex S (.non fun _ x => x) (fun _ x => x.elim) (Stp.refl.sub fun a x => x.elim (fun z => z.elim) id)
theorem ss_ret (h : Sd X P x e') : PS X (.Return (some x) pos) (tevS X.K P (.ret e')) := ps_imp (ps_ret (h.v .e (by decide))) fun D σ H ⟨F, sl, p, fl, sl', ex, S, e, k⟩ => by
  simp only [evS, Option.bind_eq_some_iff] at e
  obtain ⟨⟨t, sl1⟩, e1, e2⟩ := e
  cases e2
  exact ⟨F, sl, p, t, sl1, ex, S, e1, fun v F' H' pv p' ex' S' R' dj st => k v σ F' H' pv p' Keep.refl ex' S' R' (dj rfl) st⟩
theorem ss_exp (h : Sd X P x e') (hs : swapsWith x none pos.line X.env = pure false) : PS X (.Expr x pos) (tevS X.K P (.exp e')) := ps_imp (ps_expr (h.v .e (by decide)) hs) fun D σ H ⟨F, sl, p, fl, sl', ex, S, e, k⟩ => by
  simp only [evS, Option.bind_eq_some_iff] at e
  obtain ⟨⟨t, sl1⟩, e1, e2⟩ := e
  cases e2
  exact ⟨F, sl, p, t, sl1, ex, S, e1, fun v F' H' pv p' ex' S' R' dj st => k σ F' H' p' Keep.refl ex' S' (st.sub fun a x => .inr x)⟩
theorem ss_if (hc : Sd X P c c') (ha : PSs X sts (tevSs X.K P ss)) (hb : PSs X sts2 (tevSs X.K P ss2)) : PS X (.If c sts sts2 pos) (tevS X.K P (.iff c' ss ss2)) := ps_imp (ps_if hc.t ha hb) fun D σ H ⟨F, sl, p, fl, sl', ex, S, e, k⟩ => by
  simp only [evS, Option.bind_eq_some_iff] at e
  obtain ⟨⟨t, sl1⟩, e1, e2⟩ := e
  cases t <;> first | (cases e2; done) | skip
  rename_i b
  refine ⟨F, sl, p, b, sl1, ex, S, e1, fun F' H' p' ex' S' st => ?_⟩
  have k' := k.after Keep.refl st
  cases b with
  | true => exact ⟨F', sl1, p', fl, sl', ex', S', e2, k'.mono fun i h => by simp only [stS]; exact List.mem_append_left _ h⟩
  | false => exact ⟨F', sl1, p', fl, sl', ex', S', e2, k'.mono fun i h => by simp only [stS]; exact List.mem_append_right _ h⟩
theorem ss_asg (he : Sd X P x e') (hg : PG X tg (tevG X.K (stG g) (setG P g))) (hs : swapsWithSole [tg] x pos.line X.env = pure false) (hw : swappedStores [tg] x X.env = pure none)
    (h1 : (assignEach [tg] X.env).map (·.2) = [assign tg X.env]) : PS X (.Assign [tg] x pos) (tevS X.K P (.asg g e')) := ps_imp (ps_asg (he.v .e (by decide)) hg hs hw h1) fun D σ H ⟨F, sl, p, fl, sl', ex, S, e, k⟩ => by
  simp only [evS, Option.bind_eq_some_iff] at e
  obtain ⟨⟨t, sl1⟩, e1, sl2, e2, e3⟩ := e
  cases e3
  refine ⟨F, sl, p, t, sl1, ex, S, e1, fun v F' H' pv p' ex' S' R' dj st => ⟨F', t, pv, sl1, p', _, ex', R', S', dj rfl, e2, fun σ' F2 H2 p2 kp ex2 S2 st2 => k σ' F2 H2 p2 (kp.mono fun i h => by simp only [stS]; exact h) ex2 S2 (st.trans st2)⟩⟩
/-- name = [..] on one line -/
theorem ss_asgLc {i : Nat} {n : Str} {py : Pos} {elt tgt iter : Expr} {ifs : List Expr} {scope : Scope} {own : List (Str × Nat)} {pos spos : Pos} {it : Pv.It} (hc : X.calm = true) (hN : X.N.Nodup) (hy : X.N[i]? = some n) (hyl : X.env.scope.names.lookup n = some .local)
    (hsw : swapsWith (.ListComp elt [⟨tgt, iter, ifs, 0⟩] scope pos) (some (.Name n py)) spos.line X.env = pure true) (hi : PI X tgt iter (tevI X.K P it)) (ok : BlkOk X.N X.env.scope scope own) (hsub : ∀ i ∈ stG g, i ∈ own.map (·.2))
    (hg : ∀ (s : Shared) (H : Hp) (C : Addr) (cl : List (Str × Addr)) (fp : List Addr), PG (X.blk s H scope (compEnvC scope cl C X.env) fp) tgt (tevG X.K (stG g) (setG P g))) (ht : ∀ (s : Shared) (H : Hp) (C : Addr) (cl : List (Str × Addr)) (fp : List Addr), PTs (X.blk s H scope (compEnvC scope cl C X.env) fp) ifs (tevT X.K P c'))
    (he : ∀ (s : Shared) (H : Hp) (C : Addr) (cl : List (Str × Addr)) (fp : List Addr), PE (X.blk s H scope (compEnvC scope cl C X.env) fp) elt (tev X.K P .e e')) (hs : ∀ x, foldedSetIterable iter X.env x = pure x) :
    PS X (.Assign [.Name n py] (.ListComp elt [⟨tgt, iter, ifs, 0⟩] scope pos) spos) (tevS X.K P (.asg (.one (.nm i)) (.lc (own.map (·.2)) g it c' e'))) := ps_imp (ps_setLc hc hN hy hyl hsw hi ok hg ht he hs) fun D σ H ⟨F, sl, p, fl, sl', ex, S, e, k⟩ => by
  have e0 : (ev P .e (.lc (own.map (·.2)) g it c' e') sl).bind (fun r => (setG P (.one (.nm i)) r.1 r.2).bind fun sl => some (Fl.nx, sl)) = some (fl, sl') := by rw [← e]; simp only [evS]
  obtain ⟨⟨t, sl1⟩, e1, e2⟩ := Option.bind_eq_some_iff.mp e0
  obtain ⟨sl2, e3, e4⟩ := Option.bind_eq_some_iff.mp e2
  cases e4
  have e5 : sl1.set i t = sl' := Option.some.inj e3
  show tLc _ _ _ _ _ σ H fun x H1 => gName i x σ H1 D.nx
  refine core_lc (m := .e) (by decide) hsub ⟨F, sl, p, t, sl1, ex, S, e1, fun v F' H' pv p' ex' S' R' dj st => ?_⟩
  obtain ⟨p2, sub, S2⟩ := S'.store i R' (dj rfl)
  rw [e5] at S2
  exact k _ F' H' p2 (Keep.set.mono fun j h => by simp only [stS, stG, stG0]; exact h) ex' S2 (st.sub sub)
theorem ss_par2 {i j : Nat} {n1 n2 : Str} {px py pt : Pos} {kt k2 : Nat} {pt2 : Pos} (hc : X.calm = true) (hN : X.N.Nodup) (hi : X.N[i]? = some n1) (hj : X.N[j]? = some n2) (hij : i ≠ j)
    (hx : X.env.scope.names.lookup n1 = some .local) (hy : X.env.scope.names.lookup n2 = some .local) (ha : SdL X P [a, b] es)
    (hw : swappedStores [.Tuple [.Name n1 px, .Name n2 py] kt pt] (.Tuple [a, b] k2 pt2) X.env = pure (some [n1, n2])) :
    PS X (.Assign [.Tuple [.Name n1 px, .Name n2 py] kt pt] (.Tuple [a, b] k2 pt2) pos) (tevS X.K P (.par [i, j] es)) := ps_imp (ps_par hc hN hi hj hij hx hy ha hw rfl) fun D σ H ⟨F, sl, p, fl, sl', ex, S, e, k⟩ => by
  simp only [evS, Option.bind_eq_some_iff] at e
  obtain ⟨⟨ts, sl1⟩, e1, sl2, e2, e3⟩ := e
  cases e3
  refine ⟨F, sl, p, ts, sl1, ex, S, e1, fun vs F1 H1 pv1 p1 ex1 S1 R1 dj1 st1 => ?_⟩
  obtain ⟨t, u, rfl⟩ : ∃ t u, ts = [t, u] := by
    cases ts with
    | nil => cases e2
    | cons t ts => cases ts with
      | nil => cases e2
      | cons u ts => cases ts with
        | nil => exact ⟨t, u, rfl⟩
        | cons => cases e2
  cases e2
  cases R1 with
  | @cons _ v _ vs _ q1 _ h hs d e1 =>
    cases hs with
    | @cons _ w _ vs _ q2 _ h' hs' d' e2 =>
      cases hs'
      refine ⟨v, w, rfl, ?_⟩
      obtain ⟨p2, sub2, S2⟩ := S1.store i h fun z x y => dj1 z ((e1 z).mpr (.inl x)) y
      obtain ⟨p3, sub3, S3⟩ := S2.store j h' fun z x y => (sub2 z y).elim (fun q => d z q ((e2 z).mpr (.inl x))) fun q => dj1 z ((e1 z).mpr (.inr ((e2 z).mpr (.inl x)))) q
      refine k _ F1 H1 p3 ?_ ex1 S3 (st1.sub fun z x => ?_)
      · simp only [stS]
        exact (Keep.set.mono fun z h => by rw [List.mem_singleton.mp h]; exact List.mem_cons_self).trans (Keep.set.mono fun z h => by rw [List.mem_singleton.mp h]; exact List.mem_cons_of_mem _ List.mem_cons_self)
      · rcases sub3 z x with x | x
        · exact .inl ((e1 z).mpr (.inr ((e2 z).mpr (.inl x))))
        · rcases sub2 z x with x | x
          · exact .inl ((e1 z).mpr (.inl x))
          · exact .inr x
theorem ss_par3 {i j l : Nat} {n1 n2 n3 : Str} {px py pz pt : Pos} {kt k2 : Nat} {pt2 : Pos} (hc : X.calm = true) (hN : X.N.Nodup) (hi : X.N[i]? = some n1) (hj : X.N[j]? = some n2) (hl : X.N[l]? = some n3) (hij : i ≠ j) (hil : i ≠ l) (hjl : j ≠ l)
    (hx : X.env.scope.names.lookup n1 = some .local) (hy : X.env.scope.names.lookup n2 = some .local) (hz : X.env.scope.names.lookup n3 = some .local) (ha : SdL X P [a, b, c] es)
    (hw : swappedStores [.Tuple [.Name n1 px, .Name n2 py, .Name n3 pz] kt pt] (.Tuple [a, b, c] k2 pt2) X.env = pure (some [n1, n2, n3])) :
    PS X (.Assign [.Tuple [.Name n1 px, .Name n2 py, .Name n3 pz] kt pt] (.Tuple [a, b, c] k2 pt2) pos) (tevS X.K P (.par [i, j, l] es)) := ps_imp (L2.ps_par3 hc hN hi hj hl hij hil hjl hx hy hz ha hw rfl) fun D σ H ⟨F, sl, p, fl, sl', ex, S, e, k⟩ => by
  simp only [evS, Option.bind_eq_some_iff] at e
  obtain ⟨⟨ts, sl1⟩, e1, sl2, e2, e3⟩ := e
  cases e3
  refine ⟨F, sl, p, ts, sl1, ex, S, e1, fun vs F1 H1 pv1 p1 ex1 S1 R1 dj1 st1 => ?_⟩
  obtain ⟨t, u, w, rfl⟩ : ∃ t u w, ts = [t, u, w] := by
    cases ts with
    | nil => cases e2
    | cons t ts => cases ts with
      | nil => cases e2
      | cons u ts => cases ts with
        | nil => cases e2
        | cons w ts => cases ts with
          | nil => exact ⟨t, u, w, rfl⟩
          | cons => cases e2
  cases e2
  cases R1 with
  | @cons _ v _ vs _ q1 _ h hs d e1 =>
    cases hs with
    | @cons _ w _ vs _ q2 _ h' hs' d' e2 =>
      cases hs' with
      | @cons _ x _ vs _ q3 _ h'' hs'' d'' e3 =>
        cases hs''
        refine ⟨v, w, x, rfl, ?_⟩
        obtain ⟨p2, sub2, S2⟩ := S1.store i h fun z x y => dj1 z ((e1 z).mpr (.inl x)) y
        obtain ⟨p3, sub3, S3⟩ := S2.store j h' fun z x y => (sub2 z y).elim (fun q => d z q ((e2 z).mpr (.inl x))) fun q => dj1 z ((e1 z).mpr (.inr ((e2 z).mpr (.inl x)))) q
        obtain ⟨p4, sub4, S4⟩ := S3.store l h'' fun z x y => by
          have x3 := (e3 z).mpr (.inl x)
          have x2 := (e2 z).mpr (.inr x3)
          rcases sub3 z y with q | q
          · exact d' z q x3
          · rcases sub2 z q with q | q
            · exact d z q x2
            · exact dj1 z ((e1 z).mpr (.inr x2)) q
        refine k _ F1 H1 p4 ?_ ex1 S4 (st1.sub fun z x => ?_)
        · simp only [stS]
          exact ((Keep.set.mono fun z h => by rw [List.mem_singleton.mp h]; exact List.mem_cons_self).trans (Keep.set.mono fun z h => by rw [List.mem_singleton.mp h]; exact List.mem_cons_of_mem _ List.mem_cons_self)).trans (Keep.set.mono fun z h => by rw [List.mem_singleton.mp h]; exact List.mem_cons_of_mem _ (List.mem_cons_of_mem _ List.mem_cons_self))
        · rcases sub4 z x with x | x
          · exact .inl ((e1 z).mpr (.inr ((e2 z).mpr (.inr ((e3 z).mpr (.inl x))))))
          · rcases sub3 z x with x | x
            · exact .inl ((e1 z).mpr (.inr ((e2 z).mpr (.inl x))))
            · rcases sub2 z x with x | x
              · exact .inl ((e1 z).mpr (.inl x))
              · exact .inr x
/-! ### x op= e -/
def rIP (K : PySem.W.Frag) (o : O2) : TIp := fun x y H Q => ∃ F t u p q r, Ex F H ∧ Rep K F H t x p ∧ Rep K F H u y q ∧ iop o t u = some r ∧ ∀ v, Rep K F H r v nop → Q v H
theorem pip_any {op : Operator} {t' : TIp} (h : ∀ x y H Q, t' x y H Q → ∃ t, PIp X op t ∧ t x y H Q) : PIp X op t' := fun pins s σ H x y v u Q I r1 r2 w => let ⟨t, h1, h2⟩ := h x y H Q w; h1 pins s σ H x y v u Q I r1 r2 h2
theorem ipr_add : PIp X .Add (rIP X.K .add) := pip_any fun x y H Q ⟨F, t, u, p, q, r, ex, ht, hu, e, k⟩ => by
  cases t <;> cases u <;> first | (cases e; done) | skip
  · obtain ⟨rfl, _⟩ := ht.int'; obtain ⟨rfl, _⟩ := hu.int'
    cases e
    exact ⟨_, ip_add, _, _, rfl, rfl, k _ (.int fun _ x => x)⟩
theorem ipr_sub : PIp X .Sub (rIP X.K .sub) := pip_any fun x y H Q ⟨F, t, u, p, q, r, ex, ht, hu, e, k⟩ => by
  cases t <;> cases u <;> first | (cases e; done) | skip
  · obtain ⟨rfl, _⟩ := ht.int'; obtain ⟨rfl, _⟩ := hu.int'
    cases e
    exact ⟨_, ip_sub, _, _, rfl, rfl, k _ (.int fun _ x => x)⟩
theorem iop_F {o : O2} {t u r : T} (h : iop o t u = some r) : isF t = true := by
  cases o <;> cases t <;> first | (cases h; done) | rfl
theorem ss_aug {i : Nat} {n : Str} {op : Operator} {o : O2} {pos' : Pos} (hN : X.N.Nodup) (hi : X.N[i]? = some n) (hx : Loc X.env.scope n) (hf : X.fn n = true ∨ X.env.scope.names.lookup n = some .local) (ho : PIp X op (rIP X.K o)) (he : Sd X P x e') : PS X (.AugAssign (.Name n pos') op x pos) (tevS X.K P (.aug i o e')) :=
  ps_imp (ps_aug hN hi hx (he.v .e (by decide)) ho hf) fun D σ H ⟨F, sl, p, fl, sl', ex, S, e, k⟩ => by
    simp only [evS, Option.bind_eq_some_iff] at e
    obtain ⟨t, e1, ⟨u, sl1⟩, e2, z, e3, e4⟩ := e
    cases e4
    obtain ⟨v, q, g, R, sub⟩ := S.peek e1
    have f := iop_F e3
    have R0 : Rep X.K F H t v nop := R.cg fun b => ⟨fun x => R.of_isF f b x, fun x => x.elim⟩
    refine ⟨v, g, F, sl, p, u, sl1, ex, S, e2, fun w F1 H1 pv1 p1 ex1 S1 R1 dj1 st1 => ⟨F1, t, u, nop, pv1, z, ex1, R0.upF st1.ex, R1, e3, fun y Ry => ?_⟩⟩
    obtain ⟨p2, sub2, S2⟩ := S1.store i Ry fun _ x => x.elim
    exact k _ F1 H1 p2 (Keep.set.mono fun j h => by simp only [stS]; exact h) ex1 S2 (st1.sub fun a x => .inr ((sub2 a x).elim (fun z => z.elim) id))
/-! ### loops -/
theorem whlGo_some {c : SL → Option (T × SL)} {b : SL → Out} {m : Nat} {sl : SL} {z : Fl × SL} (h : whlGo c b m sl = some z) : ∃ n k sl1, m = n + 1 ∧ c sl = some (.bl k, sl1) ∧ ((k = false ∧ z = (.nx, sl1)) ∨ (k = true ∧ ∃ fl sl2, b sl1 = some (fl, sl2) ∧ (match fl with
    | .nx => whlGo c b n sl2 = some z
    | .ct => whlGo c b n sl2 = some z
    | .bk => z = (.nx, sl2)
    | .rt t => z = (.rt t, sl2)))) := by
  cases m with
  | zero => cases h
  | succ n =>
    unfold whlGo at h
    obtain ⟨⟨t, sl1⟩, e1, h⟩ := Option.bind_eq_some_iff.mp h
    cases t <;> first | (cases h; done) | skip
    rename_i k
    refine ⟨n, k, sl1, rfl, e1, ?_⟩
    cases k with
    | false => cases h; exact .inl ⟨rfl, rfl⟩
    | true =>
      have h' : ((b sl1).bind fun z => match z.1 with
        | .nx => whlGo c b n z.2
        | .ct => whlGo c b n z.2
        | .bk => some (Fl.nx, z.2)
        | .rt t => some (.rt t, z.2)) = some z := h
      obtain ⟨⟨fl, sl2⟩, e2, h2⟩ := Option.bind_eq_some_iff.mp h'
      refine .inr ⟨rfl, fl, sl2, e2, ?_⟩
      cases fl with
      | nx => exact h2
      | ct => exact h2
      | bk => exact (Option.some.inj h2).symm
      | rt t => exact (Option.some.inj h2).symm
theorem ss_whl (hp : PassesOwn (model X.prog X.w) X.A X.env X.xe) (hc : Sd X P c c') (hb : PSs X sts (tevSs X.K P ss)) : PS X (.While c sts [] pos) (tevS X.K P (.whl c' ss)) :=
  ps_imp (ps_while hp hc.t hb) fun D σ H ⟨F, sl, p, fl, sl', ex, S, e, k⟩ => by
    simp only [evS] at e
    have k : KS X.K p F H σ (stSs ss) fl sl' D := by
      have := k
      simp only [stS] at this
      exact this
    refine ⟨fun m σ H => ∃ F sl p, whlGo (ev P .t c') (evSs P ss) m sl = some (fl, sl') ∧ Ex F H ∧ SlR X.K F H sl σ p ∧ KS X.K p F H σ (stSs ss) fl sl' D, ⟨fuel, F, sl, p, e, ex, S, k⟩, ?_⟩
    rintro m σ1 H1 ⟨F1, sl1, p1, e1, ex1, S1, k1⟩
    obtain ⟨n, b, sl2, rfl, e2, e3⟩ := whlGo_some e1
    refine ⟨F1, sl1, p1, b, sl2, ex1, S1, e2, fun F2 H2 p2 ex2 S2 st2 => ?_⟩
    have k2 := k1.after Keep.refl st2
    rcases e3 with ⟨rfl, e3⟩ | ⟨rfl, fl2, sl3, e3, e4⟩
    · cases e3
      exact k2 σ1 F2 H2 p2 Keep.refl ex2 S2 Stp.refl
    · refine ⟨fun σ H => ∃ F sl p, whlGo (ev P .t c') (evSs P ss) n sl = some (fl, sl') ∧ Ex F H ∧ SlR X.K F H sl σ p ∧ KS X.K p F H σ (stSs ss) fl sl' D, fun σ' H' h => ⟨n, Nat.lt_succ_self n, h⟩, F2, sl2, p2, fl2, sl3, ex2, S2, e3, ?_⟩
      cases fl2 with
      | nx => exact fun σ' F' H' p' kp ex' S' st' => ⟨F', sl3, p', e4, ex', S', k2.after kp st'⟩
      | ct => exact fun σ' F' H' p' kp ex' S' st' => ⟨F', sl3, p', e4, ex', S', k2.after kp st'⟩
      | bk => cases e4; exact k2
      | rt t => cases e4; exact k2
theorem forGo_cons {set : T → SL → Option SL} {b : SL → Out} {x : T} {xs : List T} {sl : SL} {z : Fl × SL} (h : forGo set b (x :: xs) sl = some z) : ∃ sl1 fl sl2, set x sl = some sl1 ∧ b sl1 = some (fl, sl2) ∧ (match fl with
    | .nx => forGo set b xs sl2 = some z
    | .ct => forGo set b xs sl2 = some z
    | .bk => z = (.nx, sl2)
    | .rt t => z = (.rt t, sl2)) := by
  unfold forGo at h
  obtain ⟨sl1, e1, h⟩ := Option.bind_eq_some_iff.mp h
  obtain ⟨⟨fl, sl2⟩, e2, h2⟩ := Option.bind_eq_some_iff.mp h
  refine ⟨sl1, fl, sl2, e1, e2, ?_⟩
  cases fl with
  | nx => exact h2
  | ct => exact h2
  | bk => exact (Option.some.inj h2).symm
  | rt t => exact (Option.some.inj h2).symm
theorem ss_for {iter : Expr} {it : Pv.It} (hp : PassesOwn (model X.prog X.w) X.A X.env X.xe) (hc : X.calm = true) (hi : PI X tg iter (tevI X.K P it)) (hg : PG X tg (tevG X.K (stG g) (setG P g))) (hb : PSs X sts (tevSs X.K P ss)) (hs : ∀ x, foldedSetIterable iter X.env x = pure x) : PS X (.For tg iter sts [] pos) (tevS X.K P (.forr g it ss)) :=
  ps_imp (ps_for hp hc hi hg hb hs) fun D σ H ⟨F, sl, p, fl, sl', ex, S, e, k⟩ => by
    simp only [evS, Option.bind_eq_some_iff] at e
    obtain ⟨⟨xs, sl1⟩, e1, e2⟩ := e
    have k : KS X.K p F H σ (stG g ++ stSs ss) fl sl' D := by
      have := k
      simp only [stS] at this
      exact this
    refine ⟨F, sl, p, xs, sl1, ex, S, e1, fun J F1 H1 p1 wk ex1 S1 st1 => ?_⟩
    refine ⟨fun i m σ H => ∃ F sl p, i ≤ xs.length ∧ m = xs.length - i ∧ forGo (setG P g) (evSs P ss) (xs.drop i) sl = some (fl, sl') ∧ Ex F1 F ∧ Ex F H ∧ SlR X.K F H sl σ p ∧ KS X.K p F H σ (stG g ++ stSs ss) fl sl' D, ⟨_, F1, sl1, p1, Nat.zero_le _, rfl, e2, Evl.Ex.refl F1, ex1, S1, k.after Keep.refl st1⟩, ?_⟩
    rintro i m σ2 H2 ⟨F2, sl2, p2, hi, rfl, e3, f12, ex2, S2, k2⟩
    by_cases hl : i < xs.length
    · refine .inr ?_
      obtain ⟨x, hx⟩ : ∃ x, xs[i]? = some x := ⟨xs[i], by simp [hl]⟩
      obtain ⟨g1, g2⟩ := wk.go i x F2 H2 hx f12 ex2
      have ed : xs.drop i = x :: xs.drop (i + 1) := by
        obtain ⟨h1, h2⟩ := List.getElem?_eq_some_iff.mp hx
        rw [← h2]; exact List.drop_eq_getElem_cons h1
      rw [ed] at e3
      obtain ⟨sl3, fl4, sl4, e4, e5, e6⟩ := forGo_cons e3
      refine ⟨g1, fun σ H => ∃ F sl p, forGo (setG P g) (evSs P ss) (xs.drop (i + 1)) sl = some (fl, sl') ∧ Ex F1 F ∧ Ex F H ∧ SlR X.K F H sl σ p ∧ KS X.K p F H σ (stG g ++ stSs ss) fl sl' D, fun σ' H' ⟨F, sl, p, h⟩ => ⟨xs.length - (i + 1), by omega, F, sl, p, hl, rfl, h⟩, fun v H3 y => ?_⟩
      obtain ⟨F3, ex3, R3, st3⟩ := g2 v H3 y
      obtain ⟨a1, a2, a3⟩ := st3.frame S2.own fun _ x => x.elim
      have st23 : Stp p2 F2 H2 p2 F3 H3 := (a3.cg fun a => ⟨fun x => x.elim (fun z => z.elim) id, .inr⟩).sub fun a x => .inr x
      have k3 := k2.after Keep.refl st23
      refine ⟨F3, x, nop, sl2, p2, sl3, ex3, R3, S2.frame st3.ex a1, fun _ x => x.elim, e4, fun σ4 F4 H4 p4 kp ex4 S4 st4 => ?_⟩
      have k4 := k3.after (kp.mono fun i h => List.mem_append_left _ h) (st4.cg fun a => ⟨fun x => x.elim (fun z => z.elim) id, .inr⟩)
      refine ⟨F4, sl3, p4, fl4, sl4, ex4, S4, e5, ?_⟩
      have fx : Ex F1 F4 := f12.trans (st23.ex.trans st4.ex)
      have mr : ∀ i ∈ stSs ss, i ∈ stG g ++ stSs ss := fun i h => List.mem_append_right _ h
      cases fl4 with
      | nx => exact fun σ' F' H' p' kp ex' S' st' => ⟨F', sl4, p', e6, fx.trans st'.ex, ex', S', k4.after (kp.mono mr) st'⟩
      | ct => exact fun σ' F' H' p' kp ex' S' st' => ⟨F', sl4, p', e6, fx.trans st'.ex, ex', S', k4.after (kp.mono mr) st'⟩
      | bk => cases e6; exact KN.mono k4 mr
      | rt t => cases e6; exact KR.mono k4 mr
    · refine .inl ?_
      obtain rfl : i = xs.length := by omega
      refine ⟨wk.stop F2 H2 f12 ex2, ?_⟩
      rw [List.drop_length] at e3
      cases e3
      exact k2 σ2 F2 H2 p2 Keep.refl ex2 S2 Stp.refl
end
end Pv

/-! Places. -/
namespace Pv
open PySem L2 PyProof.Rows
def notT (o : HO) : Prop := ∀ xs, o ≠ .tup xs ∧ ∀ u, o ≠ .frz u (.tup xs)
section
variable {K : PySem.W.Frag} {F F' H H' : Hp} {σ : L2.St} {sl sl' : SL} {p p' q r s : FP}
theorem dho_notT {kd : Bool} {ks : List (List Key)} {xs : List V} : notT (dho kd ks xs) := fun ys => by
  cases kd <;> exact ⟨(nomatch ·), fun _ => (nomatch ·)⟩
mutual
theorem Rep.kind : ∀ {t v p}, Rep K F H t v p → ∀ a, p a → ∃ o, H a = some o ∧ notT o
  | _, _, _, .hole e, a, x => (e a x).elim
  | _, _, _, .non e, a, x => (e a x).elim
  | _, _, _, .bl e, a, x => (e a x).elim
  | _, _, _, .int e, a, x => (e a x).elim
  | _, _, _, .str e, a, x => (e a x).elim
  | _, _, _, .tup s r, a, x => Reps.kind r a x
  | _, _, _, .lstF s r, a, x => Reps.kind r a x
  | _, _, _, .lstO n h r d e, a, x => ((e a).mp x).elim (fun z => z ▸ ⟨_, h, fun ys => ⟨(nomatch ·), fun _ => (nomatch ·)⟩⟩) (Reps.kind r a)
  | _, _, _, .dctF h w r, a, x => Reps.kind r a x
  | _, _, _, .dctL h w r, a, x => Reps.kind r a x
  | _, _, _, .dctO n h w r d e, a, x => ((e a).mp x).elim (fun z => z ▸ ⟨_, h, dho_notT⟩) (Reps.kind r a)
  | _, _, _, .insF h w r, a, x => Reps.kind r a x
  | _, _, _, .insO n h w r d e, a, x => ((e a).mp x).elim (fun z => z ▸ ⟨_, h, fun ys => ⟨(nomatch ·), fun _ => (nomatch ·)⟩⟩) (Reps.kind r a)
theorem Reps.kind : ∀ {ts vs p}, Reps K F H ts vs p → ∀ a, p a → ∃ o, H a = some o ∧ notT o
  | _, _, _, .nil e, a, x => (e a x).elim
  | _, _, _, .cons h hs _ e, a, x => ((e a).mp x).elim (Rep.kind h a) (Reps.kind hs a)
end
theorem SlR.kind (S : SlR K F H sl σ p) : ∀ a, p a → ∃ o, H a = some o ∧ notT o := let ⟨_, h, _⟩ := S; h.kind
section
open Classical in
/-- the borrowed given back -/
noncomputable def unF (F2 : Hp) (p : FP) : Hp := fun a => if p a then none else F2 a
end
theorem unF_in {F2 : Hp} {a : Addr} (h : p a) : unF F2 p a = none := if_pos h
theorem unF_out {F2 : Hp} {a : Addr} (h : ¬ p a) : unF F2 p a = F2 a := if_neg h
theorem SqT.un {a : Addr} {xs : List V} {F2 H2 : Hp} (ex : Ex F2 H2) (kd : ∀ a, p a → ∃ o, H2 a = some o ∧ notT o) (s : SqT K F2 a xs) : SqT K (unF F2 p) a xs := by
  rcases s with (h | ⟨o, h⟩) | h
  · refine .inl (.inl ?_)
    rw [unF_out fun z => ?_]
    · exact h
    · obtain ⟨o, e, n⟩ := kd a z
      rw [ex _ _ h] at e; cases e
      exact (n xs).1 rfl
  · refine .inl (.inr ⟨o, ?_⟩)
    rw [unF_out fun z => ?_]
    · exact h
    · obtain ⟨o', e, n⟩ := kd a z
      rw [ex _ _ h] at e; cases e
      exact (n xs).2 _ rfl
  · exact .inr h
mutual
theorem Rep.flat {F2 H2 : Hp} (ex : Ex F2 H2) (kd : ∀ a, p a → ∃ o, H2 a = some o ∧ notT o) : ∀ {t v q}, Pv.flat t = true → Rep K F2 H2 t v q → Rep K (unF F2 p) H2 t v q
  | _, _, _, f, .hole e => by cases f
  | _, _, _, f, .non e => .non e
  | _, _, _, f, .bl e => .bl e
  | _, _, _, f, .int e => .int e
  | _, _, _, f, .str e => .str e
  | _, _, _, f, .tup s r => .tup (SqT.un ex kd s) (Reps.flat ex kd (by simpa only [Pv.flat] using f) r)
  | _, _, _, f, .lstF s r => by cases f
  | _, _, _, f, .lstO (a := a) n h r d e => .lstO (by
      by_cases z : p a
      · exact unF_in z
      · rw [unF_out z]; exact n) h (Reps.flat ex kd (by simpa only [Pv.flat] using f) r) d e
  | _, _, _, f, .dctF h w r => by cases f
  | _, _, _, f, .dctL h w r => by cases f
  | _, _, _, f, .dctO n h w r d e => by cases f
  | _, _, _, f, .insF h w r => by cases f
  | _, _, _, f, .insO n h w r d e => by cases f
theorem Reps.flat {F2 H2 : Hp} (ex : Ex F2 H2) (kd : ∀ a, p a → ∃ o, H2 a = some o ∧ notT o) : ∀ {ts vs q}, Pv.flats ts = true → Reps K F2 H2 ts vs q → Reps K (unF F2 p) H2 ts vs q
  | _, _, _, f, .nil e => .nil e
  | _, _, _, f, .cons h hs d e => .cons (Rep.flat ex kd (by simp only [Pv.flats, Bool.and_eq_true] at f; exact f.1) h) (Reps.flat ex kd (by simp only [Pv.flats, Bool.and_eq_true] at f; exact f.2) hs) d e
end
theorem unthaw {F2 H2 : Hp} (own : ∀ a, p a → F a = none ∧ ∃ o, H a = some o) (st : Stp nop (frF F H p) H q F2 H2) (ex2 : Ex F2 H2) : Ex (unF F2 p) H2 ∧ Stp nop F H q (unF F2 p) H2 := by
  refine ⟨fun a o h => ?_, fun a o h => ?_, fun a o h _ => st.keep a o h fun x => x, fun a o h _ => ?_, st.own⟩
  · by_cases z : p a
    · rw [unF_in z] at h; cases h
    · rw [unF_out z] at h; exact ex2 a o h
  · by_cases z : p a
    · rw [(own a z).1] at h; cases h
    · rw [unF_out z]
      exact st.ex a o (by rw [frF_out z]; exact h)
  · by_cases z : p a
    · rw [unF_in z]
      exact (own a z).1.symm
    · rw [unF_out z, st.grow a o h fun x => x, frF_out z]
end
/-- a read-only reading -/
def tevB (K : PySem.W.Frag) (P : Pg) (e : E) : TE := fun σ H Q => ∃ F sl p t, Ex F H ∧ SlR K F H sl σ p ∧ bor2 (vars e) (ev P .e e) sl = some t ∧ ∀ v F' H' pv, Ex F' H' → Rep K F' H' t v pv → Stp nop F H pv F' H' → Q v H'
def tevBs (K : PySem.W.Frag) (P : Pg) (es : Es) : TA := fun σ H Q => ∃ F sl p ts, Ex F H ∧ SlR K F H sl σ p ∧ evBs P es sl = some ts ∧ ∀ vs F' H' pv, Ex F' H' → Reps K F' H' ts vs pv → Stp nop F H pv F' H' → Q vs H'
section
variable {X : Cx} {P : Pg} {a b c x y : Expr} {xs : List Expr} {a' b' c' e : E} {es : Es} {pos : Pos}
theorem sd_bor (h : Sd X P x e) : PE X x (tevB X.K P e) := pe_imp (h.v .e (by decide)) fun σ H Q ⟨F, sl, p, t, ex, S, e0, k⟩ => by
  unfold bor2 at e0
  generalize hz : ((vars e).all fun i => match sl[i]? with
    | some t => isF t
    | none => true) = z at e0
  cases z with
  | true =>
    rw [if_pos rfl] at e0
    obtain ⟨r, e1, e2⟩ := Option.bind_eq_some_iff.mp e0
    cases e2
    exact ⟨F, fro sl, nop, r.1, r.2, ex, S.fro, e1, fun v F' H' pv p' ex' S' R' dj st => k v F' H' pv ex' R' (st.sub fun a x => .inl x)⟩
  | false =>
    rw [if_neg (by decide)] at e0
    obtain ⟨r, e1, e2⟩ := Option.bind_eq_some_iff.mp e0
    by_cases f : Pv.flat r.1 = true
    · rw [if_pos f] at e2; cases e2
      refine ⟨frF F H p, brw sl, nop, r.1, r.2, frF_sub ex, S.brw, e1, fun v F2 H2 pv p2 ex2 S2 R2 d2 st2 => ?_⟩
      obtain ⟨g1, g2⟩ := unthaw S.own st2 ex2
      refine k v (unF F2 p) H2 pv g1 (R2.flat ex2 (fun a x => ?_) f) (g2.sub fun a x => .inl x)
      obtain ⟨o, e, n⟩ := S.kind a x
      exact ⟨o, st2.keep a o e fun x => x, n⟩
    · rw [if_neg f] at e2; cases e2
theorem sdbs_nil : PA X [] (tevBs X.K P .nil) := pa_imp pa_nil fun σ H Q ⟨F, sl, p, ts, ex, S, e, k⟩ => by
  simp only [evBs] at e
  cases e
  exact k [] F H nop ex (.nil fun _ x => x) Stp.refl
theorem sdbs_cons (ha : Sd X P a a') (hr : PA X xs (tevBs X.K P es)) (hs : starEach (a :: xs) X.env = (false, eval a X.env) :: starEach xs X.env) : PA X (a :: xs) (tevBs X.K P (.cons a' es)) :=
  pa_imp (pa_cons (sd_bor ha) hr hs) fun σ H Q ⟨F, sl, p, ts, ex, S, e, k⟩ => by
    simp only [evBs, Option.bind_eq_some_iff] at e
    obtain ⟨t, e1, ts, e2, e3⟩ := e
    cases e3
    refine ⟨F, sl, p, t, ex, S, e1, fun v F1 H1 pv1 ex1 R1 st1 => ?_⟩
    obtain ⟨a1, a2, a3⟩ := st1.frame S.own fun _ x => x.elim
    refine ⟨F1, sl, p, ts, ex1, S.frame st1.ex a1, e2, fun vs F2 H2 pv2 ex2 R2 st2 => ?_⟩
    obtain ⟨b1, b2, b3⟩ := st2.frame R1.own fun _ x => x.elim
    refine k (v :: vs) F2 H2 _ ex2 (.cons (R1.frame st2.ex b1) R2 (fun a x y => b2 a y x) fun a => Iff.rfl) ?_
    exact (st1.trans ((b3.cg fun a => ⟨fun x => x.elim (fun z => z.elim) id, .inr⟩))).sub fun a x => or_comm.mp x
/-! ### places -/
def Wand (K : PySem.W.Frag) (F H : Hp) (s : FP) (v : V) (put : T → SL) (σ : L2.St) : Prop := (∀ a, s a → F a = none ∧ ∃ o, H a = some o) ∧
  ∀ F2 H2 t' q', Ex F F2 → (∀ a, s a → F2 a = none ∧ H2 a = H a) → Rep K F2 H2 t' v q' → Dj q' s → ∃ p', (∀ a, p' a → q' a ∨ s a) ∧ SlR K F2 H2 (put t') σ p'
theorem Wand.frame {K : PySem.W.Frag} {F H F' H' : Hp} {s : FP} {v : V} {put : T → SL} {σ : L2.St} (w : Wand K F H s v put σ) (ex : Ex F F') (h : ∀ a, s a → F' a = none ∧ H' a = H a) : Wand K F' H' s v put σ :=
  ⟨fun a x => ⟨(h a x).1, (w.1 a x).2.imp fun o e => (h a x).2.trans e⟩, fun F2 H2 t' q' ex2 h2 R dj => w.2 F2 H2 t' q' (ex.trans ex2) (fun a x => ⟨(h2 a x).1, (h2 a x).2.trans (h a x).2⟩) R dj⟩
/-- the place stands, by its value; the slots stand too -/
def tevP (K : PySem.W.Frag) (P : Pg) (e : E) : TE := fun σ H Q => ∃ F sl p t put, Ex F H ∧ SlR K F H sl σ p ∧ plc P e sl = some (t, put) ∧
  ∀ v F' H' q s, Ex F' H' → Rep K F' H' t v q → Dj q s → SlR K F' H' sl σ p → (∀ a, q a ∨ s a → p a) → Wand K F' H' s v put σ → Stp nop F H nop F' H' → Q v H'
section
variable {K : PySem.W.Frag} {F F' H H' : Hp} {σ : L2.St} {sl sl' : SL} {p p' q r s : FP}
theorem setH_same {ts : List T} {j : Nat} {t u : T} (h : ts[j]? = some t) : (ts.set j .hole).set j u = ts.set j u ∧ (ts.set j .hole)[j]? = some .hole := by
  obtain ⟨h1, _⟩ := List.getElem?_eq_some_iff.mp h
  exact ⟨by rw [List.set_set], by rw [List.getElem?_set_self h1]⟩
theorem set_id {xs : List V} {j : Nat} {v : V} (h : xs[j]? = some v) : xs.set j v = xs := by
  obtain ⟨h1, h2⟩ := List.getElem?_eq_some_iff.mp h
  rw [← h2]; exact List.set_getElem_self h1
/-- a child of a list taken out, to be filled again -/
theorem Reps.kid {ts : List T} {xs : List V} {j : Nat} {t : T} (R : Reps K F H ts xs p) (h : ts[j]? = some t) : ∃ w q r, xs[j]? = some w ∧ Rep K F H t w q ∧ Dj q r ∧ (∀ a, p a ↔ q a ∨ r a) ∧
    ∀ F2 H2 u q', Ex F F2 → (∀ a, r a → F2 a = none ∧ H2 a = H a) → Rep K F2 H2 u w q' → Dj q' r → Reps K F2 H2 (ts.set j u) xs (fun a => q' a ∨ r a) := by
  obtain ⟨w, q, r, e1, r1, dj, e2, r2⟩ := R.focus h
  refine ⟨w, q, r, e1, r1, dj, e2, fun F2 H2 u q' ex fr Ru d2 => ?_⟩
  have z := (r2.frame ex fr).put (setH_same (u := u) h).2 Ru d2
  rw [(setH_same h).1, set_id e1] at z
  exact z
theorem Rep.kidL {o : Bool} {ts : List T} {v : V} {j : Nat} {t : T} (R : Rep K F H (.lst o ts) v p) (ex0 : Ex F H) (h : ts[j]? = some t) : ∃ a xs w q r, v = .ref a ∧ Rd H a (.lst xs) ∧ ts.length = xs.length ∧ xs[j]? = some w ∧ Rep K F H t w q ∧ Dj q r ∧ (∀ a, q a ∨ r a → p a) ∧ (∀ a, r a → F a = none ∧ ∃ o, H a = some o) ∧
    ∀ F2 H2 u q', Ex F F2 → (∀ a, r a → F2 a = none ∧ H2 a = H a) → Rep K F2 H2 u w q' → Dj q' r → Rep K F2 H2 (.lst o (ts.set j u)) v (fun a => q' a ∨ r a) := by
  have own := R.own
  cases R with
  | @lstF a xs _ _ s R =>
    obtain ⟨w, q, r, e1, r1, dj, e2, k⟩ := R.kid h
    exact ⟨a, xs, w, q, r, rfl, Evl.ex_rd ex0 s, R.length, e1, r1, dj, fun a x => (e2 a).mpr x, fun a x => own a ((e2 a).mpr (.inr x)), fun F2 H2 u q' ex fr Ru d2 => .lstF (Evl.ex_rd ex s) (k F2 H2 u q' ex fr Ru d2)⟩
  | @lstO a xs _ _ q0 n hH R d e =>
    obtain ⟨w, q, r, e1, r1, dj, e2, k⟩ := R.kid h
    refine ⟨a, xs, w, q, fun b => b = a ∨ r b, rfl, .inl hH, R.length, e1, r1, fun b x y => ?_, fun b x => ?_, fun b x => ?_, fun F2 H2 u q' ex fr Ru d2 => ?_⟩
    · rcases y with rfl | y
      · exact d ((e2 _).mpr (.inl x))
      · exact dj b x y
    · rcases x with x | rfl | x
      · exact (e b).mpr (.inr ((e2 b).mpr (.inl x)))
      · exact (e b).mpr (.inl rfl)
      · exact (e b).mpr (.inr ((e2 b).mpr (.inr x)))
    · rcases x with rfl | x
      · exact own b ((e b).mpr (.inl rfl))
      · exact own b ((e b).mpr (.inr ((e2 b).mpr (.inr x))))
    · obtain ⟨f1, f2⟩ := fr a (.inl rfl)
      refine .lstO f1 (f2.trans hH) (k F2 H2 u q' ex (fun b x => fr b (.inr x)) Ru fun b x y => d2 b x (.inr y)) (fun x => ?_) fun b => ?_
      · rcases x with x | x
        · exact d2 a x (.inl rfl)
        · exact d ((e2 a).mpr (.inr x))
      · exact or_left_comm
theorem Rep.kidT {ts : List T} {v : V} {j : Nat} {t : T} (R : Rep K F H (.tup ts) v p) (ex0 : Ex F H) (h : ts[j]? = some t) : ∃ a xs w q r, v = .ref a ∧ SqT K H a xs ∧ ts.length = xs.length ∧ xs[j]? = some w ∧ Rep K F H t w q ∧ Dj q r ∧ (∀ a, q a ∨ r a → p a) ∧ (∀ a, r a → F a = none ∧ ∃ o, H a = some o) ∧
    ∀ F2 H2 u q', Ex F F2 → (∀ a, r a → F2 a = none ∧ H2 a = H a) → Rep K F2 H2 u w q' → Dj q' r → Rep K F2 H2 (.tup (ts.set j u)) v (fun a => q' a ∨ r a) := by
  have own := R.own
  cases R with
  | @tup a xs _ _ s R =>
    obtain ⟨w, q, r, e1, r1, dj, e2, k⟩ := R.kid h
    exact ⟨a, xs, w, q, r, rfl, Evl.ex_t ex0 s, R.length, e1, r1, dj, fun a x => (e2 a).mpr x, fun a x => own a ((e2 a).mpr (.inr x)), fun F2 H2 u q' ex fr Ru d2 => .tup (Evl.ex_t ex s) (k F2 H2 u q' ex fr Ru d2)⟩
theorem Rep.kidI {o : Bool} {c : Str} {ns : List Str} {ts : List T} {v : V} {j : Nat} {t : T} (R : Rep K F H (.ins o c ns ts) v p) (ex0 : Ex F H) (h : ts[j]? = some t) : ∃ a dx fs w q r, v = .ref a ∧ H a = some (.ins (He.ga K c) dx fs) ∧ fs.map (·.1) = ns ∧ (fs.map (·.2))[j]? = some w ∧ Rep K F H t w q ∧ Dj q r ∧ (∀ a, q a ∨ r a → p a) ∧ (∀ a, r a → F a = none ∧ ∃ o, H a = some o) ∧
    ∀ F2 H2 u q', Ex F F2 → (∀ a, r a → F2 a = none ∧ H2 a = H a) → Rep K F2 H2 u w q' → Dj q' r → Rep K F2 H2 (.ins o c ns (ts.set j u)) v (fun a => q' a ∨ r a) := by
  have own := R.own
  cases R with
  | @insF a dx _ fs _ _ _ hF hw R =>
    obtain ⟨w, q, r, e1, r1, dj, e2, k⟩ := R.kid h
    exact ⟨a, dx, fs, w, q, r, rfl, ex0 _ _ hF, hw, e1, r1, dj, fun a x => (e2 a).mpr x, fun a x => own a ((e2 a).mpr (.inr x)), fun F2 H2 u q' ex fr Ru d2 => .insF (ex _ _ hF) hw (k F2 H2 u q' ex fr Ru d2)⟩
  | @insO a dx _ fs _ _ _ q0 n hH hw R d e =>
    obtain ⟨w, q, r, e1, r1, dj, e2, k⟩ := R.kid h
    refine ⟨a, dx, fs, w, q, fun b => b = a ∨ r b, rfl, hH, hw, e1, r1, fun b x y => ?_, fun b x => ?_, fun b x => ?_, fun F2 H2 u q' ex fr Ru d2 => ?_⟩
    · rcases y with rfl | y
      · exact d ((e2 _).mpr (.inl x))
      · exact dj b x y
    · rcases x with x | rfl | x
      · exact (e b).mpr (.inr ((e2 b).mpr (.inl x)))
      · exact (e b).mpr (.inl rfl)
      · exact (e b).mpr (.inr ((e2 b).mpr (.inr x)))
    · rcases x with rfl | x
      · exact own b ((e b).mpr (.inl rfl))
      · exact own b ((e b).mpr (.inr ((e2 b).mpr (.inr x))))
    · obtain ⟨f1, f2⟩ := fr a (.inl rfl)
      refine .insO f1 (f2.trans hH) hw (k F2 H2 u q' ex (fun b x => fr b (.inr x)) Ru fun b x y => d2 b x (.inr y)) (fun x => ?_) fun b => ?_
      · rcases x with x | x
        · exact d2 a x (.inl rfl)
        · exact d ((e2 a).mpr (.inr x))
      · exact or_left_comm
/-- the wand of a child -/
theorem Wand.kid {v w : V} {put : T → SL} {f : T → T} {q r : FP} (W : Wand K F H s v put σ) (dj : Dj (fun a => q a ∨ r a) s) (own : ∀ a, r a → F a = none ∧ ∃ o, H a = some o)
    (k : ∀ F2 H2 u q', Ex F F2 → (∀ a, r a → F2 a = none ∧ H2 a = H a) → Rep K F2 H2 u w q' → Dj q' r → Rep K F2 H2 (f u) v (fun a => q' a ∨ r a)) : Wand K F H (fun a => r a ∨ s a) w (fun u => put (f u)) σ :=
  ⟨fun a x => x.elim (own a) (W.1 a), fun F2 H2 t' q' ex fr Rt d2 => by
    obtain ⟨p', sub, S⟩ := W.2 F2 H2 (f t') _ ex (fun a x => fr a (.inr x)) (k F2 H2 t' q' ex (fun a x => fr a (.inl x)) Rt fun a x y => d2 a x (.inl y)) fun a x y => x.elim (fun z => d2 a z (.inr y)) fun z => dj a (.inr z) y
    exact ⟨p', fun a x => (sub a x).elim (fun z => z.elim .inl fun w => .inr (.inl w)) fun z => .inr (.inr z), S⟩⟩
end
structure SdP (X : Cx) (P : Pg) (x : Expr) (e : E) : Prop where
  v : PE X x (tevP X.K P e)
theorem sp_var {i : Nat} {n : Str} (hN : X.N[i]? = some n) (hv : Vis X.env.scope n) (hd : (n == ("__debug__" : Str)) = false) (hcd : (n == ("__classdict__" : Str)) = false) : SdP X P (.Name n pos) (.var i) :=
  ⟨pe_imp (pe_var hN hv hd hcd) fun σ H Q ⟨F, sl, p, t, put, ex, S, e, k⟩ => by
    simp only [plc, Option.bind_eq_some_iff] at e
    obtain ⟨u, e1, e2⟩ := e
    cases e2
    obtain ⟨v, q, r, g, R, dj, ep, S1⟩ := S.take e1
    refine ⟨v, g, k v F H q r ex R dj S (fun a x => (ep a).mpr x) ⟨S1.own, fun F2 H2 t' q' ex2 fr Rt d2 => ?_⟩ Stp.refl⟩
    have z := (S1.frame ex2 fr).put (set_hole_put e1) g Rt d2
    rw [List.set_set] at z
    exact ⟨_, fun a x => x, z⟩⟩
theorem sp_fld {f : Str} (C : ClsOk X.K P) (ha : SdP X P a a') (hb : attributeBase a f X.env (eval a X.env) = eval a X.env) : SdP X P (.Attribute a f pos) (.fld a' f) :=
  ⟨pe_imp (pe_fld ha.v hb) fun σ H Q ⟨F, sl, p, t, put, ex, S, e, k⟩ => by
    simp only [plc, Option.bind_eq_some_iff] at e
    obtain ⟨⟨t1, put1⟩, e1, e2⟩ := e
    cases t1 <;> first | (cases e2; done) | skip
    rename_i o c ns ts
    have e2' : (if P.fd c f then (ns.idxOf? f).bind fun j => (ts[j]?).bind fun t => some (t, fun u => put1 (.ins o c ns (ts.set j u))) else none) = some (t, put) := e2
    by_cases hf : P.fd c f = true
    · rw [if_pos hf] at e2'
      obtain ⟨j, e3, e4⟩ := Option.bind_eq_some_iff.mp e2'
      obtain ⟨t0, e5, e6⟩ := Option.bind_eq_some_iff.mp e4
      cases e6
      obtain ⟨c1, c2⟩ := C.fd c f hf
      refine ⟨F, sl, p, _, put1, ex, S, e1, fun v F' H' q s ex' R dj S' sub W st => ?_⟩
      obtain ⟨a0, dx, fs, w, q2, r2, rfl, hH, hw, g1, R2, dj2, sub2, own2, k2⟩ := R.kidI ex' e5
      refine ⟨a0, _, dx, fs, w, rfl, hH, c1, c2, lookup_idx (hw ▸ e3) g1, ?_⟩
      exact k w F' H' q2 _ ex' R2 (fun a x y => y.elim (dj2 a x) fun z => dj a (sub2 a (.inl x)) z) S' (fun a x => sub a (x.elim (fun z => .inl (sub2 a (.inl z))) fun z => z.elim (fun w => .inl (sub2 a (.inr w))) .inr)) (W.kid (fun a x y => dj a (sub2 a x) y) own2 k2) st
    · rw [if_neg hf] at e2'; cases e2'⟩
theorem sp_idx (ha : SdP X P a a') (hb : Sd X P b b') (hs : PlainIx b) : SdP X P (.Subscript a b pos) (.idx a' b') :=
  ⟨pe_any fun σ H Q ⟨F, sl, p, t, put, ex, S, e, k⟩ => by
    simp only [plc, Option.bind_eq_some_iff] at e
    obtain ⟨⟨t1, put1⟩, e1, ⟨y, sly⟩, e2, e3⟩ := e
    have key : ∀ {i : Int}, y = .int i → ∀ {F' H' : Hp} {G : VK}, Ex F' H' → SlR X.K F' H' sl σ p → (∀ F2 H2, Ex F2 H2 → Stp nop F' H' nop F2 H2 → G (.int i) H2) → tev X.K P .o b' σ H' G := fun {i} hy {F' H' G} ex' S' kk => by
      subst hy
      exact borrow ex' S' e2 rfl fun v2 F2 H2 ex2 R2 st2 => by
        obtain ⟨rfl, _⟩ := R2.int'
        exact kk F2 H2 ex2 st2
    cases t1 <;> cases y <;> first | (cases e3; done) | skip
    · rename_i ts i
      obtain ⟨j, e4, e5⟩ := Option.bind_eq_some_iff.mp e3
      obtain ⟨t0, e6, e7⟩ := Option.bind_eq_some_iff.mp e5
      cases e7
      refine ⟨_, pe_ix ix_tup ha.v (hb.v .o (by decide)) hs, F, sl, p, _, put1, ex, S, e1, fun v F' H' q s ex' R dj S' sub W st => ?_⟩
      refine key (i := i) rfl ex' S' fun F2 H2 ex2 st2 => ?_
      obtain ⟨a1, a2, a3⟩ := st2.frame S'.own fun _ x => x.elim
      have R' := R.frame st2.ex fun a x => a1 a (sub a (.inl x))
      have W' := W.frame st2.ex fun a x => a1 a (sub a (.inr x))
      obtain ⟨a0, xs, w, q2, r2, rfl, hH, hl, g1, R2, dj2, sub2, own2, k2⟩ := R'.kidT ex2 e6
      refine ⟨a0, xs, _, w, rfl, rfl, hH, by unfold L2.atI; rw [← hl, e4]; exact g1, ?_⟩
      exact k w F2 H2 q2 _ ex2 R2 (fun a x y => y.elim (dj2 a x) fun z => dj a (sub2 a (.inl x)) z) (S'.frame st2.ex a1) (fun a x => sub a (x.elim (fun z => .inl (sub2 a (.inl z))) fun z => z.elim (fun w => .inl (sub2 a (.inr w))) .inr)) (W'.kid (fun a x y => dj a (sub2 a x) y) own2 k2) (st.trans st2)
    · rename_i o ts i
      obtain ⟨j, e4, e5⟩ := Option.bind_eq_some_iff.mp e3
      obtain ⟨t0, e6, e7⟩ := Option.bind_eq_some_iff.mp e5
      cases e7
      refine ⟨_, pe_ix ix_list ha.v (hb.v .o (by decide)) hs, F, sl, p, _, put1, ex, S, e1, fun v F' H' q s ex' R dj S' sub W st => ?_⟩
      refine key (i := i) rfl ex' S' fun F2 H2 ex2 st2 => ?_
      obtain ⟨a1, a2, a3⟩ := st2.frame S'.own fun _ x => x.elim
      have R' := R.frame st2.ex fun a x => a1 a (sub a (.inl x))
      have W' := W.frame st2.ex fun a x => a1 a (sub a (.inr x))
      obtain ⟨a0, xs, w, q2, r2, rfl, hH, hl, g1, R2, dj2, sub2, own2, k2⟩ := R'.kidL ex2 e6
      refine ⟨a0, xs, _, w, rfl, rfl, .inl hH, by unfold L2.atI; rw [← hl, e4]; exact g1, ?_⟩
      exact k w F2 H2 q2 _ ex2 R2 (fun a x y => y.elim (dj2 a x) fun z => dj a (sub2 a (.inl x)) z) (S'.frame st2.ex a1) (fun a x => sub a (x.elim (fun z => .inl (sub2 a (.inl z))) fun z => z.elim (fun w => .inl (sub2 a (.inr w))) .inr)) (W'.kid (fun a x y => dj a (sub2 a x) y) own2 k2) (st.trans st2)⟩
end
end Pv

/-! Stores at places; methods that change a place. -/
namespace Pv
open PySem L2 PyProof.Rows
section
variable {K : PySem.W.Frag} {F F' H H' : Hp} {σ : L2.St} {sl sl' : SL} {p p' q r s : FP}
theorem setL {ts : List T} {v v' : V} {j : Nat} {t : T} {pv : FP} (ex : Ex F H) (R : Rep K F H (.lst true ts) v q) (Rt : Rep K F H t v' pv) (dj : Dj pv q) (hj : j < ts.length) :
    ∃ a xs p', v = .ref a ∧ H a = some (.lst xs) ∧ ts.length = xs.length ∧ Ex F (upd H a (.lst (xs.set j v'))) ∧ Rep K F (upd H a (.lst (xs.set j v'))) (.lst true (ts.set j t)) v p' ∧ Stp (fun b => pv b ∨ q b) F H p' F (upd H a (.lst (xs.set j v'))) := by
  cases R with
  | @lstO a xs _ _ q0 n h R d e =>
    obtain ⟨w0, qi, ri, g1, R1, dji, ei, Ri⟩ := R.focus (i := j) (t := ts[j]) (by simp [hj])
    have R2 := Ri.put (i := j) (t := t) (v := v') (q := pv) (by rw [List.getElem?_set_self hj]) Rt fun b x y => dj b x ((e b).mpr (.inr ((ei b).mpr (.inr y))))
    rw [List.set_set] at R2
    have own : ∀ b, (q0 b ∨ pv b) → F b = none ∧ ∃ o, H b = some o := fun b x => x.elim (R.own b) (Rt.own b)
    have nq : ¬ (q0 a ∨ pv a) := fun x => x.elim d fun y => dj a y ((e a).mpr (.inl rfl))
    obtain ⟨g1, g2, g3⟩ := reown (o' := .lst (xs.set j v')) ex n own nq R2 fun b x => x.elim .inr fun y => .inl ((ei b).mpr (.inr y))
    refine ⟨a, xs, _, rfl, h, R.length, g1, .lstO n upd_same g2 (fun x => nq (x.elim .inr fun y => .inl ((ei a).mpr (.inr y)))) fun b => Iff.rfl, g3.cg fun b => ?_⟩
    rw [e b]
    constructor
    · rintro (x | x | x)
      · exact .inr (.inl x)
      · exact .inr (.inr x)
      · exact .inl x
    · rintro (x | x | x)
      · exact .inr (.inr x)
      · exact .inl x
      · exact .inr (.inl x)
/-- an entry of an owned dict is stored -/
theorem setD {ks : List (List Key)} {ts : List T} {v v' : V} {t : T} {pv : FP} (k : Key) (ex : Ex F H) (R : Rep K F H (.dct .own false ks ts) v q) (Rt : Rep K F H t v' pv) (dj : Dj pv q) (hn : ks.length < sizeLine) :
    ∃ a H' p', v = .ref a ∧ DPut H a (kV k) v' H' ∧ Ex F H' ∧ Rep K F H' (.dct .own false (putD ks ts [k] t).1 (putD ks ts [k] t).2) v p' ∧ Stp (fun b => pv b ∨ q b) F H p' F H' := by
  cases R with
  | @dctO a xs _ _ _ _ q0 n h w R d e =>
    have hl := R.length
    have own : ∀ b, (q0 b ∨ pv b) → F b = none ∧ ∃ o, H b = some o := fun b x => x.elim (R.own b) (Rt.own b)
    have nq : ¬ (q0 a ∨ pv a) := fun x => x.elim d fun y => dj a y ((e a).mpr (.inl rfl))
    have w2 := w.put k ts t hl
    have fin : ∀ {us : List T} {ys : List V} {q' : FP} {ks' : List (List Key)}, Reps K F H us ys q' → (∀ b, q' b → q0 b ∨ pv b) → DW false ks' ys.length → putK ((ks.map key1).zip xs) k v' = (ks'.map key1).zip ys →
        ∃ H' p', DPut H a (kV k) v' H' ∧ Ex F H' ∧ Rep K F H' (.dct .own false ks' us) (.ref a) p' ∧ Stp (fun b => pv b ∨ q b) F H p' F H' := fun {us ys q' ks'} R2 s1 w3 he => by
      obtain ⟨g1, g2, g3⟩ := reown (o' := dho false ks' ys) ex n own nq R2 s1
      refine ⟨_, fun b => b = a ∨ q' b, DPut.k (k := k) (v := v') h (by rw [List.length_zip, List.length_map, w.len, Nat.min_self, ← w.len]; exact hn), ?_, ?_⟩
      · rw [he]; exact g1
      · rw [he]
        refine ⟨.dctO n upd_same w3 g2 (fun x => nq (s1 a x)) fun b => Iff.rfl, g3.cg fun b => ?_⟩
        rw [e b]
        constructor
        · rintro (x | x | x)
          · exact .inr (.inl x)
          · exact .inr (.inr x)
          · exact .inl x
        · rintro (x | x | x)
          · exact .inr (.inr x)
          · exact .inl x
          · exact .inr (.inl x)
    have pk := putK_zip (w.one rfl) w.nd w.len k v'
    unfold putD at w2 ⊢
    cases ei : ks.idxOf? [k] with
    | some j =>
      rw [ei] at pk w2
      have hj := (some_idx ei).1
      have hj2 : j < ts.length := by rw [hl, ← w.len]; exact hj
      obtain ⟨w0, qi, ri, g1, R1, dji, e2, Ri⟩ := R.focus (i := j) (t := ts[j]) (by simp [hj2])
      have R2 := Ri.put (i := j) (t := t) (v := v') (q := pv) (by rw [List.getElem?_set_self hj2]) Rt fun b x y => dj b x ((e b).mpr (.inr ((e2 b).mpr (.inr y))))
      rw [List.set_set] at R2
      obtain ⟨H', p', a1, a2, a3, a4⟩ := fin R2 (fun b x => x.elim .inr fun y => .inl ((e2 b).mpr (.inr y))) (by rw [List.length_set, ← w.len]; exact ⟨rfl, w.one, w.nd⟩) pk
      exact ⟨a, H', p', rfl, a1, a2, a3, a4⟩
    | none =>
      rw [ei] at pk w2
      have R2 := R.app (Reps.one Rt) fun b x y => dj b y ((e b).mpr (.inr x))
      obtain ⟨H', p', a1, a2, a3, a4⟩ := fin R2 (fun b x => x) (by
        have : (xs ++ [v']).length = (ts ++ [t]).length := by simp [hl]
        rw [this]; exact w2) pk
      exact ⟨a, H', p', rfl, a1, a2, a3, a4⟩
theorem ixN_lt {n : Nat} {i : Int} {j : Nat} (h : ixN n i = some j) : j < n := by
  have := ixN_seq h
  obtain ⟨h1, h2, h3, h4⟩ := this
  first
  | omega
  | (unfold ixN at h; split at h <;> (try split at h) <;> cases h <;> omega)
end
theorem get_list {X : Cx} : PGet X (rIxL X.K) := by
  intro pins s σ H x y v u Q I rx ry h
  obtain ⟨p, xs, i, z, rfl, rfl, hq, he, q⟩ := h
  cases rx
  obtain ⟨t, rfl⟩ := ry
  obtain ⟨its, r, pl, hz⟩ := I.list hq
  obtain ⟨j, h1, h2, h3, h4, h5⟩ := atI_get he
  obtain ⟨w, ew, rw'⟩ := r.get h2
  have hl := r.length
  have hn := line63
  have fin : EP X pins σ Q w s := ⟨z, H, I, rw', q⟩
  by_cases h0 : 0 ≤ i
  · have hj : i.toNat = j := by
      rw [seqIndex_of h0 h5] at h1
      exact Option.some.inj h1
    exact wpAny_getItem_list pl.isList h0 (by omega) (by rw [hj]; simpa using ew) fin
  · have hj : (i + (its.toArray.size : Int)).toNat = j := by
      rw [seqIndex_neg (by omega) h4] at h1
      rw [List.size_toArray, ← hl]
      exact Option.some.inj h1
    exact wpAny_getItem_list_neg pl.isList (by omega) (by rw [List.size_toArray] <;> omega) (by omega) (by rw [hj]; simpa using ew) fin
section
variable {X : Cx} {P : Pg} {a b c x y : Expr} {xs : List Expr} {a' b' c' e : E} {es : Es} {pos : Pos}
theorem ss_pst {pp : Pos} (hu : X.A.units + 1 < cLine) (hsw : swapsWith x (some (.Subscript a b pp)) pos.line X.env = pure false) (he : Sd X P x e) (ha : SdP X P a a') (hb : Sd X P b b') (hs : swapsWithSole [.Subscript a b pp] x pos.line X.env = pure false) (hw : swappedStores [.Subscript a b pp] x X.env = pure none)
    (hg : ∀ v, assign (.Subscript a b pp) X.env v = (do
      let ov ← holding [v] (eval a X.env)
      let iv ← holding [v, ov] (eval b X.env)
      standAt pp
      holding [v, ov, iv] (setItem ov iv v)
      release [v, ov, iv] [])) :
    PS X (.Assign [.Subscript a b pp] x pos) (tevS X.K P (.pst a' b' e)) := ps_any fun D σ H ⟨F, sl, p, fl, sl', ex, S, e0, k⟩ => by
  simp only [evS, Option.bind_eq_some_iff] at e0
  obtain ⟨⟨t, sl1⟩, e1, ⟨t2, put⟩, e2, ⟨y, sly⟩, e3, e4⟩ := e0
  by_cases hd : ∃ ks us, t2 = .dct .own false ks us
  · obtain ⟨ks, us, rfl⟩ := hd
    have e4' : ((keyT y).bind fun k => if okN ks.length then some (Fl.nx, put (.dct .own false (putD ks us [k] t).1 (putD ks us [k] t).2)) else none) = some (fl, sl') := e4
    obtain ⟨kk, e5, e6⟩ := Option.bind_eq_some_iff.mp e4'
    by_cases hz : okN ks.length = true
    · rw [if_pos hz] at e6; cases e6
      refine ⟨_, ps_dput hu ha.v (hb.v .o (by decide)) (he.v .e (by decide)) hsw, F, sl, p, t, sl1, ex, S, e1, fun v F1 H1 pv1 p1 ex1 S1 R1 dj1 st1 => ?_⟩
      refine ⟨F1, sl1, p1, _, put, ex1, S1, e2, fun v2 F2 H2 q s ex2 R2 dj2 S2 sub W st2 => ?_⟩
      have at_y : atom y = true := by cases y <;> first | rfl | cases e5
      refine borrow ex2 S2 e3 at_y fun v3 F3 H3 ex3 R3 st3 => ?_
      obtain ⟨rfl, _, _⟩ := keyT_kV R3 e5
      have st23 := st2.trans st3
      obtain ⟨a1, a2, a3⟩ := st23.frame R1.own fun _ x => x.elim
      have R1' := R1.frame st23.ex a1
      obtain ⟨b1, b2, b3⟩ := st3.frame (r := fun a => q a ∨ s a) (fun a x => x.elim (R2.own a) (W.1 a)) fun _ x => x.elim
      have R2' := R2.frame st3.ex fun a x => b1 a (.inl x)
      have W' := W.frame st3.ex fun a x => b1 a (.inr x)
      obtain ⟨a0, H4, p', rfl, dp, g1, g2, g3⟩ := setD kk ex3 R2' R1' (fun a x y => dj1 rfl a x (sub a (.inl y))) (okN_le hz)
      obtain ⟨c1, c2, c3⟩ := g3.frame W'.1 fun a x y => x.elim (fun z => dj1 rfl a z (sub a (.inr y))) fun z => dj2 a z y
      obtain ⟨p'', sub2, S4⟩ := W'.2 F3 _ _ p' g3.ex c1 g2 c2
      refine ⟨a0, H4, rfl, dp, k σ F3 _ p'' Keep.refl g1 S4 ?_⟩
      obtain ⟨d1, d2, d3⟩ := st23.frame (r := fun a => pv1 a ∨ p1 a) (fun a x => x.elim (R1.own a) (S1.own a)) fun _ x => x.elim
      have stA := st1.trans (d3.cg fun a => ⟨fun x => x.elim (fun z => z.elim) id, .inr⟩)
      refine (stA.sub (q := fun a => (pv1 a ∨ q a) ∨ s a) fun a x => ?_).trans (c3.sub sub2)
      rcases x with (x | x) | x
      · exact .inr (.inl x)
      · exact .inr (.inr (sub a (.inl x)))
      · exact .inr (.inr (sub a (.inr x)))
    · rw [if_neg hz] at e6; cases e6
  cases t2 <;> first | (cases e4; done) | skip
  rotate_left
  · rename_i o kd ks us
    exfalso
    cases o <;> cases kd <;> first | (cases e4; done) | exact hd ⟨_, _, rfl⟩
  rename_i o ts
  cases o <;> first | (cases e4; done) | skip
  cases y <;> first | (cases e4; done) | skip
  rename_i i
  obtain ⟨j, e5, e6⟩ := Option.bind_eq_some_iff.mp e4
  cases e6
  refine ⟨_, ps_asg (he.v .e (by decide)) (pg_sub ha.v (hb.v .o (by decide)) set_list hg) hs hw rfl, F, sl, p, t, sl1, ex, S, e1, fun v F1 H1 pv1 p1 ex1 S1 R1 dj1 st1 => ?_⟩
  refine ⟨F1, sl1, p1, _, put, ex1, S1, e2, fun v2 F2 H2 q s ex2 R2 dj2 S2 sub W st2 => ?_⟩
  refine borrow ex2 S2 e3 rfl fun v3 F3 H3 ex3 R3 st3 => ?_
  obtain ⟨rfl, _⟩ := R3.int'
  have st23 := st2.trans st3
  obtain ⟨a1, a2, a3⟩ := st23.frame R1.own fun _ x => x.elim
  have R1' := R1.frame st23.ex a1
  obtain ⟨b1, b2, b3⟩ := st3.frame (r := fun a => q a ∨ s a) (fun a x => x.elim (R2.own a) (W.1 a)) fun _ x => x.elim
  have R2' := R2.frame st3.ex fun a x => b1 a (.inl x)
  have W' := W.frame st3.ex fun a x => b1 a (.inr x)
  obtain ⟨a0, xs, p', rfl, hH, hl, g1, g2, g3⟩ := setL (j := j) ex3 R2' R1' (fun a x y => dj1 rfl a x (sub a (.inl y))) (ixN_lt e5)
  obtain ⟨c1, c2, c3⟩ := g3.frame W'.1 fun a x y => x.elim (fun z => dj1 rfl a z (sub a (.inr y))) fun z => dj2 a z y
  obtain ⟨p'', sub2, S4⟩ := W'.2 F3 _ _ p' g3.ex c1 g2 c2
  refine ⟨a0, xs, i, j, rfl, rfl, hH, by rw [← hl]; exact e5, ?_⟩
  refine k σ F3 _ p'' Keep.refl g1 S4 ?_
  obtain ⟨d1, d2, d3⟩ := st23.frame (r := fun a => pv1 a ∨ p1 a) (fun a x => x.elim (R1.own a) (S1.own a)) fun _ x => x.elim
  have stA := st1.trans (d3.cg fun a => ⟨fun x => x.elim (fun z => z.elim) id, .inr⟩)
  refine (stA.sub (q := fun a => (pv1 a ∨ q a) ∨ s a) fun a x => ?_).trans (c3.sub sub2)
  rcases x with (x | x) | x
  · exact .inr (.inl x)
  · exact .inr (.inr (sub a (.inl x)))
  · exact .inr (.inr (sub a (.inr x)))
theorem ss_paug {pp : Pos} {op : Operator} {o : O2} (ho : PIp X op (rIP X.K o)) (he : Sd X P x e) (ha : SdP X P a a') (hb : Sd X P b b')
    (hg : ∀ ov iv new, augStore b ov iv new = (do holding [new, ov, iv] (setItem ov iv new); release [new, ov, iv] []; pure .next)) : PS X (.AugAssign (.Subscript a b pp) op x pos) (tevS X.K P (.paug a' b' o e)) :=
  ps_imp (ps_augS ha.v (hb.v .o (by decide)) get_list (he.v .o (by decide)) ho set_list hg) fun D σ H ⟨F, sl, p, fl, sl', ex, S, e0, k⟩ => by
  simp only [evS, Option.bind_eq_some_iff] at e0
  obtain ⟨⟨t2, put⟩, e2, ⟨y, sly⟩, e3, e4⟩ := e0
  cases t2 <;> first | (cases e4; done) | skip
  rename_i o1 ts
  cases o1 <;> first | (cases e4; done) | skip
  cases y <;> first | (cases e4; done) | skip
  rename_i i
  simp only [Option.bind_eq_some_iff] at e4
  obtain ⟨j, e5, old, e6, ⟨z, slz⟩, e7, w, e8, e9⟩ := e4
  cases e9
  refine ⟨F, sl, p, _, put, ex, S, e2, fun v2 F2 H2 q s ex2 R2 dj2 S2 sub W st2 => ?_⟩
  refine borrow ex2 S2 e3 rfl fun v3 F3 H3 ex3 R3 st3 => ?_
  obtain ⟨rfl, _⟩ := R3.int'
  obtain ⟨b1, b2, b3⟩ := st3.frame (r := fun a => q a ∨ s a) (fun a x => x.elim (R2.own a) (W.1 a)) fun _ x => x.elim
  have R3' := R2.frame st3.ex fun a x => b1 a (.inl x)
  have W3 := W.frame st3.ex fun a x => b1 a (.inr x)
  obtain ⟨c1, c2, c3⟩ := st3.frame S2.own fun _ x => x.elim
  have S3 := S2.frame st3.ex c1
  obtain ⟨a0, xs, q0, rfl, hH, R5, sub5, _⟩ := R3'.seqL ex3
  have hat : L2.atI ts i = some old := by unfold L2.atI; rw [e5]; exact e6
  obtain ⟨vo, qo, go, Ro, subo⟩ := R5.atI hat
  refine ⟨a0, xs, i, vo, rfl, rfl, .inl hH, go, ?_⟩
  have fo := iop_F e8
  have Ro' : Rep X.K F3 H3 old vo nop := Ro.cg fun b => ⟨fun x => Ro.of_isF fo b x, fun x => x.elim⟩
  refine ⟨frF F3 H3 p, brw sl, nop, z, slz, frF_sub ex3, S3.brw, e7, fun v6 F6 H6 pv6 p6 ex6 S6 R6 d6 st6 => ?_⟩
  obtain ⟨u1, u2⟩ := unthaw S3.own (st6.sub (q := nop) fun a x => x.elim) ex6
  have Ro6 : Rep X.K F6 H6 old vo nop := Ro'.upF ((frF_ex fun a x => (S3.own a x).1).trans st6.ex)
  refine ⟨F6, old, z, nop, pv6, w, ex6, Ro6, R6, e8, fun v7 R7 => ?_⟩
  have at7 : atom w = true := by
    revert e8
    cases o <;> cases old <;> cases z <;> intro e8 <;> first | (cases e8; done) | (cases e8; rfl)
  have R7' : Rep X.K (unF F6 p) H6 w v7 nop := atom_rep at7 R7
  obtain ⟨f1, f2, f3⟩ := u2.frame (r := fun a => q a ∨ s a) (fun a x => x.elim (R3'.own a) (W3.1 a)) fun _ x => x.elim
  have R8 := R3'.frame u2.ex fun a x => f1 a (.inl x)
  have W8 := W3.frame u2.ex fun a x => f1 a (.inr x)
  obtain ⟨a9, xs9, p', he9, hH9, hl, g1, g2, g3⟩ := setL (j := j) u1 R8 R7' (fun a x y => x) (ixN_lt e5)
  cases he9
  obtain ⟨h1, h2, h3⟩ := g3.frame W8.1 fun a x y => x.elim (fun z => z) fun z => dj2 a z y
  obtain ⟨p'', sub2, S9⟩ := W8.2 _ _ _ p' g3.ex h1 g2 h2
  refine ⟨a0, xs9, i, j, rfl, rfl, hH9, by rw [← hl]; exact e5, k σ _ _ p'' Keep.refl g1 S9 ?_⟩
  have st26 := (st2.trans st3).trans u2
  obtain ⟨i1, i2, i3⟩ := st26.frame S.own fun _ x => x.elim
  refine ((i3.cg (q := p) fun a => ⟨fun x => x.elim (fun z => z.elim) id, .inr⟩).sub (q := fun a => (nop a ∨ q a) ∨ s a) fun a x => ?_).trans (h3.sub sub2)
  rcases x with (x | x) | x
  · exact x.elim
  · exact .inr (sub a (.inl x))
  · exact .inr (sub a (.inr x))
/-! ### o.f op= e -/
def rIPI (K : PySem.W.Frag) (o : O2) : V → V → Hp → VK → Prop := rIP K o
theorem ss_faug {r : Nat} {n f : Str} {pn pp : Pos} {op : Operator} {o : O2} (C : ClsOk X.K P) (hN : X.N[r]? = some n) (hv : Vis X.env.scope n) (hd : (n == ("__debug__" : Str)) = false) (hcd : (n == ("__classdict__" : Str)) = false) (ho : InOp X op (rIP X.K o)) (he : Sd X P x e) :
    PS X (.AugAssign (.Attribute (.Name n pn) f pp) op x pos) (tevS X.K P (.faug r f o e)) := ps_imp (ps_fldaug (pe_var hN hv hd hcd) (he.v .o (by decide)) ho) fun D σ H ⟨F, sl, p, fl, sl', ex, S, e0, k⟩ => by
  simp only [evS, Option.bind_eq_some_iff] at e0
  obtain ⟨t, e1, e2⟩ := e0
  cases t <;> first | (cases e2; done) | skip
  rename_i o1 c ns ts
  cases o1 <;> first | (cases e2; done) | skip
  simp only [Option.bind_eq_some_iff] at e2
  obtain ⟨old, e3, ⟨z, slz⟩, e4, w, e5, t', e6, e7⟩ := e2
  cases e7
  obtain ⟨v, q, r1, g, R, dj, ep, S1⟩ := S.take e1
  obtain ⟨_, _, _, _, i, e8, h1, h2, h3⟩ := child_some e3
  cases e8
  obtain ⟨c1, c2⟩ := C.fd c f h1
  obtain ⟨a0, dx, fs, q5, rfl, hH, rfl, R5, sub5, _⟩ := R.insI ex
  obtain ⟨vo, qo, go, Ro, subo⟩ := R5.at_ h3
  refine ⟨_, g, a0, _, dx, fs, vo, rfl, hH, c1, c2, lookup_idx h2 go, ?_⟩
  have fo := iop_F e5
  have Ro' : Rep X.K F H old vo nop := Ro.cg fun b => ⟨fun x => Ro.of_isF fo b x, fun x => x.elim⟩
  refine ⟨frF F H p, brw sl, nop, z, slz, frF_sub ex, S.brw, e4, fun v6 F6 H6 pv6 p6 ex6 S6 R6 d6 st6 => ?_⟩
  obtain ⟨u1, u2⟩ := unthaw S.own (st6.sub (q := nop) fun a x => x.elim) ex6
  have Ro6 : Rep X.K F6 H6 old vo nop := Ro'.upF ((frF_ex fun a x => (S.own a x).1).trans st6.ex)
  refine ⟨F6, old, z, nop, pv6, w, ex6, Ro6, R6, e5, fun v7 R7 => ?_⟩
  have at7 : atom w = true := by
    revert e5
    cases o <;> cases old <;> cases z <;> intro e5 <;> first | (cases e5; done) | (cases e5; rfl)
  have R7' : Rep X.K (unF F6 p) H6 w v7 nop := atom_rep at7 R7
  obtain ⟨f1, f2, f3⟩ := u2.frame S.own fun _ x => x.elim
  have R8 := R.frame u2.ex fun a x => f1 a ((ep a).mpr (.inl x))
  have S8 := S1.frame u2.ex fun a x => f1 a ((ep a).mpr (.inr x))
  obtain ⟨a9, dx9, fs9, p', he9, hH9, _, _, hl9, g1, g2, g3, _⟩ := setC_ok C u1 R8 R7' (fun a x _ => x) e6
  cases he9
  obtain ⟨i1, i2, i3⟩ := g3.frame S8.own fun a x y => x.elim (fun z => z) fun z => dj a z y
  have S9 := (S8.frame g3.ex i1).put (set_hole_put e1) g g2 i2
  rw [List.set_set] at S9
  refine ⟨dx9, fs9, hH9, by omega, k σ _ _ _ Keep.refl g1 S9 ?_⟩
  refine ((f3.cg (q := p) fun a => ⟨fun x => x.elim (fun z => z.elim) id, .inr⟩).sub (q := fun a => (nop a ∨ q a) ∨ r1 a) fun a x => ?_).trans i3
  rcases x with (x | x) | x
  · exact x.elim
  · exact .inr ((ep a).mpr (.inl x))
  · exact .inr ((ep a).mpr (.inr x))
theorem inr_add : InOp X .Add (rIP X.K .add) := fun pins s σ H x y v u Q I rx ry w => ipr_add pins s σ H x y v u Q I rx ry w
theorem inr_sub : InOp X .Sub (rIP X.K .sub) := fun pins s σ H x y v u Q I rx ry w => ipr_sub pins s σ H x y v u Q I rx ry w
/-! ### methods of lists at places -/
theorem ev_mutp {m : Md} {q : MK} {sl sl' : SL} {t : T} (h : ev P m (.mutp a' q es) sl = some (t, sl')) :
    ∃ t1 put us t' u, plc P a' sl = some (t1, put) ∧ kindM q t1 = true ∧ evBs P es sl = some us ∧ mutT q t1 us = some (t', u) ∧ fin m false u (put t') = some (t, sl') := by
  simp only [ev, Option.bind_eq_some_iff] at h
  obtain ⟨⟨t1, put⟩, e0, h⟩ := h
  by_cases hk : kindM q t1 = true
  · simp only [hk, if_true, Option.bind_eq_some_iff] at h
    obtain ⟨us, e1, ⟨t', u⟩, e3, e4⟩ := h
    exact ⟨t1, put, us, t', u, e0, hk, e1, e3, e4⟩
  · simp only [hk] at h; cases h
theorem plain_mutp {q : MK} : Plain P (.mutp a' q es) := fun sl t sl' h => by
  obtain ⟨t1, put, us, t', u, e0, hk, e1, e3, e4⟩ := ev_mutp h
  obtain ⟨b, h1, h2, rfl⟩ := fin_t e4
  exact ⟨u, b, by simp only [ev, e0, Option.bind_some, hk, if_true, e1, e3, fin], h1, h2⟩
theorem core_mutp {m : Md} {q : MK} {σ : L2.St} {H : Hp} {Q : VK} (hm : m ≠ .t) (h : tev X.K P m (.mutp a' q es) σ H Q) : tBM X.K "list" (rM X.K q) (tevP X.K P a') (tevBs X.K P es) σ H Q := by
  obtain ⟨F, sl, p, t, sl', ex, S, e, k⟩ := h
  obtain ⟨t1, put, us, t', u, e0, hk, e1, e3, e4⟩ := ev_mutp e
  obtain ⟨rfl, rfl, _⟩ := fin_some hm e4
  obtain ⟨o, ts, rfl⟩ := kind_lst hk
  refine ⟨F, sl, p, _, put, ex, S, e0, fun v F1 H1 q1 s ex1 R1 dj1 S1 sub W st1 => ?_⟩
  obtain ⟨a0, xs0, q0, rfl, s1, _⟩ := R1.seqL ex1
  refine ⟨.inl ⟨rfl, xs0, .inl s1⟩, F1, sl, p, us, ex1, S1, e1, fun vs F2 H2 pv2 ex2 R2 st2 => ?_⟩
  obtain ⟨a1, a2, a3⟩ := st2.frame S1.own fun _ x => x.elim
  have R1' := R1.frame st2.ex fun a x => a1 a (sub a (.inl x))
  have W' := W.frame st2.ex fun a x => a1 a (sub a (.inr x))
  refine ⟨F2, _, us, q1, pv2, t', _, ex2, R1', R2, fun b x y => a2 b y (sub b (.inl x)), e3, fun v F3 H3 pv p' ex3 Rt Ru dj3 st3 => ?_⟩
  obtain ⟨b1, b2, b3⟩ := st3.frame W'.1 fun b x y => x.elim (fun z => dj1 b z y) fun z => a2 b z (sub b (.inr y))
  obtain ⟨p'', sub2, S3⟩ := W'.2 F3 H3 t' p' st3.ex b1 Rt fun b x y => b2 b (.inr x) y
  refine k v F3 H3 pv p'' ex3 S3 Ru (fun _ b x y => (sub2 b y).elim (dj3 b x) fun z => b2 b (.inl x) z) ?_
  have st12 := st1.trans st2
  obtain ⟨c1, c2, c3⟩ := st12.frame S.own fun _ x => x.elim
  refine ((c3.cg (q := p) fun a => ⟨fun x => x.elim (fun z => z.elim) id, .inr⟩).sub (q := fun b => (q1 b ∨ pv2 b) ∨ s b) fun b x => ?_).trans (b3.sub fun b x => ?_)
  · rcases x with (x | x) | x
    · exact .inr (sub b (.inl x))
    · exact .inl x
    · exact .inr (sub b (.inr x))
  · rcases x with x | x
    · exact .inl (.inl x)
    · exact (sub2 b x).elim (fun z => .inl (.inr z)) .inr
theorem sd_mutp {name : Str} {id : String} {q : MK} {apos : Pos} (pa : PlainAttrs "list") (slot : Slot "list" name id) (hty : typeOf (.builtin id) = pure (.type "method_descriptor")) (hr : MtR X id (rM X.K q))
    (hp : SdP X P a a') (hb : attributeBase a name X.env (eval a X.env) = eval a X.env) (ha : PA X (x :: xs) (tevBs X.K P es))
    (hfew : ((backTo pos (starEach (x :: xs) X.env)).all (fun x => !x.1) && (backToKw pos (keywordEach [] X.env)).all (fun x => x.1.isSome)
      && decide ((x :: xs).length + ([] : List Keyword).length + (if ([] : List Keyword).isEmpty then 0 else 1) < 30)) = true) (hl : (apos.endLine == pos.line) = true)
    (he : starEach (x :: xs) X.env = (false, eval x X.env) :: starEach xs X.env) (hpl : (backTo pos (starEach xs X.env)).any (·.1) = false) : Sd X P (.Call (.Attribute a name apos) (x :: xs) [] pos) (.mutp a' q es) :=
  have v : ∀ m, m ≠ .t → PE X (.Call (.Attribute a name apos) (x :: xs) [] pos) (tev X.K P m (.mutp a' q es)) := fun m hmm =>
    pe_imp (pe_bm pa slot hty hr hp.v ha hb hfew hl he hpl) fun σ H Q h => core_mutp hmm h
  ⟨v, pt_plain (v .o (by decide)) plain_mutp fun _ => rfl⟩
/-! ### targets of targets -/
theorem sG_one {g : G0} (h : PG X x (tevG X.K (stG0 g) (setG0 P g))) : PG X x (tevG X.K (stG (.one g)) (setG P (.one g))) := h
theorem sGs_nil : PGs X [] (tevGs X.K (([] : List G0).flatMap stG0) (setGs P [])) := pgs_imp pgs_nil fun vs σ H Q ⟨F, ts, pv, sl, p, sl', ex, R, S, dj, e, k⟩ => by
  cases R with
  | nil _ =>
    cases e
    exact ⟨rfl, k σ F H p Keep.refl ex S (Stp.refl.sub fun a x => .inr x)⟩
  | cons => cases e
theorem sGs_cons {g : G0} {gs : List G0} (h1 : PG X a (tevG X.K (stG0 g) (setG0 P g))) (h2 : PGs X xs (tevGs X.K (gs.flatMap stG0) (setGs P gs))) (hs : (assignEach (a :: xs) X.env).map (·.2) = assign a X.env :: (assignEach xs X.env).map (·.2)) :
    PGs X (a :: xs) (tevGs X.K ((g :: gs).flatMap stG0) (setGs P (g :: gs))) := pgs_imp (pgs_cons h1 h2 hs) fun vs σ H Q ⟨F, ts, pv, sl, p, sl', ex, R, S, dj, e, k⟩ => by
  cases R with
  | nil _ => cases e
  | @cons t v ts vs p1 q1 _ h hs d e1 =>
    obtain ⟨sl1, e2, e3⟩ := Option.bind_eq_some_iff.mp (show ((setG0 P g t sl).bind fun sl => setGs P gs ts sl) = some sl' from e)
    refine ⟨v, vs, rfl, F, t, p1, sl, p, sl1, ex, h, S, fun b x y => dj b ((e1 b).mpr (.inl x)) y, e2, fun σ1 F1 H1 p2 k1 ex1 S1 st1 => ?_⟩
    obtain ⟨a1, a2, a3⟩ := st1.frame hs.own fun b x y => x.elim (fun z => d b z y) fun z => dj b ((e1 b).mpr (.inr y)) z
    refine ⟨F1, ts, q1, sl1, p2, sl', ex1, hs.frame st1.ex a1, S1, fun b x y => a2 b y x, e3, fun σ2 F2 H2 p3 k2 ex2 S2 st2 => ?_⟩
    refine k σ2 F2 H2 p3 ((k1.mono fun j z => ?_).trans (k2.mono fun j z => ?_)) ex2 S2 ?_
    · rw [List.flatMap_cons]; exact List.mem_append_left _ z
    · rw [List.flatMap_cons]; exact List.mem_append_right _ z
    · refine (a3.trans (st2.cg fun b => or_comm)).cg fun b => ?_
      rw [e1 b]
      constructor
      · rintro ((x | x) | x)
        · exact .inl (.inl x)
        · exact .inr x
        · exact .inl (.inr x)
      · rintro ((x | x) | x)
        · exact .inl (.inl x)
        · exact .inr x
        · exact .inl (.inr x)
theorem setGs_len {gs : List G0} : ∀ {ts : List T} {sl sl' : SL}, setGs P gs ts sl = some sl' → ts.length = gs.length := by
  induction gs with
  | nil => intro ts sl sl' h; cases ts <;> first | rfl | cases h
  | cons g gs ih => intro ts sl sl' h; cases ts with
    | nil => cases h
    | cons t ts =>
      obtain ⟨sl1, _, e3⟩ := Option.bind_eq_some_iff.mp (show ((setG0 P g t sl).bind fun sl => setGs P gs ts sl) = some sl' from h)
      exact congrArg Nat.succ (ih e3)
theorem sG_tp {gs : List G0} {k1 : Nat} (hc : X.calm = true) (h : PGs X xs (tevGs X.K (gs.flatMap stG0) (setGs P gs))) (hn : (assignEach xs X.env).length = gs.length) (hst : (assignEach xs X.env).findIdx? (·.1) = none) : PG X (.Tuple xs k1 pos) (tevG X.K (stG (.tp gs)) (setG P (.tp gs))) :=
  pg_any fun v σ H Q ⟨F, t, pv, sl, p, sl', ex, R, S, dj, e, k⟩ => by
    cases t <;> first | (cases e; done) | skip
    · rename_i ts
      have e' : setGs P gs ts sl = some sl' := e
      obtain ⟨a0, ys, rfl, s1, r1⟩ := R.seqT ex
      exact ⟨_, pg_tup hc h hn hst, a0, ys, rfl, s1, by rw [← r1.length, setGs_len e'], F, ts, pv, sl, p, sl', ex, r1, S, dj, e', k⟩
    · rename_i o ts
      have e' : setGs P gs ts sl = some sl' := e
      obtain ⟨a0, ys, q, rfl, s1, r1, sub, _⟩ := R.seqL ex
      exact ⟨_, pg_unl hc h hn hst, a0, ys, rfl, .inl s1, by rw [← r1.length, setGs_len e'], F, ts, q, sl, p, sl', ex, r1, S, fun a x y => dj a (sub a x) y, e', fun σ' F' H' p' kp ex' S' st => k σ' F' H' p' kp ex' S' (st.more fun a x => x.imp (sub a) id)⟩
end
end Pv

/-! More operations. -/
namespace Pv
open PySem L2 PyProof.Rows
section
variable {X : Cx} {P : Pg} {a b c x y : Expr} {xs : List Expr} {a' b' c' e : E} {es : Es} {pos : Pos}
theorem rep_nonV {K : PySem.W.Frag} {F H : Hp} {t : T} {v : V} {p : FP} {b : Bool} (h : isNon t = some b) (R : Rep K F H t v p) : decide (v = .non) = b := by
  cases t <;> first | (cases h; done) | skip
  all_goals cases h
  · obtain ⟨rfl, _⟩ := R.non'; rfl
  · obtain ⟨rfl, _⟩ := R.bl'; rfl
  · obtain ⟨rfl, _⟩ := R.int'; rfl
  · obtain ⟨rfl, _⟩ := R.str'; rfl
  · cases R; rfl
  · cases R <;> rfl
  · cases R <;> rfl
  · cases R <;> rfl
theorem or_isS : OpR X (compareOp .Is) (rT2 X.K .isS) := opr_any fun x y H Q h => by
  obtain ⟨F, t, u, p, q, r, ex, ht, hu, e, k⟩ := h
  cases u <;> first | (cases t <;> cases e; done) | skip
  · obtain ⟨rfl, _⟩ := hu.non'
    have e' : (isNon t).map T.bl = some r := by cases t <;> exact e
    obtain ⟨b, e1, rfl⟩ := Option.map_eq_some_iff.mp e'
    refine ⟨_, op_isN, rfl, ?_⟩
    rw [rep_nonV e1 ht]
    exact d_bl k ex
  · obtain ⟨rfl, _⟩ := hu.bl'
    cases t <;> first | (cases e; done) | skip
    obtain ⟨rfl, _⟩ := ht.bl'
    cases e
    exact ⟨_, L2.op_isBl, _, _, rfl, rfl, d_bl k ex⟩
theorem or_notS : OpR X (compareOp .IsNot) (rT2 X.K .notS) := opr_any fun x y H Q h => by
  obtain ⟨F, t, u, p, q, r, ex, ht, hu, e, k⟩ := h
  cases u <;> first | (cases t <;> cases e; done) | skip
  · obtain ⟨rfl, _⟩ := hu.non'
    have e' : (isNon t).map (fun b => T.bl (!b)) = some r := by cases t <;> exact e
    obtain ⟨b, e1, rfl⟩ := Option.map_eq_some_iff.mp e'
    refine ⟨_, op_notN, rfl, ?_⟩
    rw [rep_nonV e1 ht]
    exact d_bl k ex
  · obtain ⟨rfl, _⟩ := hu.bl'
    cases t <;> first | (cases e; done) | skip
    obtain ⟨rfl, _⟩ := ht.bl'
    cases e
    exact ⟨_, L2.op_notBl, _, _, rfl, rfl, d_bl k ex⟩
def rCmb : List V → Hp → VK → Prop := fun xs H Q => ∃ i j : Int, xs = [.int i, .int j] ∧ 0 ≤ i ∧ 0 ≤ j ∧ i ≤ 18000 ∧ Q (.int (PySem.W.mcComb i j)) H
theorem cr_cmb : CallR X (.builtin "math.comb") rCmb := by
  intro pins s σ H vs us Q I r h
  obtain ⟨a, b, rfl, h1, h2, h3, q⟩ := h
  obtain ⟨t, u, rfl⟩ := Vals.int2 r
  exact PySem.W.mc_comb h1 h2 (by omega) (.inr h3) fun _ => ⟨.int _, H, I.tok _, ⟨_, rfl⟩, q⟩
theorem cr_comb2 : CallR X (.builtin "math.comb") (rC2 X.K .comb) := callr_any fun xs H Q h => by
  obtain ⟨x, y, rfl, F, t, u, p, q, r, ex, ht, hu, e, k⟩ := h
  cases t <;> cases u <;> first | (cases e; done) | skip
  rename_i i j
  obtain ⟨rfl, _⟩ := ht.int'; obtain ⟨rfl, _⟩ := hu.int'
  have e' : (if decide (0 ≤ i) && decide (0 ≤ j) && decide (i ≤ 18000) then some (T.int (PySem.W.mcComb i j)) else none) = some r := e
  by_cases hz : (decide (0 ≤ i) && decide (0 ≤ j) && decide (i ≤ 18000)) = true
  · rw [if_pos hz] at e'; cases e'
    simp only [Bool.and_eq_true, decide_eq_true_eq] at hz
    exact ⟨_, cr_cmb, _, _, rfl, hz.1.1, hz.1.2, hz.2, d_int k ex⟩
  · rw [if_neg hz] at e'; cases e'
/-! ### sums, all, any, in -/
theorem reps_ints {K : PySem.W.Frag} {F H : Hp} : ∀ {ts : List T} {xs : List V} {p : FP} {is : List Int}, Reps K F H ts xs p → intsT ts = some is → xs = is.map V.int
  | [], _, _, is, .nil _, h => by cases h; rfl
  | t :: ts, _, _, is, .cons h0 hs _ _, h => by
    cases t <;> first | (cases h; done) | skip
    obtain ⟨is', e, e2⟩ := Option.map_eq_some_iff.mp (show (intsT ts).map (_ :: ·) = some is from h)
    cases e2
    obtain ⟨rfl, _⟩ := h0.int'
    rw [reps_ints hs e]; rfl
theorem reps_bls {K : PySem.W.Frag} {F H : Hp} : ∀ {ts : List T} {xs : List V} {p : FP} {is : List Bool}, Reps K F H ts xs p → boolsT ts = some is → xs = is.map V.bl
  | [], _, _, is, .nil _, h => by cases h; rfl
  | t :: ts, _, _, is, .cons h0 hs _ _, h => by
    cases t <;> first | (cases h; done) | skip
    obtain ⟨is', e, e2⟩ := Option.map_eq_some_iff.mp (show (boolsT ts).map (_ :: ·) = some is from h)
    cases e2
    obtain ⟨rfl, _⟩ := h0.bl'
    rw [reps_bls hs e]; rfl
theorem rep_fl {K : PySem.W.Frag} {F H : Hp} {t : T} {v w : V} {p : FP} (R : Rep K F H t v p) (h : flT t = some w) : v = w ∧ flatV w = true := by
  cases t <;> first | (cases h; done) | skip
  all_goals cases h
  · obtain ⟨rfl, _⟩ := R.non'; exact ⟨rfl, rfl⟩
  · obtain ⟨rfl, _⟩ := R.bl'; exact ⟨rfl, rfl⟩
  · obtain ⟨rfl, _⟩ := R.int'; exact ⟨rfl, rfl⟩
  · obtain ⟨rfl, _⟩ := R.str'; exact ⟨rfl, rfl⟩
theorem reps_fl {K : PySem.W.Frag} {F H : Hp} : ∀ {ts : List T} {xs ws : List V} {p : FP}, Reps K F H ts xs p → flTs ts = some ws → xs = ws ∧ ws.all flatV = true
  | [], _, _, _, .nil _, h => by cases h; exact ⟨rfl, rfl⟩
  | t :: ts, _, ws, _, .cons h0 hs _ _, h => by
    obtain ⟨w, e1, e2⟩ := Option.bind_eq_some_iff.mp (show ((flT t).bind fun v => (flTs ts).bind fun vs => some (v :: vs)) = some ws from h)
    obtain ⟨ws', e3, e4⟩ := Option.bind_eq_some_iff.mp e2
    cases e4
    obtain ⟨rfl, f1⟩ := rep_fl h0 e1
    obtain ⟨rfl, f2⟩ := reps_fl hs e3
    exact ⟨rfl, by rw [List.all_cons, f1, f2]; rfl⟩
theorem cr_sum1 (hc : X.calm = true) : CallR X (.builtin "sum") (rC1 X.K .sum) := callr_any fun xs H Q h => by
  obtain ⟨x, rfl, F, t, p, r, ex, ht, e, k⟩ := h
  cases t <;> first | (cases e; done) | skip
  obtain ⟨a, xs, q, rfl, s1, r1, _⟩ := ht.seqL ex
  obtain ⟨is, e1, rfl⟩ := Option.map_eq_some_iff.mp (show (intsT _).map (fun is => T.int is.sum) = some r from e)
  have := reps_ints r1 e1
  subst this
  exact ⟨_, cr_sum hc, a, is, rfl, .inl s1, d_int k ex⟩
theorem cr_all1 (hc : X.calm = true) : CallR X (.builtin "all") (rC1 X.K .all) := callr_any fun xs H Q h => by
  obtain ⟨x, rfl, F, t, p, r, ex, ht, e, k⟩ := h
  cases t <;> first | (cases e; done) | skip
  obtain ⟨a, xs, q, rfl, s1, r1, _⟩ := ht.seqL ex
  obtain ⟨is, e1, rfl⟩ := Option.map_eq_some_iff.mp (show (boolsT _).map (fun bs => T.bl (bs.all id)) = some r from e)
  have := reps_bls r1 e1
  subst this
  exact ⟨_, cr_all hc, a, is, rfl, .inl s1, d_bl k ex⟩
theorem cr_any1 (hc : X.calm = true) : CallR X (.builtin "any") (rC1 X.K .any) := callr_any fun xs H Q h => by
  obtain ⟨x, rfl, F, t, p, r, ex, ht, e, k⟩ := h
  cases t <;> first | (cases e; done) | skip
  obtain ⟨a, xs, q, rfl, s1, r1, _⟩ := ht.seqL ex
  obtain ⟨is, e1, rfl⟩ := Option.map_eq_some_iff.mp (show (boolsT _).map (fun bs => T.bl (bs.any id)) = some r from e)
  have := reps_bls r1 e1
  subst this
  exact ⟨_, cr_any hc, a, is, rfl, .inl s1, d_bl k ex⟩
theorem cr_tuple1 : CallR X (.type "tuple") (rC1 X.K .tuple) := callr_any fun xs H Q h => by
  obtain ⟨x, rfl, F, t, p, r, ex, ht, e, k⟩ := h
  cases t <;> first | (cases e; done) | skip
  · rename_i ts
    have e' : (if isFs ts then some (T.tup ts) else none) = some r := e
    by_cases f : isFs ts = true
    · rw [if_pos f] at e'; cases e'
      have R0 : Rep X.K F H (.tup ts) x nop := ht.cg fun b => ⟨fun x => ht.of_isF (by simpa [isF] using f) b x, fun x => x.elim⟩
      obtain ⟨a, xs, rfl, s1, r1⟩ := ht.seqT ex
      exact ⟨_, call_tuple_of, a, xs, rfl, .inr ⟨s1, k _ F H nop ex R0 Stp.refl⟩⟩
    · rw [if_neg f] at e'; cases e'
  · rename_i o ts
    obtain ⟨a, xs, q, rfl, s1, r1, _⟩ := ht.seqL ex
    have e' : (if isFs ts then some (T.tup ts) else none) = some r := e
    by_cases f : isFs ts = true
    · rw [if_pos f] at e'; cases e'
      refine ⟨_, call_tuple_of, a, xs, rfl, .inl ⟨.inl s1, fun l nl => ?_⟩⟩
      obtain ⟨a1, a2, a3⟩ := new_tup ex nl r1
      exact k _ _ _ _ a1 a2 (a3.nop_of (r1.of_isFs f))
    · rw [if_neg f] at e'; cases e'
theorem inT_ {t : T} {ts : List T} {b : Bool} (h : inT t ts = some b) : ∃ v vs, flT t = some v ∧ flTs ts = some vs ∧ b = inV v vs := by
  obtain ⟨v, e1, e2⟩ := Option.bind_eq_some_iff.mp h
  obtain ⟨vs, e3, e4⟩ := Option.bind_eq_some_iff.mp e2
  cases e4
  exact ⟨v, vs, e1, e3, rfl⟩
theorem in_core {K : PySem.W.Frag} {F H : Hp} {t u : T} {x y : V} {p q : FP} {ts : List T} {b : Bool} (ex : Ex F H) (ht : Rep K F H t x p) (hu : Rep K F H u y q) (hi : items u = some ts) (h : inT t ts = some b) :
    ∃ a xs, y = .ref a ∧ (SqL K H a xs ∨ SqT K H a xs) ∧ flatV x = true ∧ xs.all flatV = true ∧ inV x xs = b := by
  obtain ⟨v, vs, e1, e2, rfl⟩ := inT_ h
  obtain ⟨rfl, f1⟩ := rep_fl ht e1
  cases u <;> first | (cases hi; done) | skip
  · cases hi
    obtain ⟨a, xs, rfl, s1, r1⟩ := hu.seqT ex
    obtain ⟨rfl, f2⟩ := reps_fl r1 e2
    exact ⟨a, xs, rfl, .inr s1, f1, f2, rfl⟩
  · cases hi
    obtain ⟨a, xs, q, rfl, s1, r1, _⟩ := hu.seqL ex
    obtain ⟨rfl, f2⟩ := reps_fl r1 e2
    exact ⟨a, xs, rfl, .inl (.inl s1), f1, f2, rfl⟩
theorem inL_ {t : T} {ts : List T} {b : Bool} (h : inL t ts = some b) : inT t ts = some b ∨ ∃ d ds, pd t = some d ∧ pds ts = some ds ∧ SeqAt.shaped d = true ∧ SeqAt.shaped (.list ds) = true ∧ b = ds.any fun z => PyData.eqv z d := by
  unfold inL at h
  split at h
  · rename_i b' e; cases h; exact .inl e
  · split at h
    · rename_i d ds e1 e2
      by_cases hz : (SeqAt.shaped d && SeqAt.shaped (.list ds)) = true
      · rw [if_pos hz] at h; cases h
        rw [Bool.and_eq_true] at hz
        exact .inr ⟨d, ds, e1, e2, hz.1, hz.2, rfl⟩
      · rw [if_neg hz] at h; cases h
    · cases h
theorem op_inDct (hu : X.A.units + 1 < cLine) : OpR X (compareOp .In) (fun x y H Q => ∃ a o, y = .ref a ∧ DGet H a x o ∧ Q (.bl o.isSome) H) := fun pins s σ H x y v u Q I rx ry ⟨a, o, e, g, q⟩ => by
  subst e; cases ry
  exact d_in hu I g rx fun s' I' => ⟨.bl o.isSome, H, I', rfl, q⟩
theorem op_notInDct (hu : X.A.units + 1 < cLine) : OpR X (compareOp .NotIn) (fun x y H Q => ∃ a o, y = .ref a ∧ DGet H a x o ∧ Q (.bl (!o.isSome)) H) := fun pins s σ H x y v u Q I rx ry ⟨a, o, e, g, q⟩ => by
  subst e; cases ry
  exact d_notIn hu I g rx fun s' I' => ⟨.bl (!o.isSome), H, I', rfl, q⟩
theorem idx_contains {ks : List (List Key)} {xs : List V} (hl : ks.length = xs.length) (k : Key) : ((ks.idxOf? [k]).bind fun i => xs[i]?).isSome = ks.contains [k] := by
  cases e : ks.idxOf? [k] with
  | none =>
    have := none_idx e
    simp [this]
  | some i =>
    obtain ⟨h1, h2⟩ := some_idx e
    have : [k] ∈ ks := List.mem_of_getElem? h2
    show (xs[i]?).isSome = _
    rw [List.getElem?_eq_getElem (hl ▸ h1)]
    simp [this]
theorem or_in (hu : X.A.units + 64 < cLine) (hu2 : X.A.units + 65 < cLine) : OpR X (compareOp .In) (rT2 X.K .isin) := opr_any fun x y H Q h => by
  obtain ⟨F, t, u, p, q, r, ex, ht, hu, e, k⟩ := h
  cases u <;> first | (cases t <;> cases e; done) | skip
  · obtain ⟨b, e1, rfl⟩ := Option.map_eq_some_iff.mp (show (inT t _).map T.bl = some r by cases t <;> exact e)
    obtain ⟨a, xs, rfl, s1, f1, f2, rfl⟩ := in_core ex ht hu rfl e1
    exact ⟨_, op_in_seq, a, xs, rfl, s1, f1, f2, d_bl k ex⟩
  · rename_i o ts
    obtain ⟨b, e1, rfl⟩ := Option.map_eq_some_iff.mp (show (inL t ts).map T.bl = some r by cases t <;> exact e)
    rcases inL_ e1 with e1 | ⟨d, ds, g1, g2, g3, g4, rfl⟩
    · obtain ⟨a, xs, rfl, s1, f1, f2, rfl⟩ := in_core ex ht hu rfl e1
      exact ⟨_, op_in_seq, a, xs, rfl, s1, f1, f2, d_bl k ex⟩
    · exact ⟨_, op_inD hu2, d, ds, ht.dp ex g1, hu.dp ex (show pd (.lst o ts) = some (.list ds) by show (pds ts).map PyData.list = _; rw [g2]; rfl), g3, g4, d_bl k ex⟩
  · rename_i o kd ks ts
    cases kd with
    | true => cases t <;> cases e
    | false =>
      obtain ⟨kk, e1, rfl⟩ := Option.map_eq_some_iff.mp (show (keyT t).map (fun k => T.bl (ks.contains [k])) = some r by cases t <;> exact e)
      obtain ⟨rfl, _, _⟩ := keyT_kV ht e1
      obtain ⟨a, ys, q0, rfl, g, r1, sub, hl, _⟩ := hu.dget ex kk
      exact ⟨_, op_inDct (by omega), a, _, rfl, g, by rw [idx_contains hl]; exact d_bl k ex⟩
theorem or_notin (hu : X.A.units + 64 < cLine) (hu2 : X.A.units + 65 < cLine) : OpR X (compareOp .NotIn) (rT2 X.K .notin) := opr_any fun x y H Q h => by
  obtain ⟨F, t, u, p, q, r, ex, ht, hu, e, k⟩ := h
  cases u <;> first | (cases t <;> cases e; done) | skip
  · obtain ⟨b, e1, rfl⟩ := Option.map_eq_some_iff.mp (show (inT t _).map (fun b => T.bl (!b)) = some r by cases t <;> exact e)
    obtain ⟨a, xs, rfl, s1, f1, f2, rfl⟩ := in_core ex ht hu rfl e1
    exact ⟨_, op_notIn_seq, a, xs, rfl, s1, f1, f2, d_bl k ex⟩
  · rename_i o ts
    obtain ⟨b, e1, rfl⟩ := Option.map_eq_some_iff.mp (show (inL t ts).map (fun b => T.bl (!b)) = some r by cases t <;> exact e)
    rcases inL_ e1 with e1 | ⟨d, ds, g1, g2, g3, g4, rfl⟩
    · obtain ⟨a, xs, rfl, s1, f1, f2, rfl⟩ := in_core ex ht hu rfl e1
      exact ⟨_, op_notIn_seq, a, xs, rfl, s1, f1, f2, d_bl k ex⟩
    · exact ⟨_, op_notInD hu2, d, ds, ht.dp ex g1, hu.dp ex (show pd (.lst o ts) = some (.list ds) by show (pds ts).map PyData.list = _; rw [g2]; rfl), g3, g4, d_bl k ex⟩
  · rename_i o kd ks ts
    cases kd with
    | true => cases t <;> cases e
    | false =>
      obtain ⟨kk, e1, rfl⟩ := Option.map_eq_some_iff.mp (show (keyT t).map (fun k => T.bl (!ks.contains [k])) = some r by cases t <;> exact e)
      obtain ⟨rfl, _, _⟩ := keyT_kV ht e1
      obtain ⟨a, ys, q0, rfl, g, r1, sub, hl, _⟩ := hu.dget ex kk
      exact ⟨_, op_notInDct (by omega), a, _, rfl, g, by rw [idx_contains hl]; exact d_bl k ex⟩
/-! ### slices -/
def tevO (K : PySem.W.Frag) (P : Pg) (b : E) : TO := fun σ H Q => ∃ F sl p t slx o, Ex F H ∧ SlR K F H sl σ p ∧ ev P .o b (brw sl) = some (t, slx) ∧ partE b t = some o ∧ ∀ F' H', Ex F' H' → Stp nop F H nop F' H' → Q o H'
theorem po_imp {e : Option Expr} {t t' : TO} (h1 : PO X e t) (h : ∀ σ H Q, t' σ H Q → t σ H Q) : PO X e t' := ⟨fun pins s σ H Q I w => h1.run pins s σ H Q I (h σ H Q w)⟩
theorem so_none : PO X none (tevO X.K P (.cst .non)) := po_imp po_none fun σ H Q ⟨F, sl, p, t, slx, o, ex, S, e, e2, k⟩ => by
  cases e2
  exact k F H ex Stp.refl
def isNonE : E → Bool
  | .cst .non => true
  | _ => false
theorem so_some (hb : Sd X P b b') (hn : isNonE b' = false) : PO X (some b) (tevO X.K P b') := po_imp (po_some (hb.v .o (by decide))) fun σ H Q ⟨F, sl, p, t, slx, o, ex, S, e, e2, k⟩ => by
  obtain ⟨i, rfl, rfl⟩ : ∃ i, t = .int i ∧ o = some i := by
    unfold partE at e2
    split at e2
    · cases hn
    · cases e2; exact ⟨_, rfl, rfl⟩
    · cases e2
  exact borrow ex S e rfl fun v F' H' ex' R' st => by
    obtain ⟨rfl, _⟩ := R'.int'
    exact ⟨i, rfl, k F' H' ex' st⟩
theorem cut_reps {K : PySem.W.Frag} {F H : Hp} {ts : List T} {xs : List V} {p : FP} {lo hi : Option Int} (R : Reps K F H ts xs p) (f : isFs ts = true) : Reps K F H (cutT ts lo hi) (cutV xs lo hi) nop ∧ isFs (cutT ts lo hi) = true := by
  have R0 : Reps K F H ts xs nop := R.cg fun b => ⟨fun x => R.of_isFs f b x, fun x => x.elim⟩
  have l := R.length
  unfold cutT cutV
  rw [← l]
  obtain ⟨r1, s1, _, h2, _, h4⟩ := R0.take' (HT.sIx ts.length 0 lo)
  obtain ⟨r2, s2, h5, _, _, h6⟩ := h2.take' (HT.sIx ts.length ts.length hi - HT.sIx ts.length 0 lo)
  have allF : ∀ {l : List T}, isFs l = true ↔ ∀ t ∈ l, isF t = true := fun {l} => by
    induction l with
    | nil => simp [isFs]
    | cons t l ih => simp [isFs, ih]
  refine ⟨h5.cg fun b => ⟨fun x => (h4 b).mpr (.inr ((h6 b).mpr (.inl x))), fun x => x.elim⟩, allF.mpr fun t ht => allF.mp f t (List.mem_of_mem_drop (List.mem_of_mem_take ht))⟩
theorem ev_slc {m : Md} {sl sl' : SL} {t : T} (h : ev P m (.slc a' b' c') sl = some (t, sl')) : ∃ t1 sl1 x sx y sy lo hi r, ev P .o a' sl = some (t1, sl1) ∧ ev P .o b' (brw sl1) = some (x, sx) ∧ ev P .o c' (brw sl1) = some (y, sy) ∧ partE b' x = some lo ∧ partE c' y = some hi ∧ sliceT t1 lo hi = some r ∧ fin m false r sl1 = some (t, sl') := by
  simp only [ev, Option.bind_eq_some_iff] at h
  obtain ⟨⟨t1, sl1⟩, e1, ⟨x, sx⟩, e2, ⟨y, sy⟩, e3, lo, e4, hi, e5, r, e6, e7⟩ := h
  exact ⟨t1, sl1, x, sx, y, sy, lo, hi, r, e1, e2, e3, e4, e5, e6, e7⟩
theorem plain_slc : Plain P (.slc a' b' c') := fun sl t sl' h => by
  obtain ⟨t1, sl1, x, sx, y, sy, lo, hi, r, e1, e2, e3, e4, e5, e6, e7⟩ := ev_slc h
  obtain ⟨b, h1, h2, rfl⟩ := fin_t e7
  exact ⟨r, b, by simp only [ev, e1, e2, e3, e4, e5, e6, Option.bind_some, fin], h1, h2⟩
theorem core_slc {σ : L2.St} {H : Hp} {t1 : T} {sl1 : SL} {x y : T} {sx sy : SL} {lo hi : Option Int} {F : Hp} {sl : SL} {p : FP} {G : V → Option Int → Option Int → Hp → Prop} (ex : Ex F H) (S : SlR X.K F H sl σ p) (e1 : ev P .o a' sl = some (t1, sl1)) (e2 : ev P .o b' (brw sl1) = some (x, sx)) (e3 : ev P .o c' (brw sl1) = some (y, sy)) (e4 : partE b' x = some lo) (e5 : partE c' y = some hi)
    (k : ∀ v F' H' pv p', Ex F' H' → SlR X.K F' H' sl1 σ p' → Rep X.K F' H' t1 v pv → Stp p F H (fun a => pv a ∨ p' a) F' H' → G v lo hi H') : tev X.K P .o a' σ H fun v H1 => tevO X.K P b' σ H1 fun l H2 => tevO X.K P c' σ H2 fun u H3 => G v l u H3 := by
  refine ⟨F, sl, p, t1, sl1, ex, S, e1, fun v F1 H1 pv1 p1 ex1 S1 R1 d1 st1 => ⟨F1, sl1, p1, x, sx, lo, ex1, S1, e2, e4, fun F2 H2 ex2 st2 => ?_⟩⟩
  obtain ⟨a1, _, a3⟩ := st2.frame (r := fun a => pv1 a ∨ p1 a) (fun a x => x.elim (R1.own a) (S1.own a)) fun _ x => x.elim
  have S2 := S1.frame st2.ex fun a x => a1 a (.inr x)
  have R2 := R1.frame st2.ex fun a x => a1 a (.inl x)
  refine ⟨F2, sl1, p1, y, sy, hi, ex2, S2, e3, e5, fun F3 H3 ex3 st3 => ?_⟩
  obtain ⟨b1, _, b3⟩ := st3.frame (r := fun a => pv1 a ∨ p1 a) (fun a x => x.elim (R2.own a) (S2.own a)) fun _ x => x.elim
  refine k v F3 H3 pv1 p1 ex3 (S2.frame st3.ex fun a x => b1 a (.inr x)) (R2.frame st3.ex fun a x => b1 a (.inl x)) ?_
  exact (st1.trans (((a3.cg fun a => ⟨fun x => x.elim (fun z => z.elim) id, .inr⟩).sub fun a x => .inr x).trans (b3.cg fun a => ⟨fun x => x.elim (fun z => z.elim) id, .inr⟩))).sub fun a x => .inr x
theorem sd_slc {lo hi : Option Expr} {p2 : Pos} (ha : Sd X P a a') (hl : PO X lo (tevO X.K P b')) (hh : PO X hi (tevO X.K P c')) : Sd X P (.Subscript a (.Slice lo hi none p2) pos) (.slc a' b' c') :=
  have v : ∀ m, m ≠ .t → PE X (.Subscript a (.Slice lo hi none p2) pos) (tev X.K P m (.slc a' b' c')) := fun m hm => pe_any fun σ H Q ⟨F, sl, p, t, sl', ex, S, e, k⟩ => by
    obtain ⟨t1, sl1, x, sx, y, sy, l, h, r, e1, e2, e3, e4, e5, e6, e7⟩ := ev_slc e
    obtain ⟨rfl, rfl, _⟩ := fin_some hm e7
    cases t1 <;> first | (cases e6; done) | skip
    · rename_i ts
      have e' : (if isFs ts then some (T.tup (cutT ts l h)) else none) = some _ := e6
      by_cases f : isFs ts = true
      · rw [if_pos f] at e'; cases e'
        refine ⟨_, pe_slice L2.sl_tupA (ha.v .o (by decide)) hl hh, core_slc ex S e1 e2 e3 e4 e5 fun v F' H' pv p' ex' S' R st => ?_⟩
        obtain ⟨a0, xs, rfl, s1, r1⟩ := R.seqT ex'
        obtain ⟨c1, c2⟩ := cut_reps (lo := l) (hi := h) r1 f
        have st' : Stp p F H p' F' H' := st.sub fun a x => .inr x
        refine ⟨a0, xs, rfl, s1, fun hw => ?_, fun hw q nq => ?_⟩
        · have ew : cutT ts l h = ts := by
            unfold cutT
            rw [r1.length, hw.1, hw.2, List.drop_zero, Nat.sub_zero, ← r1.length, List.take_length]
          rw [ew] at k
          have R0 : Rep X.K F' H' (.tup ts) (.ref a0) nop := R.cg fun b => ⟨fun x => R.of_isF (by simpa [isF] using f) b x, fun x => x.elim⟩
          exact k.op S' st' _ F' H' nop ex' R0 Stp.refl
        · obtain ⟨b1, b2, b3⟩ := new_tup ex' nq c1
          exact k.op S' st' _ _ _ _ b1 b2 b3
      · rw [if_neg f] at e'; cases e'
    · rename_i o ts
      have e' : (if isFs ts then some (T.lst true (cutT ts l h)) else none) = some _ := e6
      by_cases f : isFs ts = true
      · rw [if_pos f] at e'; cases e'
        refine ⟨_, pe_slice L2.sl_list (ha.v .o (by decide)) hl hh, core_slc ex S e1 e2 e3 e4 e5 fun v F' H' pv p' ex' S' R st => ?_⟩
        obtain ⟨a0, xs, q0, rfl, s1, r1, _⟩ := R.seqL ex'
        obtain ⟨c1, c2⟩ := cut_reps (lo := l) (hi := h) r1 f
        have st' : Stp p F H p' F' H' := st.sub fun a x => .inr x
        refine ⟨a0, xs, rfl, .inl s1, fun q nq => ?_⟩
        obtain ⟨b1, b2, b3⟩ := new_lst ex' nq c1
        exact k.op S' st' _ _ _ _ b1 b2 b3
      · rw [if_neg f] at e'; cases e'
  ⟨v, pt_plain (v .o (by decide)) plain_slc fun _ => rfl⟩
/-! ### isinstance -/
def isiT : Nat → String
  | 0 => "bool"
  | 1 => "int"
  | 2 => "str"
  | 3 => "tuple"
  | 4 => "list"
  | _ => "dict"
theorem tyx_lst {K : PySem.W.Frag} {H : Hp} {a : Addr} {xs : List V} (h : Rd H a (.lst xs)) : TyX K H (.ref a) (.type "list") := h.elim (fun z => .base (.lst z)) fun ⟨o, z⟩ => .base (.frz z)
theorem tyx_tup {K : PySem.W.Frag} {H : Hp} {a : Addr} {xs : List V} (h : SqT K H a xs) : TyX K H (.ref a) (.type "tuple") := by
  rcases h with (h | ⟨o, h⟩) | ⟨o, its, n, e, c, _⟩
  · exact .base (.tup h)
  · exact .fTuple h
  · exact .kTuple e c
def tagT : T → Option String
  | .non => some "NoneType"
  | .bl _ => some "bool"
  | .int _ => some "int"
  | .str _ => some "str"
  | .tup _ => some "tuple"
  | .lst _ _ => some "list"
  | _ => none
theorem tyx_of {K : PySem.W.Frag} {F H : Hp} {t : T} {v : V} {p : FP} {g : String} (ex : Ex F H) (h : tagT t = some g) (R : Rep K F H t v p) : TyX K H v (.type g) := by
  cases t <;> first | (cases h; done) | skip
  all_goals cases h
  · obtain ⟨rfl, _⟩ := R.non'; exact .base .non
  · obtain ⟨rfl, _⟩ := R.bl'; exact .base (.bl _)
  · obtain ⟨rfl, _⟩ := R.int'; exact .base (.int _)
  · obtain ⟨rfl, _⟩ := R.str'; exact .base (.str _)
  · obtain ⟨a, xs, rfl, s, _⟩ := R.seqT ex; exact tyx_tup s
  · obtain ⟨a, xs, q, rfl, s, _⟩ := R.seqL ex; exact tyx_lst s
theorem isi_tag {k : Nat} {t r : T} (h : op1 (.isi k) t = some r) : ∃ g b, tagT t = some g ∧ r = .bl b ∧ kitB g (isiT k) = some b := by
  cases t <;> first | (cases h; done) | skip
  all_goals cases h
  all_goals refine ⟨_, _, rfl, rfl, ?_⟩
  all_goals match k with
    | 0 => decide +kernel
    | 1 => decide +kernel
    | 2 => decide +kernel
    | 3 => decide +kernel
    | 4 => decide +kernel
    | k + 5 => change kitB _ "dict" = some false; decide +kernel
theorem sd_isi {k : Nat} {n : Str} {p p2 : Pos} (hg : Gl X "isinstance") (hm : X.mg "isinstance" = none) (hg2 : Gl X n) (hm2 : X.mg n = none) (hv : bootBuiltins n = some (.type (isiT k))) (hn : n ≠ "__name__") (hdb : (n == ("__debug__" : Str)) = false) (ha : Sd X P a a')
    (he : starEach [a, .Name n p2] X.env = (false, eval a X.env) :: starEach [.Name n p2] X.env) : Sd X P (.Call (.Name "isinstance" p) [a, .Name n p2] [] pos) (.op1 (.isi k) a') :=
  have v : ∀ m, m ≠ .t → PE X (.Call (.Name "isinstance" p) [a, .Name n p2] [] pos) (tev X.K P m (.op1 (.isi k) a')) := fun m hmm => pe_imp (pe_callB call_isi hg hm boot_isinstance (pa_cons (ha.v .o (by decide)) (pa_cons (pe_bltn hg2 hm2 hv (v := .ty (isiT k)) rfl hn hdb) pa_nil rfl) he) (by decide) (by decide) he rfl) fun σ H Q h => by
    obtain ⟨F, sl, p, t, sl', ex, S, e, kk⟩ := h
    obtain ⟨t1, sl1, r, e1, e3, e4⟩ := ev_op1 e
    obtain ⟨rfl, rfl, _⟩ := fin_some hmm e4
    obtain ⟨g, b, h1, rfl, h3⟩ := isi_tag e3
    exact ⟨F, sl, p, t1, _, ex, S, e1, fun v F' H' pv p' ex' S' R d st => ⟨v, _, _, _, b, rfl, .ty _, tyx_of ex' h1 R, kit_ty h3, kk _ F' H' nop p' ex' S' (.bl fun _ x => x) (fun _ _ x => x.elim) (st.sub fun a x => x.elim (fun z => z.elim) .inr)⟩⟩
  ⟨v, pt_plain (v .o (by decide)) plain_op1 fun _ => rfl⟩
/-! ### a part taken out, frozen where it stands -/
theorem sd_frzp (he : Sd X P x e) (hp : SdP X P x a') : Sd X P x (.frzp e a') where
  v := fun m hm => by
    cases m with
    | t => exact absurd rfl hm
    | o => exact pe_imp (he.v .o (by decide)) fun σ H Q ⟨F, sl, p, t, sl', ex, S, e0, k⟩ => ⟨F, sl, p, t, sl', ex, S, by simpa only [ev] using e0, k⟩
    | e =>
      refine pe_any fun σ H Q ⟨F, sl, p, t, sl', ex, S, e0, k⟩ => ?_
      simp only [ev, Option.bind_eq_some_iff] at e0
      obtain ⟨⟨t1, sl1⟩, e1, e2⟩ := e0
      by_cases f : isF t1 = true
      · rw [if_pos f] at e2; cases e2
        exact ⟨_, he.v .o (by decide), F, sl, p, _, _, ex, S, e1, fun v F' H' pv p' ex' S' R' dj st => k v F' H' pv p' ex' S' R' (fun _ a x _ => R'.of_isF f a x) st⟩
      · rw [if_neg f] at e2
        obtain ⟨⟨t2, put⟩, e3, e4⟩ := Option.bind_eq_some_iff.mp e2
        cases e4
        refine ⟨_, hp.v, F, sl, p, _, put, ex, S, e3, fun v F' H' q s ex' R dj S' sub W st => ?_⟩
        have exF : Ex F' (frF F' H' q) := frF_ex fun a x => (R.own a x).1
        have R2 : Rep X.K (frF F' H' q) H' (frz t2) v nop := R.frz exF fun a x => frF_in x
        obtain ⟨p', sub2, S2⟩ := W.2 (frF F' H' q) H' (frz t2) nop exF (fun a x => ⟨(frF_out fun z => dj a z x).trans (W.1 a x).1, rfl⟩) R2 fun _ x => x.elim
        have sp : ∀ a, p' a → p a := fun a x => (sub2 a x).elim (fun z => z.elim) fun z => sub a (.inr z)
        obtain ⟨a1, a2, a3⟩ := st.frame S.own fun _ x => x.elim
        have st1 : Stp p F H p F' H' := (a3.cg fun a => ⟨fun x => x.elim (fun z => z.elim) id, .inr⟩).sub fun a x => .inr x
        have st2 : Stp p F' H' p' (frF F' H' q) H' := ⟨exF, fun _ _ h _ => h, fun a o h n => frF_out fun z => n (sub a (.inl z)), fun a x => .inl (sp a x)⟩
        exact k v (frF F' H' q) H' nop p' (frF_sub ex') S2 R2 (fun _ _ x => x.elim) ((st1.trans st2).sub fun a x => x.elim (fun z => z.elim) id)
  t := pt_imp he.t fun σ H Q ⟨F, sl, p, b, sl', ex, S, e0, k⟩ => ⟨F, sl, p, b, sl', ex, S, by simpa only [ev] using e0, k⟩
/-! ### what is not covered -/
theorem sd_bad : Sd X P x .bad := ⟨fun m hm => ⟨fun pins s σ H Q I ⟨F, sl, p, t, sl', ex, S, e, k⟩ => by simp only [ev] at e; cases e⟩, pt_none fun sl => by simp only [ev]⟩
theorem sp_bad : SdP X P x .bad := ⟨⟨fun pins s σ H Q I ⟨F, sl, p, t, put, ex, S, e, k⟩ => by simp only [plc] at e; cases e⟩⟩
theorem si_bad {tg : Expr} : PI X tg x (tevI X.K P .bad) := ⟨fun pins s σ H Q I ⟨F, sl, p, ts, sl', ex, S, e, k⟩ => by simp only [evI] at e; cases e⟩
theorem ss_bad {st : Stmt} : PS X st (tevS X.K P .bad) := ⟨fun pins s σ H D I ⟨F, sl, p, fl, sl', ex, S, e, k⟩ => by simp only [evS] at e; cases e⟩
end
end Pv

/-! Dicts: in, len, copies, displays, get, comprehensions. -/
namespace Pv
open PySem L2 PyProof.Rows
theorem DW.nil : DW false [] 0 := ⟨rfl, fun _ k h => (by cases h), List.nodup_nil⟩
section
variable {K : PySem.W.Frag} {F F' H H' : Hp} {p q r pv : FP}
/-- an entry stored in rows -/
theorem putR {ks : List (List Key)} {ts : List T} {xs : List V} {t : T} {v : V} (w : DW false ks xs.length) (R : Reps K F H ts xs q) (Rt : Rep K F H t v pv) (dj : Dj pv q) (k : Key) :
    ∃ ys q', putK ((ks.map key1).zip xs) k v = ((putD ks ts [k] t).1.map key1).zip ys ∧ Reps K F H (putD ks ts [k] t).2 ys q' ∧ (∀ b, q' b → q b ∨ pv b) ∧ DW false (putD ks ts [k] t).1 ys.length := by
  have hl := R.length
  have w2 := w.put k ts t hl
  have pk := putK_zip (w.one rfl) w.nd w.len k v
  unfold putD at w2 ⊢
  cases ei : ks.idxOf? [k] with
  | some j =>
    rw [ei] at pk w2
    have hj2 : j < ts.length := by rw [hl, ← w.len]; exact (some_idx ei).1
    obtain ⟨w0, qi, ri, g1, R1, dji, e2, Ri⟩ := R.focus (i := j) (t := ts[j]) (by simp [hj2])
    have R2 := Ri.put (i := j) (t := t) (v := v) (q := pv) (by rw [List.getElem?_set_self hj2]) Rt fun b x y => dj b x ((e2 b).mpr (.inr y))
    rw [List.set_set] at R2
    exact ⟨_, _, pk, R2, fun b x => x.elim .inr fun y => .inl ((e2 b).mpr (.inr y)), by rw [List.length_set, ← w.len]; exact ⟨rfl, w.one, w.nd⟩⟩
  | none =>
    rw [ei] at pk w2
    have R2 := R.app (Reps.one Rt) fun b x y => dj b y x
    refine ⟨_, _, pk, R2, fun b x => x, ?_⟩
    have : (xs ++ [v]).length = (ts ++ [t]).length := by simp [hl]
    rw [this]; exact w2
theorem mrgR : ∀ {ps : List (Key × T)} {vs : List V} {pv : FP}, Reps K F H (ps.map (·.2)) vs pv → ∀ {ks : List (List Key)} {ts : List T} {xs : List V} {q : FP}, DW false ks xs.length → Reps K F H ts xs q → Dj pv q →
    ∃ ys q', mergeK ((ks.map key1).zip xs) ((ps.map (·.1)).zip vs) = ((mrgD ps (ks, ts)).1.map key1).zip ys ∧ Reps K F H (mrgD ps (ks, ts)).2 ys q' ∧ (∀ b, q' b → q b ∨ pv b) ∧ DW false (mrgD ps (ks, ts)).1 ys.length
  | [], _, _, .nil _, ks, ts, xs, q, w, R, dj => ⟨xs, q, rfl, R, fun b x => .inl x, w⟩
  | p :: ps, _, _, .cons (v := v) (vs := vs) (p := p1) (q := p2) h hs d e, ks, ts, xs, q, w, R, dj => by
    obtain ⟨ys, q', e1, R1, s1, w1⟩ := putR w R h (fun b x y => dj b ((e b).mpr (.inl x)) y) p.1
    obtain ⟨zs, q2, e2, R2, s2, w2⟩ := mrgR hs w1 R1 fun b x y => (s1 b y).elim (fun z => dj b ((e b).mpr (.inr x)) z) fun z => d b z x
    refine ⟨zs, q2, ?_, R2, fun b x => (s2 b x).elim (fun y => (s1 b y).imp id fun z => (e b).mpr (.inl z)) fun y => .inr ((e b).mpr (.inr y)), w2⟩
    show mergeK (putK ((ks.map key1).zip xs) p.1 v) ((ps.map (·.1)).zip vs) = _
    rw [e1]; exact e2
theorem mrgR0 {ps : List (Key × T)} {vs : List V} {pv : FP} (R : Reps K F H (ps.map (·.2)) vs pv) : ∃ ys q', mergeK [] ((ps.map (·.1)).zip vs) = ((mrgD ps ([], [])).1.map key1).zip ys ∧ Reps K F H (mrgD ps ([], [])).2 ys q' ∧ (∀ b, q' b → pv b) ∧ DW false (mrgD ps ([], [])).1 ys.length := by
  obtain ⟨ys, q', a, b, c, d⟩ := mrgR R (ks := []) (ts := []) (xs := []) (q := nop) DW.nil (.nil fun _ x => x) fun _ _ x => x
  exact ⟨ys, q', a, b, fun b x => (c b x).elim (fun z => z.elim) id, d⟩
/-- a list of pairs -/
theorem prs_ok (ex : Ex F H) : ∀ {ts : List T} {xs : List V} {p : FP} {ps : List (Key × T)}, Reps K F H ts xs p → prsT ts = some ps → ∃ as vs q, xs = as.map V.ref ∧ Reps K F H (ps.map (·.2)) vs q ∧ (∀ b, q b → p b) ∧ Paired (fun a kv => SqT K H a [kV kv.1, kv.2]) as ((ps.map (·.1)).zip vs)
  | [], _, _, ps, .nil e, h => by cases h; exact ⟨[], [], nop, rfl, .nil fun _ x => x, fun _ x => x.elim, .nil⟩
  | t :: ts, _, _, ps, .cons h0 hs d e, h => by
    unfold prsT at h
    split at h
    · cases ‹t :: ts = []›
    · rename_i k v ts' e0
      cases e0
      obtain ⟨kk, h1, h2⟩ := Option.bind_eq_some_iff.mp h
      obtain ⟨r, h3, h4⟩ := Option.bind_eq_some_iff.mp h2
      cases h4
      obtain ⟨as, vs, q, e1, R, sub, P⟩ := prs_ok ex hs h3
      subst e1
      obtain ⟨a, ys, rfl, s1, r1⟩ := h0.seqT ex
      cases r1 with
      | cons g1 g2 d1 e1 =>
        cases g2 with
        | cons g3 g4 d2 e2 =>
          cases g4 with
          | nil _ =>
            obtain ⟨rfl, _, _⟩ := keyT_kV g1 h1
            rename_i q3 _
            refine ⟨a :: as, _ :: vs, _, rfl, .cons g3 R (fun b x y => d b ((e1 b).mpr (.inr ((e2 b).mpr (.inl x)))) (sub b y)) fun b => Iff.rfl, fun b x => (e b).mpr (x.imp (fun y => (e1 b).mpr (.inr ((e2 b).mpr (.inl y)))) (sub b)), .cons s1 P⟩
    · cases h
theorem alt_ok : ∀ {ts : List T} {xs : List V} {p : FP} {ps : List (Key × T)}, Reps K F H ts xs p → altT ts = some ps → ∃ vs q, Reps K F H (ps.map (·.2)) vs q ∧ (∀ b, q b → p b) ∧ xs = (((ps.map (·.1)).zip vs).flatMap fun kv => [kV kv.1, kv.2])
  | [], _, _, ps, .nil e, h => by cases h; exact ⟨[], nop, .nil fun _ x => x, fun _ x => x.elim, rfl⟩
  | [t], _, _, ps, _, h => by cases h
  | k :: v :: ts, _, _, ps, .cons h0 (.cons h1 hs d1 e1) d e, h => by
    obtain ⟨kk, g1, g2⟩ := Option.bind_eq_some_iff.mp (show ((keyT k).bind fun k => (altT ts).bind fun r => some ((k, v) :: r)) = some ps from h)
    obtain ⟨r, g3, g4⟩ := Option.bind_eq_some_iff.mp g2
    cases g4
    obtain ⟨rfl, _, _⟩ := keyT_kV h0 g1
    obtain ⟨vs, q, R, sub, rfl⟩ := alt_ok hs g3
    exact ⟨_ :: vs, _, .cons h1 R (fun b x y => d1 b x (sub b y)) fun b => Iff.rfl, fun b x => (e b).mpr (.inr ((e1 b).mpr (x.imp id (sub b)))), rfl⟩
end
section
variable {X : Cx} {P : Pg} {a b c x y : Expr} {xs : List Expr} {a' b' c' e : E} {es : Es} {pos : Pos}
theorem cr_copyD : CallR X (.type "dict") (fun xs H Q => ∃ a kvs, xs = [.ref a] ∧ Rd H a (.dK kvs) ∧ ∀ b, H b = none → Q (.ref b) (upd H b (.dK kvs))) := fun pins s σ H xs us Q I r ⟨a, kvs, e, rd, q⟩ => by
  subst e; rw [Vals.ref1 r]
  exact d_copyOf I rd fun b s' nb I' => ⟨.ref b, _, I', rfl, q b nb⟩
theorem cr_dict1 (hc : X.calm = true) : CallR X (.type "dict") (rC1 X.K .dict) := callr_any fun xs H Q h => by
  obtain ⟨x, rfl, F, t, p, r, ex, ht, e, k⟩ := h
  cases t <;> first | (cases e; done) | skip
  · rename_i o ts
    obtain ⟨a, ys, q, rfl, s1, r1, _⟩ := ht.seqL ex
    have e' : (if isFs ts && decide (ts.length < 10000000) then (prsT ts).map fun ps => T.dct .own false (mrgD ps ([], [])).1 (mrgD ps ([], [])).2 else none) = some r := e
    by_cases f : (isFs ts && decide (ts.length < 10000000)) = true
    · rw [if_pos f] at e'
      obtain ⟨ps, e1, rfl⟩ := Option.map_eq_some_iff.mp e'
      rw [Bool.and_eq_true] at f
      have n0 := r1.of_isFs f.1
      obtain ⟨as, vs, q1, rfl, R, sub, Pr⟩ := prs_ok ex r1 e1
      obtain ⟨zs, q2, e2, R2, s2, w2⟩ := mrgR0 R
      refine ⟨_, call_dictP hc, a, as, _, rfl, .inl s1, Pr, fun b nb => ?_⟩
      rw [e2]
      obtain ⟨a1, a2, a3⟩ := new_dct ex nb R2 w2
      exact k _ _ _ _ a1 a2 (a3.nop_of fun b x => n0 b (sub b (s2 b x)))
    · rw [if_neg f] at e'; cases e'
  · rename_i o kd ks ts
    cases kd with
    | true => cases e
    | false =>
      have e' : (if isFs ts then some (T.dct .own false ks ts) else none) = some r := e
      by_cases f : isFs ts = true
      · rw [if_pos f] at e'; cases e'
        obtain ⟨a, ys, q, rfl, rd, w, r1, _⟩ := ht.dctR ex
        refine ⟨_, cr_copyD, a, _, rfl, rd, fun b nb => ?_⟩
        obtain ⟨a1, a2, a3⟩ := new_dct ex nb r1 w
        exact k _ _ _ _ a1 a2 (a3.nop_of (r1.of_isFs f))
      · rw [if_neg f] at e'; cases e'
/-! ### {} -/
theorem sd_dnew : Sd X P (.Dict [] [] pos) .dnew :=
  have v : ∀ m, m ≠ .t → PE X (.Dict [] [] pos) (tev X.K P m .dnew) := fun m hm => pe_imp pe_dnewK fun σ H Q ⟨F, sl, p, t, sl', ex, S, e, k⟩ a na => by
    simp only [ev] at e
    obtain ⟨rfl, rfl, _⟩ := fin_some hm e
    obtain ⟨a1, a2, a3⟩ := new_dct (K := X.K) (ks := []) (ts := []) (xs := []) (q := nop) ex na (.nil fun _ x => x) DW.nil
    exact k.op S Stp.refl _ _ _ _ a1 a2 (a3.cg fun _ => Iff.rfl)
  ⟨v, pt_plain (v .o (by decide)) (fun sl t sl' h => by
    simp only [ev] at h
    obtain ⟨b, h1, h2, rfl⟩ := fin_t h
    exact ⟨_, b, by simp only [ev, fin], h1, h2⟩) fun _ => rfl⟩
/-! ### d.get -/
theorem ev_dget {m : Md} {sl sl' : SL} {t : T} (h : ev P m (.dget a' b') sl = some (t, sl')) : ∃ t1 sl1 t2 sl2 o, ev P .o a' sl = some (t1, sl1) ∧ sec P a' b' t1 sl1 = some (t2, sl2) ∧ getD t1 t2 = some o ∧ fin m o.isSome (o.getD .non) sl2 = some (t, sl') := by
  simp only [ev, Option.bind_eq_some_iff] at h
  obtain ⟨⟨t1, sl1⟩, e1, ⟨t2, sl2⟩, e2, o, e3, e4⟩ := h
  refine ⟨t1, sl1, t2, sl2, o, e1, e2, e3, ?_⟩
  cases o <;> exact e4
theorem plain_dget : Plain P (.dget a' b') := fun sl t sl' h => by
  obtain ⟨t1, sl1, t2, sl2, o, e1, e2, e3, e4⟩ := ev_dget h
  obtain ⟨b, h1, h2, rfl⟩ := fin_t e4
  refine ⟨o.getD .non, b, ?_, h1, h2⟩
  have e2' : (if over a' && !isF t1 then (ev P .o b' (brw sl1)).bind fun r2 => if atom r2.1 then some (r2.1, sl1) else none else ev P .o b' sl1) = some (t2, sl') := e2
  simp only [ev, e1, Option.bind_some, e2', e3, fin]
  cases o <;> rfl
/-- what get gives -/
theorem get_fin {F H : Hp} {od : Dw} {ks : List (List Key)} {us : List T} {v0 : V} {p1 : FP} (ex : Ex F H) (R1 : Rep X.K F H (.dct od false ks us) v0 p1) (kk : Key) :
    ∃ a0 o, v0 = .ref a0 ∧ DGet H a0 (kV kk) o ∧ (((ks.idxOf? [kk]).bind fun i => us[i]?) = none ∧ o = none ∨ ∃ t v q, ((ks.idxOf? [kk]).bind fun i => us[i]?) = some t ∧ o = some v ∧ Rep X.K F H t v q ∧ ∀ b, q b → p1 b) := by
  obtain ⟨a0, ys, q0, rfl, g, r1, sub, hl, _⟩ := R1.dget ex kk
  refine ⟨a0, _, rfl, g, ?_⟩
  cases ei : ks.idxOf? [kk] with
  | none => exact .inl ⟨rfl, rfl⟩
  | some i =>
    have hi : i < us.length := by rw [r1.length, ← hl]; exact (some_idx ei).1
    obtain ⟨v, q2, g2, R, sub2⟩ := r1.at_ (i := i) (t := us[i]) (by simp [hi])
    exact .inr ⟨us[i], v, q2, by simp [hi], g2, R, fun b x => sub b (sub2 b x)⟩
theorem sd_dget {apos : Pos} (hu : X.A.units + 1 < cLine) (ha : Sd X P a a') (hb : Sd X P b b') (m1 : M1 X a "get" apos b pos) : Sd X P (.Call (.Attribute a "get" apos) [b] [] pos) (.dget a' b') :=
  have v : ∀ m, m ≠ .t → PE X (.Call (.Attribute a "get" apos) [b] [] pos) (tev X.K P m (.dget a' b')) := fun m hm => pe_imp (pe_dget1 hu (ha.v .o (by decide)) (hb.v .o (by decide)) m1) fun σ H Q ⟨F, sl, p, t, sl', ex, S, e, k⟩ => by
    obtain ⟨t1, sl1, t2, sl2, o, e1, e2, e3, e4⟩ := ev_dget e
    obtain ⟨rfl, rfl, hf⟩ := fin_some hm e4
    cases t1 <;> first | (cases e3; done) | skip
    rename_i od kd ks us
    cases kd with
    | true => cases e3
    | false =>
      obtain ⟨kk, e5, rfl⟩ := Option.map_eq_some_iff.mp (show (keyT t2).map (fun k => (ks.idxOf? [k]).bind fun i => us[i]?) = some o from e3)
      refine ⟨F, sl, p, _, sl1, ex, S, e1, fun v1 F1 H1 pv1 p1 ex1 S1 R1 d1 st1 => ?_⟩
      obtain ⟨a0, ys, q0, rfl, rd, w, r1, _⟩ := R1.dctR ex1
      refine ⟨a0, rfl, .inl ⟨_, rd⟩, two_snd e2 ex1 S1 R1 d1 st1 fun v2 F' H' pv1 pv2 p' ex' S' R1 R2 dj st => ?_⟩
      obtain ⟨rfl, _, _⟩ := keyT_kV R2 e5
      obtain ⟨a1, o, e6, g, h⟩ := get_fin ex' R1 kk
      cases e6
      refine ⟨o, g, ?_⟩
      rcases h with ⟨h1, rfl⟩ | ⟨t, v, q, h1, rfl, R, sub⟩
      · rw [h1] at k
        exact k .non F' H' nop p' ex' S' (.non fun _ x => x) (fun _ _ x => x.elim) (st.sub fun b x => .inr (x.elim (fun z => z.elim) id))
      · rw [h1] at k hf
        refine k v F' H' q p' ex' S' R (fun z => ?_) (st.sub fun b x => x.imp (sub b) id)
        cases m with
        | t => exact absurd rfl hm
        | e => exact fun b x _ => R.of_isF (hf rfl rfl) b x
        | o => exact fun b x y => dj (by simpa [apart, over] using z) b (sub b x) y
  ⟨v, pt_plain (v .o (by decide)) plain_dget fun _ => rfl⟩
theorem ev_dget2 {m : Md} {sl sl' : SL} {t : T} (h : ev P m (.dget2 a' b' c') sl = some (t, sl')) : ∃ t1 sl1 t2 sx t3 sy o, ev P .o a' sl = some (t1, sl1) ∧ ev P .o b' (brw sl1) = some (t2, sx) ∧ atom t2 = true ∧ ev P .e c' (brw sl1) = some (t3, sy) ∧ Pv.flat t3 = true ∧ getD t1 t2 = some o ∧ fin m o.isSome (o.getD t3) sl1 = some (t, sl') := by
  simp only [ev, Option.bind_eq_some_iff] at h
  obtain ⟨⟨t1, sl1⟩, e1, ⟨t2, sx⟩, e2, e3⟩ := h
  by_cases h1 : atom t2 = true
  · simp only [h1, if_true, Option.bind_eq_some_iff] at e3
    obtain ⟨⟨t3, sy⟩, e4, e5⟩ := e3
    by_cases h2 : Pv.flat t3 = true
    · simp only [h2, if_true, Option.bind_eq_some_iff] at e5
      obtain ⟨o, e6, e7⟩ := e5
      refine ⟨t1, sl1, t2, sx, t3, sy, o, e1, e2, h1, e4, h2, e6, ?_⟩
      cases o <;> exact e7
    · simp only [h2] at e5; cases e5
  · simp only [h1] at e3; cases e3
theorem plain_dget2 : Plain P (.dget2 a' b' c') := fun sl t sl' h => by
  obtain ⟨t1, sl1, t2, sx, t3, sy, o, e1, e2, h1, e4, h2, e6, e7⟩ := ev_dget2 h
  obtain ⟨b, g1, g2, rfl⟩ := fin_t e7
  refine ⟨o.getD t3, b, ?_, g1, g2⟩
  simp only [ev, e1, Option.bind_some, e2, h1, if_true, e4, h2, e6, fin]
  cases o <;> rfl
theorem sd_dget2 {apos : Pos} (hu : X.A.units + 1 < cLine) (ha : Sd X P a a') (hb : Sd X P b b') (hc : Sd X P c c') (m2 : M2 X a "get" apos b c pos) : Sd X P (.Call (.Attribute a "get" apos) [b, c] [] pos) (.dget2 a' b' c') :=
  have v : ∀ m, m ≠ .t → PE X (.Call (.Attribute a "get" apos) [b, c] [] pos) (tev X.K P m (.dget2 a' b' c')) := fun m hm => pe_imp (pe_dget2 hu (ha.v .o (by decide)) (hb.v .o (by decide)) (hc.v .e (by decide)) m2) fun σ H Q ⟨F, sl, p, t, sl', ex, S, e, k⟩ => by
    obtain ⟨t1, sl1, t2, sx, t3, sy, o, e1, e2, h1, e4, h2, e6, e7⟩ := ev_dget2 e
    obtain ⟨rfl, rfl, hf⟩ := fin_some hm e7
    cases t1 <;> first | (cases e6; done) | skip
    rename_i od kd ks us
    cases kd with
    | true => cases e6
    | false =>
      obtain ⟨kk, e5, rfl⟩ := Option.map_eq_some_iff.mp (show (keyT t2).map (fun k => (ks.idxOf? [k]).bind fun i => us[i]?) = some o from e6)
      refine ⟨F, sl, p, _, sl', ex, S, e1, fun v1 F1 H1 pv1 p1 ex1 S1 R1 d1 st1 => ?_⟩
      obtain ⟨a0, ys, q0, rfl, rd, w, r1, _⟩ := R1.dctR ex1
      refine ⟨a0, rfl, .inl ⟨_, rd⟩, borrow ex1 S1 e2 h1 fun v2 F2 H2 ex2 R2 st2 => ?_⟩
      obtain ⟨rfl, _, _⟩ := keyT_kV R2 e5
      obtain ⟨a1, _, a3⟩ := st2.frame (r := fun a => pv1 a ∨ p1 a) (fun a x => x.elim (R1.own a) (S1.own a)) fun _ x => x.elim
      have S2 := S1.frame st2.ex fun a x => a1 a (.inr x)
      have R12 := R1.frame st2.ex fun a x => a1 a (.inl x)
      refine ⟨frF F2 H2 p1, brw sl', nop, t3, sy, frF_sub ex2, S2.brw, e4, fun v3 F3 H3 pv3 p3 ex3 S3 R3 d3 st3 => ?_⟩
      obtain ⟨g1, g2⟩ := unthaw S2.own st3 ex3
      have R3' : Rep X.K (unF F3 p1) H3 t3 v3 pv3 := R3.flat ex3 (fun a x => by
        obtain ⟨o, e, n⟩ := S2.kind a x
        exact ⟨o, st3.keep a o e fun x => x, n⟩) h2
      have st3' := g2.sub (q := pv3) fun a x => .inl x
      obtain ⟨b1, b2, b3⟩ := st3'.frame (r := fun a => pv1 a ∨ p1 a) (fun a x => x.elim (R12.own a) (S2.own a)) fun _ x => x.elim
      have S3' := S2.frame st3'.ex fun a x => b1 a (.inr x)
      have R13 := R12.frame st3'.ex fun a x => b1 a (.inl x)
      obtain ⟨a1, o, e8, g, h⟩ := get_fin g1 R13 kk
      cases e8
      have stA : Stp p F H (fun a => pv3 a ∨ (pv1 a ∨ p1 a)) (unF F3 p1) H3 := st1.trans ((a3.trans (b3.cg fun a => Iff.rfl)).cg fun a => ⟨fun x => x.elim (fun z => z.elim) id, .inr⟩)
      refine ⟨o, g, ?_⟩
      rcases h with ⟨q1, rfl⟩ | ⟨t, v, q, q1, rfl, R, sub⟩
      · rw [q1] at k
        exact k v3 _ H3 pv3 p1 g1 S3' R3' (fun _ b x y => b2 b x (.inr y)) (stA.sub fun b x => x.imp id .inr)
      · rw [q1] at k hf
        refine k v _ H3 q p1 g1 S3' R (fun z => ?_) (stA.sub fun b x => .inr (x.imp (sub b) id))
        cases m with
        | t => exact absurd rfl hm
        | e => exact fun b x _ => R.of_isF (hf rfl rfl) b x
        | o => exact fun b x y => d1 (by simpa [apart, over] using z) b (sub b x) y
  ⟨v, pt_plain (v .o (by decide)) plain_dget2 fun _ => rfl⟩
/-! ### displays -/
/-- keys and values by turns -/
def trsOf (K : PySem.W.Frag) (P : Pg) : Es → List (TE × TE)
  | .cons k (.cons v es) => (tev K P .e k, tev K P .e v) :: trsOf K P es
  | _ => []
def evenE : Es → Bool
  | .nil => true
  | .cons _ (.cons _ es) => evenE es
  | .cons _ .nil => false
def pairUp : List V → List (V × V)
  | k :: v :: r => (k, v) :: pairUp r
  | _ => []
theorem tprs {σ : L2.St} : ∀ {es : Es} {F H : Hp} {sl : SL} {p : FP} {ts : List T} {sl' : SL} {G : List (V × V) → Hp → Prop}, evenE es = true → Ex F H → SlR X.K F H sl σ p → evL P es sl = some (ts, sl') →
    (∀ vs F' H' pv p', Ex F' H' → SlR X.K F' H' sl' σ p' → Reps X.K F' H' ts vs pv → Dj pv p' → Stp p F H (fun a => pv a ∨ p' a) F' H' → G (pairUp vs) H') → tPairs (trsOf X.K P es) σ H G
  | .nil, F, H, sl, p, ts, sl', G, _, ex, S, e, k => by
    simp only [evL] at e
    cases e
    exact k [] F H nop p ex S (.nil fun _ x => x) (fun _ x => x.elim) (Stp.refl.sub fun a x => x.elim (fun z => z.elim) id)
  | .cons _ .nil, _, _, _, _, _, _, _, h, _, _, _, _ => by cases h
  | .cons ke (.cons ve es), F, H, sl, p, ts, sl', G, h, ex, S, e, k => by
    simp only [evL, Option.bind_eq_some_iff] at e
    obtain ⟨⟨t1, sl1⟩, e1, ⟨_, _⟩, ⟨⟨t2, sl2⟩, e2, ⟨tr, sl3⟩, e3, e4⟩, e5⟩ := e
    cases e4; cases e5
    refine ⟨F, sl, p, t1, sl1, ex, S, e1, fun v1 F1 H1 pv1 p1 ex1 S1 R1 d1 st1 => ?_⟩
    refine ⟨F1, sl1, p1, t2, sl2, ex1, S1, e2, fun v2 F2 H2 pv2 p2 ex2 S2 R2 d2 st2 => ?_⟩
    obtain ⟨a1, a2, a3⟩ := st2.frame R1.own fun a x y => d1 rfl a y x
    have R1' := R1.frame st2.ex a1
    have stA := st1.trans ((a3.cg fun a => or_comm).sub fun a x => x)
    refine tprs (es := es) h ex2 S2 e3 fun vs F3 H3 pv3 p3 ex3 S3 R3 dj3 st3 => ?_
    obtain ⟨b1, b2, b3⟩ := st3.frame (r := fun a => pv1 a ∨ pv2 a) (fun a x => x.elim (R1'.own a) (R2.own a)) fun a x y => y.elim (fun z => a2 a (.inr x) z) fun z => d2 rfl a z x
    have R1'' := R1'.frame st3.ex fun a x => b1 a (.inl x)
    have R2'' := R2.frame st3.ex fun a x => b1 a (.inr x)
    have Ra := Reps.cons R2'' R3 (fun a x y => b2 a (.inl y) (.inr x)) fun b => Iff.rfl
    have Rb := Reps.cons R1'' Ra (fun a x y => y.elim (fun z => a2 a (.inl z) x) fun z => b2 a (.inl z) (.inl x)) fun b => Iff.rfl
    refine k (v1 :: v2 :: vs) F3 H3 _ p3 ex3 S3 Rb (fun a x y => ?_) ?_
    · rcases x with x | x | x
      · exact b2 a (.inr y) (.inl x)
      · exact b2 a (.inr y) (.inr x)
      · exact dj3 a x y
    · refine (stA.sub (q := fun a => p2 a ∨ (pv1 a ∨ pv2 a)) fun a x => ?_).trans (b3.sub fun a x => ?_)
      · rcases x with x | x | x
        · exact .inl (.inr x)
        · exact .inr x
        · exact .inl (.inl x)
      · rcases x with (x | x | x) | x
        · exact .inr (.inl x)
        · exact .inr (.inr x)
        · exact .inl (.inl x)
        · exact .inl (.inr x)
theorem ev_dsp {m : Md} {sl sl' : SL} {t : T} (h : ev P m (.dsp es) sl = some (t, sl')) : ∃ ts sl1 ps, evL P es sl = some (ts, sl1) ∧ altT ts = some ps ∧ ps.length ≤ 15 ∧ ps.isEmpty = false ∧ fin m false (.dct .own false (mrgD ps ([], [])).1 (mrgD ps ([], [])).2) sl1 = some (t, sl') := by
  simp only [ev, Option.bind_eq_some_iff] at h
  obtain ⟨⟨ts, sl1⟩, e1, ps, e2, e3⟩ := h
  by_cases hz : (decide (ps.length ≤ 15) && !ps.isEmpty) = true
  · rw [if_pos hz] at e3
    simp only [Bool.and_eq_true, decide_eq_true_eq, Bool.not_eq_true'] at hz
    exact ⟨ts, sl1, ps, e1, e2, hz.1, hz.2, e3⟩
  · rw [if_neg hz] at e3; cases e3
theorem plain_dsp : Plain P (.dsp es) := fun sl t sl' h => by
  obtain ⟨ts, sl1, ps, e1, e2, h1, h2, e3⟩ := ev_dsp h
  obtain ⟨b, g1, g2, rfl⟩ := fin_t e3
  exact ⟨_, b, by simp only [ev, e1, Option.bind_some, e2, h1, h2, decide_true, Bool.not_false, Bool.and_self, if_true, fin], g1, g2⟩
theorem pairUp_flat : ∀ (l : List (Key × V)), pairUp (l.flatMap fun kv => [kV kv.1, kv.2]) = l.map fun kv => (kV kv.1, kv.2)
  | [] => rfl
  | p :: l => congrArg ((kV p.1, p.2) :: ·) (pairUp_flat l)
theorem sd_dsp {ks : List (Option Expr)} {vs : List Expr} (h : PPs X pos ks vs (trsOf X.K P es)) (he : evenE es = true) (hall : ks.all (·.isSome) = true) (hl : ks.length = vs.length) (h0 : ks ≠ []) (h15 : ks.length ≤ 15) : Sd X P (.Dict ks vs pos) (.dsp es) :=
  have v : ∀ m, m ≠ .t → PE X (.Dict ks vs pos) (tev X.K P m (.dsp es)) := fun m hm => pe_imp (pe_disp h hall hl h0 h15) fun σ H Q ⟨F, sl, p, t, sl', ex, S, e, k⟩ d nd => by
    obtain ⟨ts, sl1, ps, e1, e2, h1, h2, e3⟩ := ev_dsp e
    obtain ⟨rfl, rfl, _⟩ := fin_some hm e3
    obtain ⟨a1, a2, a3⟩ := new_dct (K := X.K) (ks := []) (ts := []) (xs := []) (q := nop) ex nd (.nil fun _ x => x) DW.nil
    obtain ⟨b1, b2, b3⟩ := a3.frame S.own fun _ x => x.elim
    have S1 := S.frame a3.ex b1
    refine tprs he a1 S1 e1 fun vs F' H' pv p' ex' S' R dj st => ?_
    obtain ⟨c1, c2, c3⟩ := st.frame (r := fun b => b = d) (fun b x => by subst x; exact a2.own b (.inl rfl)) fun b x y => b2 b (.inl y) x
    obtain ⟨ws, q, R2, sub, rfl⟩ := alt_ok R e2
    obtain ⟨ys, q', e4, R3, s3, w3⟩ := mrgR0 R2
    have hd : H' d = some (.dK []) := (c1 d rfl).2.trans upd_same
    refine ⟨hd, _, pairUp_flat _, ?_, ?_⟩
    · rw [List.length_zip, List.length_map]; exact Nat.le_trans (Nat.min_le_left _ _) h1
    rw [e4]
    have own : ∀ b, pv b → F' b = none ∧ ∃ o, H' b = some o := R.own
    have nq : ¬ pv d := fun x => c2 d (.inl x) rfl
    obtain ⟨g1, g2, g3⟩ := reown (o' := dho false (mrgD ps ([], [])).1 ys) ex' (c1 d rfl).1 own nq R3 fun b x => sub b (s3 b x)
    obtain ⟨h1, h2, h3⟩ := g3.frame S'.own fun b x y => x.elim (fun z => c2 b (.inr y) z) fun z => dj b z y
    refine k _ F' _ (fun b => b = d ∨ q' b) p' g1 (S'.frame g3.ex h1) (.dctO (c1 d rfl).1 upd_same w3 g2 (fun x => nq (sub d (s3 d x))) fun b => Iff.rfl) (fun _ => h2) ?_
    have b3' : Stp p F H (fun a => p a ∨ a = d) _ _ := (b3.cg fun a => ⟨fun x => x.elim (fun z => z.elim) id, .inr⟩).sub fun a x => x.elim .inr fun y => .inl (.inl y)
    refine b3'.trans ((c3.sub (q := fun a => (a = d ∨ pv a) ∨ p' a) fun a x => ?_).trans h3)
    rcases x with (x | x) | x
    · exact .inr x
    · exact .inl (.inl x)
    · exact .inl (.inr x)
  ⟨v, pt_plain (v .o (by decide)) plain_dsp fun _ => rfl⟩
end
end Pv

/-! Dict comprehensions. -/
namespace Pv
open PySem L2 PyProof.Rows
section
variable {X : Cx} {P : Pg} {elt tg iter kx : Expr} {ifs : List Expr} {scope : Scope} {own : List (Str × Nat)} {pos : Pos} {it : Pv.It} {g : G} {c' k' e' : E} {ows : List Nat}
theorem ev_dc {m : Md} {sl sl' : SL} {t : T} (h : ev P m (.dc ows g it c' k' e') sl = some (t, sl')) : ∃ xs sl1 acc sl2, evI P it sl = some (xs, sl1) ∧ ownOk ows sl1 = true ∧ dcGo (setG P g) (ev P .t c') (ev P .e k') (ev P .e e') (wipeS ows) xs sl1 ([], []) = some (acc, sl2) ∧ fin m false (.dct .own false acc.1 acc.2) (restS sl1 ows (wipeS ows sl2)) = some (t, sl') := by
  simp only [ev, Option.bind_eq_some_iff] at h
  obtain ⟨⟨xs, sl1⟩, e1, e2⟩ := h
  by_cases hz : ownOk ows sl1 = true
  · rw [if_pos hz] at e2
    obtain ⟨⟨acc, sl2⟩, e3, e4⟩ := Option.bind_eq_some_iff.mp e2
    exact ⟨xs, sl1, acc, sl2, e1, hz, e3, e4⟩
  · rw [if_neg hz] at e2; cases e2
theorem plain_dc : Plain P (.dc ows g it c' k' e') := fun sl t sl' h => by
  obtain ⟨xs, sl1, acc, sl2, e1, hz, e3, e4⟩ := ev_dc h
  obtain ⟨b, h1, h2, rfl⟩ := fin_t e4
  refine ⟨_, b, ?_, h1, h2⟩
  simp only [ev, e1, Option.bind_some, hz, if_true, e3, fin]
theorem dcGo_cons {set : T → SL → Option SL} {cnd key elt : SL → Option (T × SL)} {wipe : SL → SL} {x : T} {xs : List T} {sl : SL} {acc z1 : List (List Key) × List T} {z : SL} (h : dcGo set cnd key elt wipe (x :: xs) sl acc = some (z1, z)) :
    ∃ sl1 b sl2, set x (wipe sl) = some sl1 ∧ cnd sl1 = some (.bl b, sl2) ∧ ((b = true ∧ ∃ tk sl3 kk t sl4, key sl2 = some (tk, sl3) ∧ keyT tk = some kk ∧ elt sl3 = some (t, sl4) ∧ okN acc.1.length = true ∧ dcGo set cnd key elt wipe xs sl4 (putD acc.1 acc.2 [kk] t) = some (z1, z)) ∨ (b = false ∧ dcGo set cnd key elt wipe xs sl2 acc = some (z1, z))) := by
  unfold dcGo at h
  obtain ⟨sl1, e1, h⟩ := Option.bind_eq_some_iff.mp h
  obtain ⟨⟨t1, sl2⟩, e2, h⟩ := Option.bind_eq_some_iff.mp h
  cases t1 <;> first | (cases h; done) | skip
  rename_i b
  cases b with
  | false => exact ⟨sl1, false, sl2, e1, e2, .inr ⟨rfl, h⟩⟩
  | true =>
    have h' : ((key sl2).bind fun rk => (keyT rk.1).bind fun k => (elt rk.2).bind fun r2 => if okN acc.1.length = true then dcGo set cnd key elt wipe xs r2.2 (putD acc.1 acc.2 [k] r2.1) else none) = some (z1, z) := h
    obtain ⟨⟨tk, sl3⟩, e3, h2⟩ := Option.bind_eq_some_iff.mp h'
    obtain ⟨kk, e4, h3⟩ := Option.bind_eq_some_iff.mp h2
    obtain ⟨⟨t, sl4⟩, e5, h4⟩ := Option.bind_eq_some_iff.mp h3
    by_cases hz : okN acc.1.length = true
    · rw [if_pos hz] at h4
      exact ⟨sl1, true, sl2, e1, e2, .inl ⟨rfl, tk, sl3, kk, t, sl4, e3, e4, e5, hz, h4⟩⟩
    · rw [if_neg hz] at h4; cases h4
theorem core_dc {m : Md} {σ : L2.St} {H : Hp} {Q : VK} (hm : m ≠ .t) (hsub : ∀ i ∈ stG g, i ∈ ows) (h : tev X.K P m (.dc ows g it c' k' e') σ H Q) : tDc (tevI X.K P it) (tevG X.K (stG g) (setG P g)) (tevT X.K P c') (tev X.K P .e k') (tev X.K P .e e') ows σ H Q := by
  obtain ⟨F, sl, p, t, sl', ex, S, e, k⟩ := h
  obtain ⟨xs, sl1, accz, slz, e1, hz, e3, e4⟩ := ev_dc e
  obtain ⟨rfl, rfl, _⟩ := fin_some hm e4
  refine ⟨F, sl, p, xs, sl1, ex, S, e1, fun J F1 H1 p1 wk ex1 S1 st1 D nD => ?_⟩
  refine ⟨fun i m H => ∃ F sl p acc pD, i ≤ xs.length ∧ m = xs.length - i ∧ dcGo (setG P g) (ev P .t c') (ev P .e k') (ev P .e e') (wipeS ows) (xs.drop i) sl acc = some (accz, slz) ∧ Ex F H ∧ SlR X.K F H (wipeS ows sl) (wipe σ ows) p ∧ Rep X.K F H (.dct .own false acc.1 acc.2) (.ref D) pD ∧ Dj pD p ∧ Stp p1 F1 H1 (fun a => pD a ∨ p a) F H, ?_, ?_⟩
  · obtain ⟨a1, a2, a3⟩ := new_dct (K := X.K) (ks := []) (ts := []) (xs := []) (q := nop) ex1 nD (.nil fun _ x => x) DW.nil
    obtain ⟨r, s1, S2⟩ := S1.wipe ows
    obtain ⟨b1, b2, b3⟩ := a3.frame S2.own fun _ x => x.elim
    refine ⟨_, F1, sl1, r, ([], []), _, Nat.zero_le _, rfl, e3, a1, S2.frame a3.ex b1, a2, b2, ?_⟩
    exact b3.more fun a x => x.elim (fun z => z.elim) (s1 a)
  · rintro i m H2 ⟨F2, sl2, p2, acc, pD, hi, rfl, e5, ex2, S2, RD, dj2, st2⟩
    by_cases hl : i < xs.length
    · refine .inr ?_
      obtain ⟨x, hx⟩ : ∃ x, xs[i]? = some x := ⟨xs[i], by simp [hl]⟩
      obtain ⟨g1, g2⟩ := wk.go i x F2 H2 hx st2.ex ex2
      have ed : xs.drop i = x :: xs.drop (i + 1) := by
        obtain ⟨h1, h2⟩ := List.getElem?_eq_some_iff.mp hx
        rw [← h2]; exact List.drop_eq_getElem_cons h1
      rw [ed] at e5
      obtain ⟨sl3, b, sl4, e6, e7, e8⟩ := dcGo_cons e5
      refine ⟨g1, fun H => ∃ F sl p acc pD, dcGo (setG P g) (ev P .t c') (ev P .e k') (ev P .e e') (wipeS ows) (xs.drop (i + 1)) sl acc = some (accz, slz) ∧ Ex F H ∧ SlR X.K F H (wipeS ows sl) (wipe σ ows) p ∧ Rep X.K F H (.dct .own false acc.1 acc.2) (.ref D) pD ∧ Dj pD p ∧ Stp p1 F1 H1 (fun a => pD a ∨ p a) F H, fun H' ⟨F, sl, p, acc, pD, h⟩ => ⟨xs.length - (i + 1), by omega, F, sl, p, acc, pD, hl, rfl, h⟩, fun v H3 y => ?_⟩
      obtain ⟨F3, ex3, R3, st3⟩ := g2 v H3 y
      obtain ⟨a1, a2, a3⟩ := st3.frame (r := fun a => pD a ∨ p2 a) (fun a x => x.elim (RD.own a) (S2.own a)) fun _ x => x.elim
      have RD3 := RD.frame st3.ex fun a x => a1 a (.inl x)
      have st23 := st2.trans ((a3.cg fun a => ⟨fun x => x.elim (fun z => z.elim) id, .inr⟩).sub fun a x => .inr x)
      refine ⟨F3, x, nop, _, p2, sl3, ex3, R3, S2.frame st3.ex fun a x => a1 a (.inr x), fun _ x => x.elim, e6, fun σ2 F4 H4 p4 kp ex4 S4 st4 => ?_⟩
      have hw := wipe_keep kp hsub
      refine ⟨hw, F4, sl3, p4, b, sl4, ex4, S4, e7, fun F5 H5 p5 ex5 S5 st5 => ?_⟩
      have st45 := (st4.cg (q := p2) fun a => ⟨fun x => x.elim (fun z => z.elim) id, .inr⟩).trans st5
      obtain ⟨b1, b2, b3⟩ := st45.frame RD3.own fun a x y => dj2 a y x
      have RD5 := RD3.frame st45.ex b1
      have st25 := st23.trans (b3.cg fun a => or_comm)
      rcases e8 with ⟨rfl, tk, sl5, kk, t, sl6, e9, e9k, e9b, hn, e10⟩ | ⟨rfl, e10⟩
      · refine ⟨F5, sl4, p5, tk, sl5, ex5, S5, e9, fun vk F6 H6 pvk p6 ex6 S6 Rk djk st6 => ?_⟩
        obtain ⟨rfl, hat, _⟩ := keyT_kV Rk e9k
        have nk : ∀ a, ¬ pvk a := Rk.of_isF (by cases tk <;> first | rfl | cases e9k)
        have st6' : Stp p5 F5 H5 p6 F6 H6 := st6.sub fun a x => .inr x
        obtain ⟨c1, c2, c3⟩ := st6'.frame RD5.own b2
        have RD6 := RD5.frame st6'.ex c1
        refine ⟨F6, sl5, p6, t, sl6, ex6, S6, e9b, fun v7 F7 H7 pv7 p7 ex7 S7 R7 dj7 st7 => ?_⟩
        obtain ⟨f1, f2, f3⟩ := st7.frame RD6.own c2
        have RD7 := RD6.frame st7.ex f1
        obtain ⟨a0, H8, pE, h0, h1, h3, h4, h5⟩ := setD kk ex7 RD7 R7 (fun a x y => f2 a (.inl x) y) (okN_le hn)
        cases h0
        obtain ⟨r, s1, S8⟩ := S7.wipe ows
        rw [hw] at S8
        obtain ⟨d1, d2, d3⟩ := h5.frame S8.own fun a x y => x.elim (fun z => dj7 rfl a z (s1 a y)) fun z => f2 a (.inr (s1 a y)) z
        rcases h1 with ⟨kvs, k3, g1, g2, g3, rfl⟩ | ⟨kvs, k3, b3, g1, g2, _⟩
        · refine ⟨kvs, k3, g2, g1, g3, F7, sl6, r, _, pE, e10, h3, S8.frame h5.ex d1, h4, d2, ?_⟩
          refine ((st25.trans c3).trans (f3.cg fun a => Iff.rfl)).trans (d3.more fun a x => ?_)
          rcases x with (x | x) | x
          · exact .inl (.inl x)
          · exact .inr x
          · exact .inl (.inr (s1 a x))
        · cases kk <;> cases g2
      · obtain ⟨r, s1, S7⟩ := S5.wipe ows
        rw [hw] at S7
        exact ⟨F5, sl4, r, acc, pD, e10, ex5, S7, RD5, fun a x y => b2 a (s1 a y) x, st25.sub fun a x => x.elim .inr fun z => .inl (s1 a z)⟩
    · refine .inl ?_
      obtain rfl : i = xs.length := by omega
      refine ⟨wk.stop F2 H2 st2.ex ex2, ?_⟩
      rw [List.drop_length] at e5
      cases e5
      obtain ⟨r, s1, S3⟩ := SlR.rest S1 st2.ex hz S2
      rw [unw_wipe] at S3
      exact k _ F2 H2 pD r ex2 S3 RD (fun _ a x y => dj2 a x (s1 a y)) ((st1.trans st2).sub fun a x => x.imp id (s1 a))
theorem sd_dc (hc : X.calm = true) (hN : X.N.Nodup) (hi : PI X tg iter (tevI X.K P it)) (ok : BlkOk X.N X.env.scope scope own) (hsub : ∀ i ∈ stG g, i ∈ own.map (·.2))
    (hg : ∀ (s : Shared) (H : Hp) (C : Addr) (cl : List (Str × Addr)) (fp : List Addr), PG (X.blk s H scope (compEnvC scope cl C X.env) fp) tg (tevG X.K (stG g) (setG P g))) (ht : ∀ (s : Shared) (H : Hp) (C : Addr) (cl : List (Str × Addr)) (fp : List Addr), PTs (X.blk s H scope (compEnvC scope cl C X.env) fp) ifs (tevT X.K P c'))
    (hk : ∀ (s : Shared) (H : Hp) (C : Addr) (cl : List (Str × Addr)) (fp : List Addr), PE (X.blk s H scope (compEnvC scope cl C X.env) fp) kx (tev X.K P .e k')) (he : ∀ (s : Shared) (H : Hp) (C : Addr) (cl : List (Str × Addr)) (fp : List Addr), PE (X.blk s H scope (compEnvC scope cl C X.env) fp) elt (tev X.K P .e e')) (hs : ∀ x, foldedSetIterable iter X.env x = pure x) :
    Sd X P (.DictComp kx elt [⟨tg, iter, ifs, 0⟩] scope pos) (.dc (own.map (·.2)) g it c' k' e') :=
  have v : ∀ m, m ≠ .t → PE X (.DictComp kx elt [⟨tg, iter, ifs, 0⟩] scope pos) (tev X.K P m (.dc (own.map (·.2)) g it c' k' e')) := fun m hmm => pe_imp (pe_dc hc hN hi ok hg ht hk he hs) fun σ H Q h => core_dc hmm hsub h
  ⟨v, pt_plain (v .o (by decide)) plain_dc fun _ => rfl⟩
end
end Pv

/-! Sets of ints and texts: how many members, the members sorted. -/
namespace Pv
open PySem PySem.Spec L2 PyProof.Rows
theorem mem_addQ {l : List Key} {k j : Key} : j ∈ addQ l k ↔ j ∈ l ∨ j = k := by
  unfold addQ
  by_cases h : k ∈ l
  · rw [if_pos h]; exact ⟨.inl, fun x => x.elim id fun e => e ▸ h⟩
  · rw [if_neg h]; simp
theorem nd_addQ {l : List Key} {k : Key} (h : l.Nodup) : (addQ l k).Nodup := by
  unfold addQ
  by_cases c : k ∈ l
  · rw [if_pos c]; exact h
  · rw [if_neg c]; exact List.nodup_append.mpr ⟨h, by simp, fun a ha b hb z => c (by
      have : b = k := by simpa using hb
      rw [← this, ← z]; exact ha)⟩
theorem len_addQ {l : List Key} {k : Key} : (addQ l k).length ≤ l.length + 1 := by
  unfold addQ; split <;> simp
abbrev GoodQ (P : Program) (w : World) (e : Int × Value) (k : Key) : Prop := RelV (kV k) e.2 ∧ e.1 = (mixKind P w).hash k
theorem paired_perm {α β : Type} {F : α → β → Prop} {l l' : List α} (h : l.Perm l') : ∀ {ks : List β}, Paired F l ks → ∃ ks', Paired F l' ks' ∧ ks'.Perm ks := by
  induction h with
  | nil => intro ks p; exact ⟨ks, p, .refl _⟩
  | cons x _ ih =>
    intro ks p
    cases p with
    | cons h t => obtain ⟨ks', q, r⟩ := ih t; exact ⟨_ :: ks', .cons h q, r.cons _⟩
  | swap x y l =>
    intro ks p
    cases p with
    | cons h t => cases t with
      | cons h2 t => exact ⟨_, .cons h2 (.cons h t), .swap ..⟩
  | trans _ _ ih1 ih2 =>
    intro ks p
    obtain ⟨k1, p1, q1⟩ := ih1 p
    obtain ⟨k2, p2, q2⟩ := ih2 p1
    exact ⟨k2, p2, q2.trans q1⟩
theorem paired_mem {α β : Type} {F : α → β → Prop} : ∀ {l : List α} {ks : List β}, Paired F l ks → ∀ {x : α}, x ∈ l → ∃ k ∈ ks, F x k
  | _, _, .nil, _, h => by cases h
  | _, _, .cons h t, x, m => by
    rcases List.mem_cons.mp m with rfl | m
    · exact ⟨_, List.mem_cons_self, h⟩
    · obtain ⟨k, hk, f⟩ := paired_mem t m; exact ⟨k, List.mem_cons_of_mem _ hk, f⟩
theorem paired_mem' {α β : Type} {F : α → β → Prop} : ∀ {l : List α} {ks : List β}, Paired F l ks → ∀ {k : β}, k ∈ ks → ∃ x ∈ l, F x k
  | _, _, .nil, _, h => by cases h
  | _, _, .cons h t, x, m => by
    rcases List.mem_cons.mp m with rfl | m
    · exact ⟨_, List.mem_cons_self, h⟩
    · obtain ⟨k, hk, f⟩ := paired_mem' t m; exact ⟨k, List.mem_cons_of_mem _ hk, f⟩
theorem relK_inj {P : Program} {w : World} {k j : Key} {v : Value} (h : RelV (kV k) v) (g : (mixKind P w).is j v = true) : j = k := (mixKind P w).inj v j k g (kV_is h)
/-- the set at a: its members, in some order l up to turns -/
def SetQ (P : Program) (w : World) (h : Heap) (a : Addr) (l : List Key) : Prop :=
  ∃ o es ep t ks, h.get? a = some o ∧ o.ExactSet ∧ o.data = .set es ep t ∧ Paired (GoodQ P w) es.toList ks ∧ ks.Perm l ∧ l.Nodup ∧ es.size < scanBound ∧ t.fits es.size = true ∧ Ris t.place.toList ∧ (w.params.followText "set-order" = true ∨ t.led = true)
theorem goodQ_elems {P : Program} {w : World} {l : List (Int × Value)} {ks : List Key} (g : Paired (GoodQ P w) l ks) : ElemsOf (mixKind P w) l := fun e he => by
  obtain ⟨k, _, h1, h2⟩ := paired_mem g he
  exact ⟨⟨k, kV_is h1, h2⟩, key_scan h1⟩
theorem SetQ.at' {P : Program} {w : World} {h h' : Heap} {a : Addr} {l : List Key} (R : SetQ P w h a l) (k : ∀ o, h.get? a = some o → h'.get? a = some o) : SetQ P w h' a l := by
  obtain ⟨o, es, ep, t, ks, ho, r⟩ := R; exact ⟨o, es, ep, t, ks, k o ho, r⟩
section
variable {P : Program} {w : World} {A : Around} {E : Value → Shared → Prop} {s : Shared} {a : Addr}
theorem setQ_tail {g : Bool → Sem Unit} (hg : ∀ (b : Bool) (s₁ : Shared) (Q' : Unit → Shared → Prop), Q' () s₁ → wpAny (model P w) A (g b) Q' E s₁) {o : Obj} {es : Array (Int × Value)} {ep : Nat} {t : SetTable} (ho : s.heap.get? a = some o) (hex : o.ExactSet) (hd : o.data = .set es ep t)
    {es1 : Array (Int × Value)} {t2 : SetTable} {ks l : List Key} (g1 : Paired (GoodQ P w) es1.toList ks) (pk : ks.Perm l) (nd : l.Nodup) (hb : es1.size < scanBound) (hf : t2.fits es1.size = true) (hr : Ris t2.place.toList) (hl : w.params.followText "set-order" = true ∨ t2.led = true) {wd : Bool} {R : Option Bool → Shared → Prop}
    (hR : ∀ h', Heap.SameBut a s.heap h' → SetQ P w h' a l → R (some true) { s with heap := h' }) :
    wpAny (model P w) A (do
        storeSet a es1 t2
        if (!wd && t2.tooFull) = true then do
            g (relayAll t2 es1 (SetTable.grown es1.size)).2.2
            storeSet a (relayAll t2 es1 (SetTable.grown es1.size)).1 (relayAll t2 es1 (SetTable.grown es1.size)).2.1; pure (some true)
          else pure (some true)) R E s := by
  refine wpAny_bind (wpAny_storeSet_of ho hd ?_ (fits_of_scanBound hb))
  have o1 := store_at (es' := es1) (t' := t2) ho hd
  have b1 := Heap.SameBut.update s.heap a (Obj.putSet es1 t2)
  split
  · obtain ⟨pm, f3, r3, l3⟩ : (relayAll t2 es1 (SetTable.grown es1.size)).1.toList.Perm es1.toList ∧ (relayAll t2 es1 (SetTable.grown es1.size)).2.1.fits (relayAll t2 es1 (SetTable.grown es1.size)).1.size = true ∧ Ris (relayAll t2 es1 (SetTable.grown es1.size)).2.1.place.toList ∧ (relayAll t2 es1 (SetTable.grown es1.size)).2.1.led = t2.led :=
      ⟨relayAll_perm .., relayAll_fits .., relayAll_ris .., relayAll_led ..⟩
    generalize relayAll t2 es1 (SetTable.grown es1.size) = Z at pm f3 r3 l3 ⊢
    obtain ⟨es2, t3, gv⟩ := Z
    dsimp only at pm f3 r3 l3 ⊢
    have sz : es2.size = es1.size := by rw [← Array.length_toList, pm.length_eq, Array.length_toList]
    refine wpAny_bind (hg _ _ _ ?_)
    refine wpAny_bind (wpAny_storeSet_of o1 rfl ?_ (fits_of_scanBound (sz ▸ hb)))
    obtain ⟨k2, q1, q2⟩ := paired_perm pm.symm g1
    exact wpAny_pure (hR _ (b1.trans (Heap.SameBut.update _ a _)) ⟨_, es2, _, t3, k2, store_at (es' := es2) (t' := t3) o1 rfl, hex, rfl, q1, q2.trans pk, nd, sz ▸ hb, f3, r3, hl.imp id fun z => l3.trans z⟩)
  · exact wpAny_pure (hR _ b1 ⟨_, es1, _, t2, ks, o1, hex, rfl, g1, pk, nd, hb, hf, hr, hl⟩)
theorem setQ_add {k : Key} {v : Value} {l : List Key} {Q : Bool → Shared → Prop} (rk : RelV (kV k) v) (R : SetQ P w s.heap a l) (room : l.length + 1 < scanBound)
    (hQ : ∀ b h', Heap.SameBut a s.heap h' → SetQ P w h' a (addQ l k) → Q b { s with heap := h' }) : wpAny (model P w) A (setAddHashed a v ((mixKind P w).hash k)) Q E s := by
  obtain ⟨o, es, ep, t, ks, ho, hex, hd, g, pk, nd, hb, hf, hr, hl⟩ := R
  have hsc := key_scan rk
  have hel := goodQ_elems g
  unfold setAddHashed setAddHashedIn; refine wpAny_holding (wpAny_bind (wpAny_setState_of ho hd hf ?_)); dsimp only
  rw [byScan_of hsc hb hel]; simp only [↓reduceIte]; unfold setAddByScan
  refine wpAny_bind (wpAny_bind (wpAny_rule (wpAny_bind (wpAny_setScan_of (kV_is rk) ho hd hf hel ?_))))
  cases hfi : List.findIdx? (fun e => (mixKind P w).is k e.2) es.toList with
  | some j =>
    dsimp only
    obtain ⟨hj, pj, _⟩ := List.findIdx?_eq_some_iff_getElem.mp hfi
    obtain ⟨k2, m2, h1, _⟩ := paired_mem g (List.getElem_mem hj)
    have hm : k ∈ l := by rw [relK_inj h1 pj]; exact pk.mem_iff.mp m2
    refine wpAny_pure (wpAny_pure (hQ _ s.heap (Heap.SameBut.refl a s.heap) ?_))
    unfold addQ; rw [if_pos hm]
    exact ⟨o, es, ep, t, ks, ho, hex, hd, g, pk, nd, hb, hf, hr, hl⟩
  | none =>
    dsimp only
    have hn : k ∉ l := fun z => by
      obtain ⟨e, he, h1, _⟩ := paired_mem' g (pk.mem_iff.mpr z)
      have c := List.findIdx?_eq_none_iff.mp hfi e he
      rw [kV_is h1] at c; cases c
    have hgw : ∀ (b : Bool) {s₁ : Shared} {Q' : Unit → Shared → Prop}, Q' () s₁ → wpAny (model P w) A (match b with | true => rule "set.scan.the-table-gave-way" | false => pure ()) Q' E s₁ :=
      fun b s₁ Q' q => by cases b <;> first | exact wpAny_pure q | exact wpAny_rule q
    obtain ⟨pm, f1, r1, l1⟩ : (layNew t es ((mixKind P w).hash k) v).1.toList.Perm (es.push ((mixKind P w).hash k, v)).toList ∧ (layNew t es ((mixKind P w).hash k) v).2.1.fits (layNew t es ((mixKind P w).hash k) v).1.size = true ∧ Ris (layNew t es ((mixKind P w).hash k) v).2.1.place.toList ∧ (layNew t es ((mixKind P w).hash k) v).2.1.led = t.led :=
      ⟨layNew_perm .., layNew_fits .., layNew_ris _ _ _ _ hr, layNew_led ..⟩
    generalize layNew t es ((mixKind P w).hash k) v = Z at pm f1 r1 l1 ⊢
    obtain ⟨es1, t1, wd, gv⟩ := Z
    dsimp only at pm f1 r1 l1 ⊢
    rw [Array.toList_push] at pm
    have pc : (((mixKind P w).hash k, v) :: es.toList).Perm es1.toList := (pm.trans (List.perm_append_singleton _ _)).symm
    obtain ⟨k1, g1, q1⟩ := paired_perm pc (Paired.cons (F := GoodQ P w) (b := k) ⟨rk, rfl⟩ g)
    have e1 : addQ l k = l ++ [k] := by unfold addQ; rw [if_neg hn]
    have pk1 : k1.Perm (addQ l k) := by rw [e1]; exact q1.trans ((pk.cons k).trans (List.perm_append_singleton _ _).symm)
    have nd1 : (addQ l k).Nodup := nd_addQ nd
    have hz : es1.size < scanBound := by
      have a1 := pc.length_eq
      have a2 : es.toList.length = ks.length := Paired.length g
      have a3 := pk.length_eq
      have a4 : es1.toList.length = es1.size := Array.length_toList
      rw [List.length_cons] at a1
      omega
    have hled : w.params.followText "set-order" = true ∨ t1.led = true := hl.imp id fun z => l1.trans z
    have fin : ∀ h', Heap.SameBut a s.heap h' → SetQ P w h' a (addQ l k) → Q true { s with heap := h' } := fun h' sb r => hQ true h' sb r
    have hg2 : ∀ (b : Bool) (s₁ : Shared) (Q' : Unit → Shared → Prop), Q' () s₁ → wpAny (model P w) A (match b with | true => rule "set.scan.the-table-gave-way" | false => pure ()) Q' E s₁ := fun b s₁ Q' q => hgw b q
    refine wpAny_bind (hgw _ ?_)
    split
    · rw [hashByValue_scannable 8 hsc]
      refine wpAny_bind (wpAny_pure ?_)
      refine setQ_tail hg2 ho hex hd g1 pk1 nd1 hz ?_ ?_ ?_ fun h' sb r => ?_
      · first | (split <;> first | exact f1 | exact SetTable.fits_plain_off f1) | exact f1
      · first | (split <;> exact r1) | exact r1
      · first | (split <;> exact hled) | exact hled
      · dsimp only; exact wpAny_pure (fin h' sb r)
    · refine wpAny_bind (wpAny_pure ?_)
      simp only [↓reduceIte]
      exact setQ_tail hg2 ho hex hd g1 pk1 nd1 hz f1 r1 hled fun h' sb r => wpAny_pure (fin h' sb r)
abbrev ob0 (w : World) : Obj := { cls := .type "set", dict := none, data := .set #[] 0 (.fresh 0 0 (!w.params.followText "set-order")) }
theorem setQ_fresh {h : Heap} (ho : h.get? a = some { cls := .type "set", dict := none, data := .set #[] 0 (.fresh 0 0 (!w.params.followText "set-order")) }) : SetQ P w h a [] :=
  ⟨_, #[], 0, _, [], ho, ⟨rfl, rfl, rfl⟩, rfl, .nil, .refl _, List.nodup_nil, by decide, by rfl, List.Pairwise.nil, by
    show _ ∨ (!w.params.followText "set-order") = true
    cases w.params.followText "set-order" <;> simp⟩
theorem setQ_loop {I : Addr} {fp wr : List Addr} {G : Array GenState → Array GenState → Prop} {n : Nat} {Pv : Nat → Value → Prop} {St : Nat → Shared → Prop} {R : Result → Shared → Prop}
    (W : WalksS P w A.in1 I fp wr G n Pv St) (S : Addr) (hSf : S ∉ fp) (ks : List Key) (hn : n = ks.length) (hb : ks.length + 1 < scanBound) (hval : ∀ i v, Pv i v → ∃ k, ks[i]? = some k ∧ RelV (kV k) v) :
    ∀ (m i : Nat) (s : Shared) (l : List Key), n - i = m → i ≤ n → St i s → l.length ≤ i → SetQ P w s.heap S l →
      (∀ s', Moved (S :: wr) G s s' → SetQ P w s'.heap S ((ks.drop i).foldl addQ l) → R (.ok (.ret .none)) s') → codeAny (model P w) A (.builtin "set.update.loop" ⟨[.ref S, .ref I], []⟩) R s := by
  have hSw : S ∉ wr := fun h => hSf (W.sub _ h)
  have hsub : ∀ b ∈ wr, b ∈ S :: wr := fun b hb => List.mem_cons_of_mem _ hb
  intro m
  induction m with
  | zero =>
    intro i s l hm hi st hl hS hR
    have e : ks.drop i = [] := List.drop_eq_nil_of_le (by omega)
    have hin : i = n := by omega
    subst hin
    refine codeAny_builtin F.entry_set_update_loop ?_; rw [Around.under_plainId F.plain_set_update_loop _]
    show wpAny _ A.in1 (pyNext (.ref I) >>= _) _ _ s
    refine wpAny_bind (W.done s _ _ st fun s' mv => ?_)
    show wpAny _ A.in1 (ret Value.none) _ _ s'
    rw [e] at hR
    exact wpAny_pure (hR s' (mv.mono hsub) (hS.at' fun o x => mv.heap S o hSw x))
  | succ m ih =>
    intro i s l hm hi st hl hS hR
    have hlt : i < n := by omega
    refine codeAny_builtin F.entry_set_update_loop ?_; rw [Around.under_plainId F.plain_set_update_loop _]
    show wpAny _ A.in1 (pyNext (.ref I) >>= _) _ _ s
    refine wpAny_bind (W.item i s _ _ hlt st fun v s' hP hst' mv => ?_)
    obtain ⟨k, hk, rk⟩ := hval i v hP
    have hS' : SetQ P w s'.heap S l := hS.at' fun o x => mv.heap S o hSw x
    have ed : ks.drop i = k :: ks.drop (i + 1) := by
      obtain ⟨h1, h2⟩ := List.getElem?_eq_some_iff.mp hk
      rw [← h2]; exact List.drop_eq_getElem_cons h1
    show wpAny _ A.in1 (holding [v] (setAdd S v) >>= _) _ _ s'
    refine wpAny_bind (wpAny_holding ?_); unfold setAdd
    refine wpAny_holding (wpAny_bind ((mixKind P w).pyHash (k := k) (kV_is rk) ?_))
    refine setQ_add (s := { s' with toks := s'.toks + 1 }) rk hS' (by omega) fun b h' hsb hS2 => ?_
    refine wpAny_pure ⟨plainId_quiet F.plain_set_update_loop _, ih (i + 1) _ _ (by omega) hlt (W.frame _ s' _ _ hst' (Nat.le_succ _) fun b hb o e => ?_) (Nat.le_trans len_addQ (by omega)) hS2 fun s'' mv2 hS3 => ?_⟩
    · rw [hsb.2 b (fun h : b = S => hSf (by rw [← h]; exact hb))]; exact e
    · rw [ed] at hR
      refine hR s'' (Moved.trans W.gtrans ((mv.mono hsub).then_heap (Nat.le_succ _) fun b o hb e => ?_) mv2) hS3
      rw [hsb.2 b (fun h : b = S => hb (by rw [h]; exact List.mem_cons_self))]; exact e
/-- set(xs), xs a list of ints and texts -/
theorem call_setQ {l : Addr} {items : Array Value} (ks : List Key) {Q : Value → Shared → Prop} (hh : A.handled = none) (hl : s.heap.IsList l items) (hit : Vals (ks.map kV) items.toList) (hb : ks.length + 1 < scanBound)
    (h : ∀ (h' : Heap) (tk : Nat), SetQ P w h' s.heap.objs.size (dedK ks) → (∀ b o, s.heap.get? b = some o → h'.get? b = some o) → Q (.ref s.heap.objs.size) { s with heap := h', toks := tk }) :
    wpAny (model P w) A (call (.type "set") [.ref l]) Q E s := by
  have hisz : items.size = ks.length := by
    have q := hit.length
    rw [List.length_map, Array.length_toList] at q
    exact q.symm
  obtain ⟨c, tl, hmro⟩ := F.called_set.mro; have hmade := F.called_set.made; have hsub := F.called_set.sub
  refine wpAny_call (codeAny_of_tree ?_)
  show wpAny _ _ (callAny (.type "set") _) _ _ _
  refine wpAny_pure ⟨Code.quiet_builtin _ (by decide +kernel), codeAny_builtin F.entry_type_call ?_⟩; rw [Around.under_plain (weight_type_call_type "set" [.ref l] []) rfl]
  have h1 := F.called_set.notType; have h2 := F.called_set.canCreate; have hct := F.typeCall_set_1 (.ref l)
  repeat (any_goals (first | assumption | wp_step))
  refine codeAny_mono (code_set_led1 (.ref l) (E := E) (Q₁ := fun z s₁ => z = .ref s.heap.objs.size ∧ s₁ = { s with heap := s.heap.push (ob0 w) }) ⟨rfl, rfl⟩) fun r s₁ hr => ?_
  cases r with
  | error e => exact hr
  | ok fl =>
    cases fl with
    | ret z =>
      obtain ⟨rfl, rfl⟩ := hr
      have hS : (s.heap.push (ob0 w)).get? s.heap.objs.size = some (ob0 w) := Heap.get?_push_size _ rfl
      have hT : Shared.TypeIs { s with heap := s.heap.push (ob0 w) } (.ref s.heap.objs.size) "set" := ⟨_, hS, rfl⟩
      have hli := F.called_set.init.lookup; have hbi := F.called_set.init.bind (.ref s.heap.objs.size)
      repeat (any_goals (first | assumption | wp_step))
      refine codeAny_mono (codeAny_call_builtin (R := wants (fun r s₂ => r = .none ∧ ∃ h' tk, s₂ = { s with heap := h', toks := tk } ∧ SetQ P w h' s.heap.objs.size (dedK ks) ∧ (∀ b o, s.heap.get? b = some o → h'.get? b = some o)) E) F.called_set.init.plain F.entry_set_init (check_set_init_1 hT ?_)) fun r₂ s₂ hr₂ => ?_
      · obtain ⟨⟨ocls, odict, odata, oslots⟩, hol, hcl, nl, hdl⟩ := hl
        simp only at hcl hdl; subst hcl hdl
        have hol' := Heap.get?_push_of_some (ob0 w) hol
        have hsls := F.sub_list_set; have hslf := F.sub_list_frozenset; have hne : (Value.type "list" == Value.type "dict") = false := by decide
        have hl1 : (s.heap.push (ob0 w)).IsList l items := ⟨_, hol', rfl, nl, rfl⟩
        unfold Builtin.«set.__init__» noKeywords Builtin.Frozenset.updateFrom; generalize hPI : pyIter = PI; wp_walk; subst hPI
        refine wpAny_pyIter_list hl1 ?_
        refine wpAny_bind (wpAny_runValue ?_)
        have hlS : l < s.heap.objs.size := Heap.lt_size hol
        have hh3 : A.in1.in1.in1.handled = none := by simp [hh]
        have hneI : l ≠ (s.heap.push (ob0 w)).objs.size := by rw [Heap.size_push]; exact Nat.ne_of_lt (Nat.lt_succ_of_lt hlS)
        have hSf : s.heap.objs.size ∉ [(s.heap.push (ob0 w)).objs.size, l] := by rw [Heap.size_push]; simp only [List.mem_cons, List.not_mem_nil, or_false, not_or]; exact ⟨Nat.ne_of_lt (Nat.lt_succ_self _), Nat.ne_of_gt hlS⟩
        have hval : ∀ (i : Nat) (v : Value), items[i]? = some v → ∃ k, ks[i]? = some k ∧ RelV (kV k) v := fun i v hv => by
          have hi : i < ks.length := by rw [← hisz]; exact (Array.getElem?_eq_some_iff.mp hv).1
          obtain ⟨u, hu, ru⟩ := hit.get (i := i) (x := kV ks[i]) (by simp [hi])
          rw [Array.getElem?_toList, hv] at hu
          cases hu
          exact ⟨ks[i], by simp [hi], ru⟩
        refine setQ_loop ((Walks.list hh3 _ l hneI items).toS) s.heap.objs.size hSf ks hisz hb hval (items.size - 0) 0 _ [] (by omega) (Nat.zero_le _) ⟨⟨_, Heap.get?_push_size _ rfl, rfl, rfl⟩, hl1.push _⟩ (Nat.le_refl _) (setQ_fresh ?_) fun s' hm hS' => ?_
        · exact Heap.get?_push_of_some _ hS
        · obtain ⟨h', g2, d', tk', os'⟩ := s'
          have eg : g2 = s.gens := hm.gens
          have ed : d' = s.drawn := hm.drawn
          have eo : os' = s.os := hm.os
          subst eg; subst ed; subst eo
          show wpAny _ _ _ _ _ _
          refine wpAny_pure ?_
          show wpAny _ _ (ret Value.none) _ _ _
          refine wpAny_pure ⟨rfl, h', tk', rfl, hS', fun b o e => ?_⟩
          have hb0 : b < s.heap.objs.size := Heap.lt_size e
          exact hm.heap b o (by rw [Heap.size_push]; simp only [List.mem_cons, List.not_mem_nil, or_false, not_or]; exact ⟨Nat.ne_of_lt hb0, Nat.ne_of_lt (Nat.lt_succ_of_lt hb0)⟩) (Heap.get?_push_of_some _ (Heap.get?_push_of_some _ e))
      · cases r₂ with
        | error e => exact hr₂
        | ok fl₂ =>
          cases fl₂ with
          | ret r =>
            obtain ⟨rfl, h', tk, rfl, hS', hk'⟩ := hr₂
            repeat (any_goals (first | assumption | wp_step))
            exact h _ _ hS' hk'
          | _ => exact hr₂.elim
    | _ => exact hr.elim
end
end Pv

/-! sorted(..), len(set(..)), sorted(set(..)). -/
namespace Pv
open PySem PySem.Spec L2 PyProof.Rows
/-! ### insertion sort -/
section
variable {α : Type} {le : α → α → Bool}
theorem insB_perm (x : α) : ∀ l : List α, (insB le x l).Perm (x :: l)
  | [] => .refl _
  | y :: ys => by
    unfold insB
    by_cases h : le x y = true
    · rw [if_pos h]
    · rw [if_neg h]; exact ((insB_perm x ys).cons y).trans (.swap ..)
theorem isort_perm : ∀ l : List α, (isort le l).Perm l
  | [] => .refl _
  | x :: xs => (insB_perm x _).trans ((isort_perm xs).cons x)
theorem insB_srt (tr : ∀ a b c, le a b = true → le b c = true → le a c = true) (tot : ∀ a b, le a b = true ∨ le b a = true) (x : α) : ∀ {l : List α}, l.Pairwise (fun a b => le a b = true) → (insB le x l).Pairwise (fun a b => le a b = true)
  | [], _ => List.pairwise_singleton _ _
  | y :: ys, h => by
    obtain ⟨h1, h2⟩ := List.pairwise_cons.mp h
    unfold insB
    by_cases c : le x y = true
    · rw [if_pos c]
      exact List.pairwise_cons.mpr ⟨fun z hz => (List.mem_cons.mp hz).elim (fun e => e ▸ c) fun m => tr _ _ _ c (h1 z m), h⟩
    · rw [if_neg c]
      refine List.pairwise_cons.mpr ⟨fun z hz => ?_, insB_srt tr tot x h2⟩
      rcases List.mem_cons.mp ((insB_perm x ys).mem_iff.mp hz) with rfl | m
      · exact (tot z y).resolve_left c
      · exact h1 z m
theorem isort_srt (tr : ∀ a b c, le a b = true → le b c = true → le a c = true) (tot : ∀ a b, le a b = true ∨ le b a = true) : ∀ l : List α, (isort le l).Pairwise (fun a b => le a b = true)
  | [] => .nil
  | x :: xs => insB_srt tr tot x (isort_srt tr tot xs)
theorem perm_srt_eq (anti : ∀ a b, le a b = true → le b a = true → a = b) : ∀ {l m : List α}, l.Perm m → l.Pairwise (fun a b => le a b = true) → m.Pairwise (fun a b => le a b = true) → l = m
  | [], m, p, _, _ => by rw [p.symm.eq_nil]
  | x :: l, [], p, _, _ => by cases p.eq_nil
  | x :: l, y :: m, p, h, g => by
    obtain ⟨h1, h2⟩ := List.pairwise_cons.mp h
    obtain ⟨g1, g2⟩ := List.pairwise_cons.mp g
    have e : x = y := by
      rcases List.mem_cons.mp (p.mem_iff.mp List.mem_cons_self) with e | m1
      · exact e
      · rcases List.mem_cons.mp (p.mem_iff.mpr List.mem_cons_self) with e | m2
        · exact e.symm
        · exact anti _ _ (h1 y m2) (g1 x m1)
    subst e
    rw [perm_srt_eq anti (List.perm_cons x |>.mp p) h2 g2]
end
theorem leI_tr (a b c : Int) : leI a b = true → leI b c = true → leI a c = true := by simp only [leI, decide_eq_true_eq]; omega
theorem leI_tot (a b : Int) : leI a b = true ∨ leI b a = true := by simp only [leI, decide_eq_true_eq]; omega
theorem leI_anti (a b : Int) : leI a b = true → leI b a = true → a = b := by simp only [leI, decide_eq_true_eq]; omega
theorem leS_iff {x y : Str} : leS x y = true ↔ x.cps.toList ≤ y.cps.toList := by
  unfold leS
  rw [ltCps_eq, Bool.not_eq_true', decide_eq_false_iff_not]
  exact List.not_lt
theorem leS_tr (a b c : Str) : leS a b = true → leS b c = true → leS a c = true := by simp only [leS_iff]; exact List.le_trans
theorem leS_tot (a b : Str) : leS a b = true ∨ leS b a = true := by simp only [leS_iff]; exact List.le_total _ _
theorem leS_anti (a b : Str) : leS a b = true → leS b a = true → a = b := by
  simp only [leS_iff]
  intro h g
  have e := List.le_antisymm h g
  obtain ⟨⟨a⟩⟩ := a; obtain ⟨⟨b⟩⟩ := b
  cases e; rfl
theorem sorted_ints_eq {ns ms : List Int} (p : ns.Perm ms) (h : ns.Pairwise (· ≤ ·)) : ns = isort leI ms :=
  perm_srt_eq leI_anti (p.trans (isort_perm ms).symm) (h.imp fun x => decide_eq_true x) (isort_srt leI_tr leI_tot ms)
theorem rising_pair : ∀ {l : List Str} {x : Str}, risingS x l = true → (x :: l).Pairwise (fun a b => leS a b = true)
  | [], _, _ => List.pairwise_singleton _ _
  | y :: l, x, h => by
    have h' : (!ltCps y.cps.toList x.cps.toList && risingS y l) = true := h
    rw [Bool.and_eq_true] at h'
    have ih := rising_pair h'.2
    refine List.pairwise_cons.mpr ⟨fun z hz => ?_, ih⟩
    rcases List.mem_cons.mp hz with rfl | m
    · exact h'.1
    · exact leS_tr _ _ _ h'.1 ((List.pairwise_cons.mp ih).1 z m)
theorem sorted_strs_eq {ns ms : List Str} (p : ns.Perm ms) (h : sortedS ns = true) : ns = isort leS ms := by
  refine perm_srt_eq leS_anti (p.trans (isort_perm ms).symm) ?_ (isort_srt leS_tr leS_tot ms)
  cases ns with
  | nil => exact .nil
  | cons x l => exact rising_pair h
/-! ### rows -/
section
variable {K : PySem.W.Frag} {F H : Hp}
theorem reps_strs : ∀ {ts : List T} {xs : List V} {p : FP} {is : List Str}, Reps K F H ts xs p → strsT ts = some is → xs = is.map V.str
  | [], _, _, is, .nil _, h => by cases h; rfl
  | t :: ts, _, _, is, .cons h0 hs _ _, h => by
    cases t <;> first | (cases h; done) | skip
    obtain ⟨is', e, e2⟩ := Option.map_eq_some_iff.mp (show (strsT ts).map (_ :: ·) = some is from h)
    cases e2
    obtain ⟨rfl, _⟩ := h0.str'
    rw [reps_strs hs e]; rfl
theorem reps_keys : ∀ {ts : List T} {xs : List V} {p : FP} {ks : List Key}, Reps K F H ts xs p → keysT ts = some ks → xs = ks.map kV
  | [], _, _, is, .nil _, h => by cases h; rfl
  | t :: ts, _, _, ks, .cons h0 hs _ _, h => by
    obtain ⟨k, e1, e2⟩ := Option.bind_eq_some_iff.mp (show ((keyT t).bind fun k => (keysT ts).bind fun ks => some (k :: ks)) = some ks from h)
    obtain ⟨ks', e3, e4⟩ := Option.bind_eq_some_iff.mp e2
    cases e4
    obtain ⟨rfl, _, _⟩ := keyT_kV h0 e1
    rw [reps_keys hs e3]; rfl
theorem reps_map {α : Type} {f : α → T} {g : α → V} (h : ∀ x, Rep K F H (f x) (g x) nop) : ∀ l : List α, Reps K F H (l.map f) (l.map g) nop
  | [] => .nil fun _ x => x
  | x :: l => .cons (h x) (reps_map h l) (fun _ x => x.elim) fun b => ⟨.inl, fun x => x.elim id id⟩
theorem unK_strs : ∀ {ks : List Key} {ss : List Str}, strsT (ks.map unK) = some ss → ks = ss.map Sum.inr
  | [], ss, h => by cases h; rfl
  | .inl i :: ks, ss, h => by cases h
  | .inr x :: ks, ss, h => by
    obtain ⟨is', e, e2⟩ := Option.map_eq_some_iff.mp (show (strsT (ks.map unK)).map (_ :: ·) = some ss from h)
    cases e2
    rw [unK_strs e]; rfl
theorem unK_ints : ∀ {ks : List Key} {ss : List Int}, intsT (ks.map unK) = some ss → ks = ss.map Sum.inl
  | [], ss, h => by cases h; rfl
  | .inr i :: ks, ss, h => by cases h
  | .inl x :: ks, ss, h => by
    obtain ⟨is', e, e2⟩ := Option.map_eq_some_iff.mp (show (intsT (ks.map unK)).map (_ :: ·) = some ss from h)
    cases e2
    rw [unK_ints e]; rfl
end
theorem ints_len : ∀ {ts : List T} {is : List Int}, intsT ts = some is → is.length = ts.length
  | [], is, h => by cases h; rfl
  | t :: ts, is, h => by
    cases t <;> first | (cases h; done) | skip
    obtain ⟨is', e, e2⟩ := Option.map_eq_some_iff.mp (show (intsT ts).map (_ :: ·) = some is from h)
    cases e2; rw [List.length_cons, ints_len e]; rfl
theorem keys_len : ∀ {ts : List T} {is : List Key}, keysT ts = some is → is.length = ts.length
  | [], is, h => by cases h; rfl
  | t :: ts, ks, h => by
    obtain ⟨k, e1, e2⟩ := Option.bind_eq_some_iff.mp (show ((keyT t).bind fun k => (keysT ts).bind fun ks => some (k :: ks)) = some ks from h)
    obtain ⟨ks', e3, e4⟩ := Option.bind_eq_some_iff.mp e2
    cases e4; rw [List.length_cons, keys_len e3]; rfl
theorem pair_snd {P : Program} {w : World} : ∀ {l : List (Int × Value)} {ks : List Key}, Paired (GoodQ P w) l ks → Paired (fun (u : Value) (k : Key) => RelV (kV k) u) (l.map (·.2)) ks
  | _, _, .nil => .nil
  | _, _, .cons h t => .cons h.1 (pair_snd t)
theorem perm_inr {l : List Key} {ss : List Str} (h : l.Perm (ss.map Sum.inr)) : ∃ zs : List Str, l = zs.map Sum.inr ∧ zs.Perm ss := by
  have hall : ∀ k ∈ l, ∃ x, k = Sum.inr x := fun k hk => by
    obtain ⟨x, _, e⟩ := List.mem_map.mp (h.mem_iff.mp hk); exact ⟨x, e.symm⟩
  let f : Key → Option Str := fun k => match k with
    | .inl _ => none
    | .inr x => some x
  refine ⟨l.filterMap f, ?_, ?_⟩
  · clear h
    induction l with
    | nil => rfl
    | cons k l ih =>
      obtain ⟨x, rfl⟩ := hall k List.mem_cons_self
      show _ = Sum.inr x :: (l.filterMap f).map Sum.inr
      rw [← ih fun k hk => hall k (List.mem_cons_of_mem _ hk)]
  · have := h.filterMap f
    rwa [show (ss.map Sum.inr).filterMap f = ss by
      clear this hall h
      induction ss with
      | nil => rfl
      | cons x ss ih => exact congrArg (x :: ·) ih] at this
theorem strs_of_pair : ∀ {us : List Value} {zs : List Str}, Paired (fun (u : Value) (k : Key) => RelV (kV k) u) us (zs.map Sum.inr) → StrsAre us zs
  | _, [], .nil => .nil
  | _, z :: zs, .cons h t => by
    obtain ⟨tk, rfl⟩ := h
    exact .cons z tk (strs_of_pair t)
/-! ### the set's object -/
def SetQO (P : Program) (w : World) (a : Addr) (l : List Key) : HO := .ext fun h => SetQ P w h a l
section
variable {X : Cx} {P : Pg} {a b c x y : Expr} {xs : List Expr} {a' b' c' e : E} {es : Es} {pos : Pos}
def rSetQ (X : Cx) : List V → Hp → VK → Prop := fun xs H Q => ∃ a ks, xs = [.ref a] ∧ SqL X.K H a (ks.map kV) ∧ ks.length + 1 < scanBound ∧ ∀ p, H p = none → Q (.ref p) (upd H p (SetQO X.prog X.w p (dedK ks)))
theorem cr_setQ (hc : X.calm = true) : CallR X (.type "set") (rSetQ X) := fun pins s σ H xs us Q I r ⟨a, ks, e, hs, hb, q⟩ => by
  subst e; rw [Vals.ref1 r]
  obtain ⟨its, rv, hl, _⟩ := I.list hs
  refine call_setQ ks (I.ok.hd hc) hl.isList (by simpa using rv) hb fun h' tk R hk => ?_
  have ⟨o, _, _, _, _, ho, _⟩ := R
  exact ⟨.ref s.heap.objs.size, _, I.laid (t' := tk) hk (Nat.le_refl _) (show ObjOk X.prog X.w _ h' s.heap.objs.size (SetQO X.prog X.w s.heap.objs.size (dedK ks)) from ⟨R, ⟨o, ho⟩, fun h1 h2 p k => p.at' k⟩), rfl, q _ (I.hok.fresh (Nat.le_refl _))⟩
theorem cr_lenSetQ : CallR X (.builtin "len") (fun xs H Q => ∃ a l, xs = [.ref a] ∧ H a = some (SetQO X.prog X.w a l) ∧ Q (.int (l.length : Nat)) H) := fun pins s σ H xs us Q I r ⟨a, l, e, ha, q⟩ => by
  subst e; rw [Vals.ref1 r]
  obtain ⟨o, es, ep, t, ks, ho, hex, hd, g, pk, _, hb, hf, _⟩ := (I.hok a _ ha).1
  have hz : es.size = l.length := by
    have a2 : es.toList.length = ks.length := Paired.length g
    rw [← pk.length_eq, ← a2]; exact Array.length_toList.symm
  exact call_len_set ho hex hd hf (by have : scanBound = 4096 := rfl
                                      omega) ⟨.int _, H, I.tok _, ⟨_, by rw [hz]⟩, q⟩
theorem cr_sortSetQ (hc : X.calm = true) : CallR X (.builtin "sorted") (fun xs H Q => ∃ a ss, xs = [.ref a] ∧ H a = some (SetQO X.prog X.w a (ss.map Sum.inr)) ∧ ss.length < 64 ∧ ∀ p, H p = none → Q (.ref p) (upd H p (.lst ((isort leS ss).map V.str)))) := fun pins s σ H xs us Q I r ⟨a, ss, e, ha, h64, q⟩ => by
  subst e; rw [Vals.ref1 r]
  obtain ⟨o, es, ep, t, ks, ho, hex, hd, g, pk, _, hb, hf, hr, hl⟩ := (I.hok a _ ha).1
  refine Calls.call_function_entry kind_sorted plain_sorted entry_sorted (args_sorted1 _) ?_; unfold Builtin.«sorted»
  refine wpAny_bind (m := checkCount "sorted" 1 1 _) (wpAny_pure ?_)
  refine wpAny_bind (collect_set (A := X.A.in1) (I.ok.hd hc) ⟨o, ho, hex.1, hd⟩ hf hb hr hl fun s1 vs k1 hz g1 o1 pm => ?_)
  obtain ⟨k2, q1, q2⟩ := paired_perm pm.symm (pair_snd g)
  obtain ⟨zs, rfl, pz⟩ := perm_inr (q2.trans pk)
  have hS : StrsAre vs zs := strs_of_pair q1
  have hvl : vs.length = ss.length := by rw [hS.len_eq, pz.length_eq]
  refine wpAny_bind (wpAny_newList ?_ (by rw [hvl, sizeLine_eq]; omega))
  have hoL : (s1.heap.push (seqObj "list" vs.toArray 0)).get? s1.heap.objs.size = some (seqObj "list" vs.toArray 0) := Heap.get?_push_size _ rfl
  refine wpAny_bind (wpAny_holding (wpAny_call_entry slot_list_sort ⟨_, hoL, rfl⟩ entry_list_sort (list_sort_treeK strKind_oneLt (s := { s1 with heap := s1.heap.push (seqObj "list" vs.toArray 0) }) hoL hS.keysOf (fun v₁ v₂ rest e => keyKind_strs (by rw [← e]; exact hS)) (by rw [hvl]; exact h64) fun st' hp hs => ⟨_, rfl, ?_⟩) (args_list_sort _)))
  obtain ⟨ys, b1, b2, b3⟩ := sorted_out_str hS hp hs
  obtain ⟨c, hc'⟩ := sortedHeap_at (vs := vs) (out := (arrOf st').map (·.2)) hoL
  rw [sorted_strs_eq (b2.trans pz) b3] at b1
  have hlen : ((isort leS ss).map V.str).length ≤ sizeLine := by rw [List.length_map, (isort_perm ss).length_eq]; exact small64 h64
  have hp : s.heap.objs.size ≤ s1.heap.objs.size := hz
  have hn : H s1.heap.objs.size = none := I.hok.fresh hp
  have kk : ∀ b u, s.heap.get? b = some u → (sortedHeap (s1.heap.push (seqObj "list" vs.toArray 0)) s1.heap.objs.size vs ((arrOf st').map (·.2))).get? b = some u := fun b u e => by
    have hlt := Heap.lt_size (k1 b u e)
    rw [sortedHeap_old (Nat.ne_of_lt hlt) (by rw [size_push']; exact Nat.lt_succ_of_lt hlt)]
    exact Heap.get?_push_of_some _ (k1 b u e)
  have J : Inv X pins σ (upd H s1.heap.objs.size (.lst ((isort leS ss).map V.str))) { s with heap := sortedHeap (s1.heap.push (seqObj "list" vs.toArray 0)) s1.heap.objs.size vs ((arrOf st').map (·.2)), gens := s1.gens, drawn := s1.drawn, toks := s1.toks } :=
    I.call (ch := []) (Un.laid kk hp hn) (I.hok.laid kk hp ⟨hlen, ((arrOf st').map (·.2)).toList, c, vals_of_strs b1, by rw [Array.toArray_toList]; exact hc'⟩) (by rw [g1]; exact I.bare) (fun _ z => nomatch z)
  refine wpAny_pure ⟨_, rfl, .ref s1.heap.objs.size, _, ?_, rfl, q _ hn⟩
  have e : ({ s1 with heap := sortedHeap (s1.heap.push (seqObj "list" vs.toArray 0)) s1.heap.objs.size vs ((arrOf st').map (·.2)) } : Shared) = { s with heap := sortedHeap (s1.heap.push (seqObj "list" vs.toArray 0)) s1.heap.objs.size vs ((arrOf st').map (·.2)), gens := s1.gens, drawn := s1.drawn, toks := s1.toks } := by
    cases s1; cases s; cases o1; rfl
  rw [e]; exact J
/-! ### data of any depth -/
theorem reps_pairs {K : PySem.W.Frag} {F H : Hp} : ∀ {l : List (V × T)}, (∀ b ∈ l, Rep K F H b.2 b.1 nop) → Reps K F H (l.map (·.2)) (l.map (·.1)) nop
  | [], _ => .nil fun _ x => x
  | b :: l, h => .cons (h b List.mem_cons_self) (reps_pairs fun c m => h c (List.mem_cons_of_mem _ m)) (fun _ x => x.elim) fun b => ⟨.inl, fun x => x.elim id id⟩
theorem reps_zip {K : PySem.W.Frag} {F H : Hp} : ∀ {ts : List T} {xs : List V}, Reps K F H ts xs nop → ∀ b ∈ xs.zip ts, Rep K F H b.2 b.1 nop
  | _, _, .nil _, b, m => by cases m
  | _, _, .cons h hs d e, b, m => by
    rcases List.mem_cons.mp m with rfl | m
    · exact h.cg fun a => ⟨fun x => (e a).mpr (.inl x), fun x => x.elim⟩
    · exact reps_zip (hs.cg fun a => ⟨fun x => (e a).mpr (.inr x), fun x => x.elim⟩) b m
theorem pds_map : ∀ {ts : List T} {ds : List PyData}, pds ts = some ds → ds = ts.map dOf ∧ ∀ t ∈ ts, pd t = some (dOf t)
  | [], ds, h => by cases h; exact ⟨rfl, fun t m => by cases m⟩
  | t :: ts, ds, h => by
    simp only [pds] at h
    cases e1 : pd t with
    | none => rw [e1] at h; cases h
    | some d =>
      cases e2 : pds ts with
      | none => rw [e1, e2] at h; cases h
      | some d2 =>
        rw [e1, e2] at h; cases h
        obtain ⟨rfl, i2⟩ := pds_map e2
        have ed : dOf t = d := by unfold dOf; rw [e1]; rfl
        refine ⟨by rw [List.map_cons, ed], fun u m => ?_⟩
        rcases List.mem_cons.mp m with rfl | m
        · rw [ed]; exact e1
        · exact i2 u m
theorem cr_sortD (hu : X.A.units + 100 < cLine) : CallR X (.builtin "sorted") (fun xs H Q => ∃ (a : Addr) (bs : List (V × T)), xs = [.ref a] ∧ SqL X.K H a (bs.map (·.1)) ∧ (∀ b ∈ bs, Dp X.K H b.1 (dOf b.2)) ∧ W.AllAlike (bs.map fun b => dOf b.2) ∧ W.Sortable (bs.map fun b => dOf b.2) ∧ (∀ b ∈ bs, (dOf b.2).depth ≤ 20) ∧
    ∀ p, H p = none → Q (.ref p) (upd H p (.lst ((bs.mergeSort fun b c => leD b.2 c.2).map (·.1))))) := fun pins s σ H xs us Q I r ⟨a, bs, e, hs, hd, hal, hk, hdp, q⟩ => by
  subst e; rw [Vals.ref1 r]
  obtain ⟨its, rv, hl, hz⟩ := I.list hs
  have each : ∀ {bs : List (V × T)} {us : List Value}, Vals (bs.map (·.1)) us → W.EachIs (fun v (b : V × T) => RelV b.1 v) us bs := fun {bs us} => by
    induction bs generalizing us with
    | nil => intro r; cases r; exact .nil
    | cons b bs ih => intro r; cases r with
      | cons h t => exact .cons h (ih t)
  have each2 : ∀ {bs : List (V × T)} {us : List Value}, W.EachIs (fun v (b : V × T) => RelV b.1 v) us bs → (∀ b ∈ bs, Dp X.K H b.1 (dOf b.2)) → W.EachIs (fun v (b : V × T) => ∃ as, Reads s.heap v (dOf b.2) as) us bs := fun {bs us} => by
    induction bs generalizing us with
    | nil => intro r _; cases r; exact .nil
    | cons b bs ih => intro r hd; cases r with
      | cons h t => exact .cons (Dp.reads I _ _ _ (hd b List.mem_cons_self) h) (ih t fun c m => hd c (List.mem_cons_of_mem _ m))
  have back : ∀ {bs : List (V × T)} {us : List Value}, W.EachIs (fun v (b : V × T) => RelV b.1 v) us bs → Vals (bs.map (·.1)) us := fun {bs us} => by
    induction bs generalizing us with
    | nil => intro r; cases r; exact .nil
    | cons b bs ih => intro r; cases r with
      | cons h t => exact .cons h (ih t)
  have hn : bs.length ≤ sizeLine := by have := rv.length; rw [List.length_map] at this hz; exact hz
  refine W.sorted_data (enc := fun b : V × T => dOf b.2) hl.isList (each rv) (each2 (each rv) hd) hal hk hn (fun b m => by have := hdp b m; omega) fun out ho he => ?_
  rw [W.dataLe_eq] at he
  obtain ⟨ep, he'⟩ := PyProof.Rows.sortedAll_at s.heap its (List.toArray out)
  have hlen : ((bs.mergeSort fun b c => leD b.2 c.2).map (·.1)).length ≤ sizeLine := by rw [List.length_map, List.length_mergeSort]; exact hn
  exact ⟨.ref _, _, I.laid (t' := s.toks) (fun _ _ => PyProof.Rows.sortedAll_old) (Nat.le_succ _) (show ObjOk X.prog X.w _ _ _ (.lst ((bs.mergeSort fun b c => leD b.2 c.2).map (·.1))) from ⟨hlen, out, ep, back he, he'⟩), rfl, q _ (I.hok.fresh (Nat.le_succ _))⟩
theorem sortD_ok (hu : X.A.units + 100 < cLine) {F H : Hp} {a : Addr} {ts us : List T} {ys : List V} {q : FP} {Q : VK} (s1 : Rd H a (.lst ys)) (ex : Ex F H) (r1 : Reps X.K F H ts ys q) (e : sortD ts = some us)
    (k : ∀ v F' H' pv, Ex F' H' → Rep X.K F' H' (.lst true us) v pv → Stp nop F H pv F' H' → Q v H') : ∃ r, CallR X (.builtin "sorted") r ∧ r [.ref a] H Q := by
  unfold sortD at e
  cases hp : pds ts with
  | none => rw [hp] at e; cases e
  | some ds =>
    rw [hp] at e
    have e' : (if isFs ts && allAlikeB ds && (ds.all tupB || ds.all othB) && ds.all (fun d => decide (d.depth ≤ 20)) && decide (ts.length < 10000000) then some (ts.mergeSort leD) else none) = some us := e
    by_cases hz : (isFs ts && allAlikeB ds && (ds.all tupB || ds.all othB) && ds.all (fun d => decide (d.depth ≤ 20)) && decide (ts.length < 10000000)) = true
    · rw [if_pos hz] at e'; cases e'
      simp only [Bool.and_eq_true, decide_eq_true_eq, Bool.or_eq_true] at hz
      obtain ⟨⟨⟨⟨h1, h2⟩, h3⟩, h4⟩, h5⟩ := hz
      obtain ⟨rfl, hpd⟩ := pds_map hp
      have R0 : Reps X.K F H ts ys nop := r1.cg fun b => ⟨fun x => r1.of_isFs h1 b x, fun x => x.elim⟩
      have hl := r1.length
      have m1 : (ys.zip ts).map (·.1) = ys := List.map_fst_zip (by omega)
      have m2 : (ys.zip ts).map (·.2) = ts := List.map_snd_zip (by omega)
      have hb := reps_zip R0
      have md : ((ys.zip ts).map fun b => dOf b.2) = ts.map dOf := by
        rw [show (fun b : V × T => dOf b.2) = dOf ∘ (·.2) from rfl, ← List.map_map, m2]
      have mm : ∀ b ∈ ys.zip ts, b.2 ∈ ts := fun b m => (List.of_mem_zip (a := b.1) (b := b.2) m).2
      refine ⟨_, cr_sortD hu, a, ys.zip ts, rfl, .inl (by rw [m1]; exact s1), fun b m => (hb b m).dp ex (hpd _ (mm b m)), ?_, ?_, fun b m => ?_, fun p np => ?_⟩
      · rw [md]
        intro d hd d' hd'
        exact List.all_eq_true.mp (List.all_eq_true.mp h2 d hd) d' hd'
      · rw [md]
        rcases h3 with h3 | h3
        · refine .inl fun d hd => ?_
          have := List.all_eq_true.mp h3 d hd
          unfold tupB at this
          split at this
          · exact ⟨_, _, rfl⟩
          · cases this
        · refine .inr fun d hd => ?_
          have := List.all_eq_true.mp h3 d hd
          unfold othB at this
          split at this
          · cases this
          · cases this
          · rename_i h1 h2; exact ⟨h1, h2⟩
      · exact of_decide_eq_true (List.all_eq_true.mp h4 _ (List.mem_map.mpr ⟨b.2, mm b m, rfl⟩))
      · have hperm : ∀ b ∈ (ys.zip ts).mergeSort (fun b c => leD b.2 c.2), Rep X.K F H b.2 b.1 nop := fun b m => hb b ((List.mergeSort_perm _ _).mem_iff.mp m)
        have R2 := reps_pairs hperm
        have e3 : ((ys.zip ts).mergeSort (fun b c => leD b.2 c.2)).map (·.2) = ts.mergeSort leD := by
          have := List.map_mergeSort (r := fun (b c : V × T) => leD b.2 c.2) (s := leD) (f := fun b : V × T => b.2) (l := ys.zip ts) fun _ _ _ _ => rfl
          rw [m2] at this; exact this
        rw [e3] at R2
        obtain ⟨a1, a2, a3⟩ := new_lst ex np R2
        exact k _ _ _ _ a1 a2 (a3.cg fun _ => Iff.rfl)
    · rw [if_neg hz] at e'; cases e'
/-! ### as operations -/
theorem cr_sorted1 (hc : X.calm = true) (hu : X.A.units + 100 < cLine) : CallR X (.builtin "sorted") (rC1 X.K .sorted) := callr_any fun xs H Q h => by
  obtain ⟨x, rfl, F, t, p, r, ex, ht, e, k⟩ := h
  cases t <;> first | (cases e; done) | skip
  · rename_i o ts
    obtain ⟨a, ys, q, rfl, s1, r1, _⟩ := ht.seqL ex
    obtain ⟨us, e1, rfl⟩ := Option.map_eq_some_iff.mp (show ((sortT ts).orElse fun _ => sortD ts).map (T.lst true) = some r from e)
    cases hst : sortT ts with
    | none =>
      rw [hst] at e1
      exact sortD_ok hu s1 ex r1 e1 k
    | some us' =>
    rw [hst] at e1
    obtain rfl : us' = us := Option.some.inj e1
    have e1 := hst
    unfold sortT at e1
    split at e1
    · rename_i is hi
      cases e1
      have := reps_ints r1 hi
      subst this
      refine ⟨_, cr_sortedI, a, is, rfl, .inl s1, fun ns' p0 pm srt np => ?_⟩
      rw [sorted_ints_eq pm srt]
      obtain ⟨a1, a2, a3⟩ := new_lst ex np (reps_map (K := X.K) (F := F) (H := H) (fun i : Int => .int fun _ x => x) (isort leI is))
      exact k _ _ _ _ a1 a2 (a3.cg fun _ => Iff.rfl)
    · split at e1
      · rename_i ss hs
        by_cases hz : decide (ss.length < 64) = true
        · rw [if_pos hz] at e1; cases e1
          have := reps_strs r1 hs
          subst this
          refine ⟨_, cr_sortedS, a, ss, rfl, .inl s1, of_decide_eq_true hz, fun ns' p0 pm srt np => ?_⟩
          rw [sorted_strs_eq pm srt]
          obtain ⟨a1, a2, a3⟩ := new_lst ex np (reps_map (K := X.K) (F := F) (H := H) (fun i : Str => .str fun _ x => x) (isort leS ss))
          exact k _ _ _ _ a1 a2 (a3.cg fun _ => Iff.rfl)
        · rw [if_neg hz] at e1; cases e1
      · cases e1
  · rename_i o kd ks ts
    cases kd with
    | true => cases e
    | false =>
      have e' : (if decide (ks.length < 64) then (sortT (ks.map fun k => unK (key1k k))).map (T.lst true) else none) = some r := e
      by_cases hz : decide (ks.length < 64) = true
      · rw [if_pos hz] at e'
        obtain ⟨us, e1, rfl⟩ := Option.map_eq_some_iff.mp e'
        obtain ⟨a, ys, q, rfl, rd, w, r1, _⟩ := ht.dctR ex
        have ke : (ks.map fun k => unK (key1k k)) = (ks.map key1).map unK := by
          rw [List.map_map]; refine List.map_congr_left fun k _ => ?_
          cases k <;> rfl
        rw [ke] at e1
        have zl : ((ks.map key1).zip ys).map (·.1) = ks.map key1 := zip_keys w.len
        unfold sortT at e1
        split at e1
        · rename_i is hi
          cases e1
          have h2 := unK_ints hi
          have h3 : is.length < 64 := by have := congrArg List.length h2; simp at this; have := of_decide_eq_true hz; omega
          refine ⟨_, call_sortedDI hc, a, _, is, rfl, rd, by rw [zl, h2], h3, fun ns' p0 pm srt np => ?_⟩
          rw [sorted_ints_eq pm srt]
          obtain ⟨a1, a2, a3⟩ := new_lst ex np (reps_map (K := X.K) (F := F) (H := H) (fun i : Int => .int fun _ x => x) (isort leI is))
          exact k _ _ _ _ a1 a2 (a3.cg fun _ => Iff.rfl)
        · split at e1
          · rename_i ss hs
            by_cases hz2 : decide (ss.length < 64) = true
            · rw [if_pos hz2] at e1; cases e1
              have h2 := unK_strs hs
              refine ⟨_, call_sortedD hc, a, _, ss, rfl, rd, by rw [zl, h2], of_decide_eq_true hz2, fun ns' p0 pm srt np => ?_⟩
              rw [sorted_strs_eq pm srt]
              obtain ⟨a1, a2, a3⟩ := new_lst ex np (reps_map (K := X.K) (F := F) (H := H) (fun i : Str => .str fun _ x => x) (isort leS ss))
              exact k _ _ _ _ a1 a2 (a3.cg fun _ => Iff.rfl)
            · rw [if_neg hz2] at e1; cases e1
          · cases e1
      · rw [if_neg hz] at e'; cases e'
/-- f(set(a)), f len or sorted -/
theorem setq_step {F H : Hp} {b0 : Addr} {ob : HO} (ex : Ex F H) (n : H b0 = none) : Ex F (upd H b0 ob) ∧ Stp nop F H nop F (upd H b0 ob) :=
  ⟨Evl.Ex.mut ex (fresh_F ex n), Evl.Ex.refl F, fun b o e _ => by rw [upd_ne (ne_of_none e n)]; exact e, fun _ _ _ _ => rfl, fun b x => x.elim⟩
theorem sd_lenset {p1 p2 q : Pos} (hc : X.calm = true) (hg : Gl X "len") (hm : X.mg "len" = none) (hg2 : Gl X "set") (hm2 : X.mg "set" = none) (ha : Sd X P a a')
    (he : starEach [a] X.env = (false, eval a X.env) :: starEach [] X.env) : Sd X P (.Call (.Name "len" p1) [.Call (.Name "set" p2) [a] [] q] [] pos) (.op1 .lenset a') :=
  have v : ∀ m, m ≠ .t → PE X (.Call (.Name "len" p1) [.Call (.Name "set" p2) [a] [] q] [] pos) (tev X.K P m (.op1 .lenset a')) := fun m hmm =>
    pe_imp (pe_callB cr_lenSetQ hg hm (by decide +kernel) (pa_cons (pe_callTy (cr_setQ hc) hg2 hm2 (by decide +kernel) (pa_cons (ha.v .o (by decide)) pa_nil he) (by decide) (by decide) he) pa_nil rfl) (by decide) (by decide) rfl) fun σ H Q h => by
      obtain ⟨F, sl, p, t, sl', ex, S, e, k⟩ := core1 hmm h
      refine ⟨F, sl, p, t, sl', ex, S, e, fun v F' H' pv p' ex' S' R' d st => ?_⟩
      obtain ⟨F1, t1, p3, r, ex1, R1, e1, k1⟩ := k v F' H' pv p' ex' S' R' d st
      cases t1 <;> first | (cases e1; done) | skip
      rename_i o ts
      have e2 : (if decide (ts.length < 4000) then (keysT ts).map fun ks => T.int (dedK ks).length else none) = some r := e1
      by_cases hz : decide (ts.length < 4000) = true
      · rw [if_pos hz] at e2
        obtain ⟨ks, e3, rfl⟩ := Option.map_eq_some_iff.mp e2
        obtain ⟨a0, ys, q0, rfl, s1, r1, _⟩ := R1.seqL ex1
        have := reps_keys r1 e3
        subst this
        refine ⟨a0, ks, rfl, .inl s1, by rw [keys_len e3]; have := of_decide_eq_true hz; unfold scanBound; omega, fun b0 nb => ?_⟩
        obtain ⟨g1, g2⟩ := setq_step (ob := SetQO X.prog X.w b0 (dedK ks)) ex1 nb
        exact ⟨b0, _, rfl, upd_same, k1 _ F1 _ nop g1 (.int fun _ x => x) g2⟩
      · rw [if_neg hz] at e2; cases e2
  ⟨v, pt_plain (v .o (by decide)) plain_op1 fun _ => rfl⟩
theorem sd_sortset {p1 p2 q : Pos} (hc : X.calm = true) (hg : Gl X "sorted") (hm : X.mg "sorted" = none) (hg2 : Gl X "set") (hm2 : X.mg "set" = none) (ha : Sd X P a a')
    (he : starEach [a] X.env = (false, eval a X.env) :: starEach [] X.env) : Sd X P (.Call (.Name "sorted" p1) [.Call (.Name "set" p2) [a] [] q] [] pos) (.op1 .sortset a') :=
  have v : ∀ m, m ≠ .t → PE X (.Call (.Name "sorted" p1) [.Call (.Name "set" p2) [a] [] q] [] pos) (tev X.K P m (.op1 .sortset a')) := fun m hmm =>
    pe_imp (pe_callB (cr_sortSetQ hc) hg hm (by decide +kernel) (pa_cons (pe_callTy (cr_setQ hc) hg2 hm2 (by decide +kernel) (pa_cons (ha.v .o (by decide)) pa_nil he) (by decide) (by decide) he) pa_nil rfl) (by decide) (by decide) rfl) fun σ H Q h => by
      obtain ⟨F, sl, p, t, sl', ex, S, e, k⟩ := core1 hmm h
      refine ⟨F, sl, p, t, sl', ex, S, e, fun v F' H' pv p' ex' S' R' d st => ?_⟩
      obtain ⟨F1, t1, p3, r, ex1, R1, e1, k1⟩ := k v F' H' pv p' ex' S' R' d st
      cases t1 <;> first | (cases e1; done) | skip
      rename_i o ts
      have e2 : (if decide (ts.length < 4000) then (keysT ts).bind fun ks => (strsT ((dedK ks).map unK)).bind fun ss => if decide (ss.length < 64) then some (T.lst true ((isort leS ss).map .str)) else none else none) = some r := e1
      by_cases hz : decide (ts.length < 4000) = true
      · rw [if_pos hz] at e2
        obtain ⟨ks, e3, e4⟩ := Option.bind_eq_some_iff.mp e2
        obtain ⟨ss, e5, e6⟩ := Option.bind_eq_some_iff.mp e4
        by_cases hz2 : decide (ss.length < 64) = true
        · rw [if_pos hz2] at e6; cases e6
          obtain ⟨a0, ys, q0, rfl, s1, r1, _⟩ := R1.seqL ex1
          have := reps_keys r1 e3
          subst this
          refine ⟨a0, ks, rfl, .inl s1, by rw [keys_len e3]; have := of_decide_eq_true hz; unfold scanBound; omega, fun b0 nb => ?_⟩
          obtain ⟨g1, g2⟩ := setq_step (ob := SetQO X.prog X.w b0 (dedK ks)) ex1 nb
          refine ⟨b0, ss, rfl, by rw [upd_same, unK_strs e5], of_decide_eq_true hz2, fun p0 np => ?_⟩
          obtain ⟨a1, a2, a3⟩ := new_lst g1 np (reps_map (K := X.K) (F := F1) (H := upd H' b0 (SetQO X.prog X.w b0 (dedK ks))) (fun i : Str => .str fun _ x => x) (isort leS ss))
          exact k1 _ F1 _ _ a1 a2 (g2.trans (a3.cg fun _ => Iff.rfl))
        · rw [if_neg hz2] at e6; cases e6
      · rw [if_neg hz] at e2; cases e2
  ⟨v, pt_plain (v .o (by decide)) plain_op1 fun _ => rfl⟩
end
end Pv

/-! xs.count(y), xs.index(y), str(n). -/
namespace Pv
open PySem PySem.Spec L2 PyProof.Rows
section
variable {X : Cx} {P : Pg} {a b c x y : Expr} {xs : List Expr} {a' b' c' e : E} {es : Es} {pos : Pos}
theorem mt_countF : MtR X "list.count" (fun x vs H Q => ∃ a ys y, x = .ref a ∧ vs = [y] ∧ SqL X.K H a ys ∧ flatV y = true ∧ ys.all flatV = true ∧ Q (.int (ys.countP fun z => eqV z y : Nat)) H) := fun pins s σ H x vs v us Q I rx rv ⟨a, ys, y, e1, e2, hs, fy, fys, q⟩ => by
  subst e1 e2; cases rx
  obtain ⟨u, rfl, ru⟩ := rv.one
  obtain ⟨its, rs, ⟨⟨cls, dd, data, sl⟩, n, ho, hc, hdn, hd⟩, hlen⟩ := I.list hs
  simp only at hc hd; subst hc hd
  have ec : ∀ {ys : List V} {us : List Value}, Vals ys us → ys.all flatV = true → us.countP (eqU y) = ys.countP fun z => eqV z y := fun {ys us} r => by
    induction r with
    | nil => intro _; rfl
    | cons h _ ih =>
      intro f
      rw [List.all_cons, Bool.and_eq_true] at f
      rw [List.countP_cons, List.countP_cons, ih f.2, eqU_of h f.1]
  refine call_meets PySem.F.slot_list_count ⟨_, ho, rfl⟩ PySem.F.entry_list_count (PySem.F.args_list_count_2 _ _) (SeqAt.list_countAt a its.toArray n dd sl u (eqU y)) ⟨ho, fun w hw => mem_eqAt ru fy rs fys w (by simpa using hw), .int _, H, I.tok _, ⟨s.toks, ?_⟩, q⟩
  have e := ec rs fys
  show Value.int ((its.toArray.toList.countP (eqU y) : Nat) : Int) s.toks = _
  rw [show its.toArray.toList = its from rfl, e]
theorem mr_lcount : MtR X "list.count" (fun x vs H Q => ∃ y, vs = [y] ∧ rT2 X.K .lcount x y H Q) := mtr_any fun x vs H Q ⟨y, e0, F, t, u, p, q, r, ex, ht, hu, e, k⟩ => by
  subst e0
  cases t <;> first | (cases u <;> cases e; done) | skip
  rename_i o ts
  obtain ⟨a0, ys, q0, rfl, s1, r1, _⟩ := ht.seqL ex
  obtain ⟨w, e1, e2⟩ := Option.bind_eq_some_iff.mp (show ((flT u).bind fun v => (flTs ts).bind fun vs => some (T.int (vs.countP fun z => L2.eqV z v : Nat))) = some r by cases u <;> exact e)
  obtain ⟨ws, e3, e4⟩ := Option.bind_eq_some_iff.mp e2
  cases e4
  obtain ⟨rfl, f1⟩ := rep_fl hu e1
  obtain ⟨rfl, f2⟩ := reps_fl r1 e3
  exact ⟨_, mt_countF, a0, _, _, rfl, rfl, .inl s1, f1, f2, d_int k ex⟩
theorem mr_lindex : MtR X "list.index" (fun x vs H Q => ∃ y, vs = [y] ∧ rT2 X.K .lindex x y H Q) := mtr_any fun x vs H Q ⟨y, e0, F, t, u, p, q, r, ex, ht, hu, e, k⟩ => by
  subst e0
  cases t <;> first | (cases u <;> cases e; done) | skip
  rename_i o ts
  obtain ⟨a0, ys, q0, rfl, s1, r1, _⟩ := ht.seqL ex
  obtain ⟨w, e1, e2⟩ := Option.bind_eq_some_iff.mp (show ((flT u).bind fun v => (flTs ts).bind fun vs => (vs.findIdx? fun z => L2.eqV z v).map fun j => T.int (j : Nat)) = some r by cases u <;> exact e)
  obtain ⟨ws, e3, e4⟩ := Option.bind_eq_some_iff.mp e2
  obtain ⟨j, e5, rfl⟩ := Option.map_eq_some_iff.mp e4
  obtain ⟨rfl, f1⟩ := rep_fl hu e1
  obtain ⟨rfl, f2⟩ := reps_fl r1 e3
  obtain ⟨h1, h2, h3⟩ := List.findIdx?_eq_some_iff_getElem.mp e5
  refine ⟨_, mt_index, a0, _, _, j, _, rfl, rfl, .inl s1, f1, f2, List.getElem?_eq_getElem h1, h2, fun m z' hm hz => ?_, d_int k ex⟩
  obtain ⟨g1, g2⟩ := List.getElem?_eq_some_iff.mp hz
  have := h3 m hm
  rw [g2] at this
  simpa using this
/-- o.m(x), read: as an operation of two -/
theorem sd_bm2 {name : Str} {id : String} {o : O2} {apos : Pos} (pa : PlainAttrs "list") (slot : Slot "list" name id) (hty : typeOf (.builtin id) = pure (.type "method_descriptor")) (hr : MtR X id (fun x vs H Q => ∃ y, vs = [y] ∧ rT2 X.K o x y H Q)) (hk : ∀ t u r, op2 o t u = some r → ∃ od ts, t = .lst od ts)
    (ha : Sd X P a a') (hb : Sd X P b b') (hbase : attributeBase a name X.env (eval a X.env) = eval a X.env)
    (hfew : ((backTo pos (starEach [b] X.env)).all (fun x => !x.1) && (backToKw pos (keywordEach [] X.env)).all (fun x => x.1.isSome) && decide ([b].length + ([] : List Keyword).length + (if ([] : List Keyword).isEmpty then 0 else 1) < 30)) = true) (hl : (apos.endLine == pos.line) = true)
    (he : starEach [b] X.env = (false, eval b X.env) :: starEach [] X.env) : Sd X P (.Call (.Attribute a name apos) [b] [] pos) (.op2 o a' b') :=
  have v : ∀ m, m ≠ .t → PE X (.Call (.Attribute a name apos) [b] [] pos) (tev X.K P m (.op2 o a' b')) := fun m hm =>
    pe_imp (pe_bm pa slot hty hr (ha.v .o (by decide)) (pa_cons (hb.v .o (by decide)) pa_nil he) hbase hfew hl he rfl) fun σ H Q ⟨F, sl, p, t, sl', ex, S, e, k⟩ => by
      obtain ⟨t1, sl1, t2, sl2, r, e1, e2, e3, e4⟩ := ev_op2 e
      obtain ⟨rfl, rfl, _⟩ := fin_some hm e4
      refine ⟨F, sl, p, t1, sl1, ex, S, e1, fun v1 F1 H1 pv1 p1 ex1 S1 R1 d1 st1 => ?_⟩
      obtain ⟨od, ts, rfl⟩ := hk _ _ _ e3
      obtain ⟨a0, ys, q0, rfl, s1, r1, _⟩ := R1.seqL ex1
      refine ⟨.inl ⟨rfl, ys, .inl s1⟩, two_snd e2 ex1 S1 R1 d1 st1 fun v2 F' H' pv1 pv2 p' ex' S' R1 R2 _ st => ?_⟩
      exact ⟨v2, rfl, F', _, t2, pv1, pv2, _, ex', R1, R2, e3, k.op S' (st.sub fun a x => .inr x)⟩
  ⟨v, pt_plain (v .o (by decide)) plain_op2 fun _ => rfl⟩
theorem cr_str1 : CallR X (.type "str") (rC1 X.K .str) := callr_any fun xs H Q h => by
  obtain ⟨x, rfl, F, t, p, r, ex, ht, e, k⟩ := h
  cases t <;> first | (cases e; done) | skip
  rename_i i
  obtain ⟨rfl, _⟩ := ht.int'
  have e' : (if decide (i.natAbs.log2 < 1920) then some (T.str (Str.ofString (toString i))) else none) = some r := e
  by_cases hz : decide (i.natAbs.log2 < 1920) = true
  · rw [if_pos hz] at e'; cases e'
    exact ⟨_, call_str_int, _, rfl, of_decide_eq_true hz, d_str k ex⟩
  · rw [if_neg hz] at e'; cases e'
end
end Pv

/-! From the program's text to the small language. -/
namespace Pv
open PySem L2 PyProof.Rows
structure Gm where
  N : List Str
  sc : Scope
  fnc : Str → Bool
  cs : List (Str × T)
  fs : List (Str × Nat)
  cl : List (Str × Nat)
  im : List (Str × String)
  bl : List Str
  mv : List (Nat × Nat)
def Gm.blk (Γ : Gm) (scope : Scope) : Gm := { Γ with sc := relS scope Γ.sc, fnc := fun x => scope.names.lookup x == some .cell }
def okN2 (n : Str) : Bool := !(n == ("__debug__" : Str)) && !(n == ("__classdict__" : Str))
def visB (sc : Scope) (n : Str) : Bool := match sc.names.lookup n with
  | some .local => true
  | some .cell => true
  | some .free => true
  | _ => false
/-- a name's place -/
def slot (Γ : Gm) (n : Str) : Option Nat := if visB Γ.sc n && okN2 n then Γ.N.idxOf? n else none
/-- a name's place, where it is stored -/
def tslot (Γ : Gm) (n : Str) : Option Nat := match Γ.sc.names.lookup n with
  | some .local => Γ.N.idxOf? n
  | some .cell => if Γ.fnc n then Γ.N.idxOf? n else none
  | _ => none
def isGl (Γ : Gm) (n : Str) : Bool := match Γ.sc.names.lookup n with
  | some .globalImplicit => okN2 n && !(n == ("__name__" : Str))
  | _ => false
def notStar : Expr → Bool
  | .Starred .. => false
  | _ => true
def plainEs (xs : List Expr) : Bool := xs.all notStar
def noSup : Expr → Bool
  | .Call (.Name _ _) [] [] _ => false
  | _ => true
def notSlice : Expr → Bool
  | .Slice .. => false
  | _ => true
def notSet : Expr → Bool
  | .Set .. => false
  | _ => true
def notComp : Expr → Bool
  | .ListComp .. => false
  | .SetComp .. => false
  | .DictComp .. => false
  | _ => true
def esOf (f : Expr → E) : List Expr → Es
  | [] => .nil
  | x :: xs => .cons (f x) (esOf f xs)
def argOf (Γ : Gm) (f : Gm → Expr → E) : Expr → E
  | .Name n p => match slot Γ n with
    | some i => if Γ.mv.contains (p.line, p.col) then .mov i else .var i
    | none => let e := f Γ (.Name n p); if isVar e then .bad else e
  | x => let e := f Γ x; if isVar e then .bad else e
def cOp : Operator → Option O2
  | .Add => some .add
  | .Sub => some .sub
  | .Mult => some .mul
  | .FloorDiv => some .fdiv
  | .Mod => some .mod
  | .Pow => some .pow
  | .BitXor => some .bxor
  | _ => none
def cCmp : CmpOp → Option O2
  | .Lt => some .lt
  | .LtE => some .le
  | .Gt => some .gt
  | .GtE => some .ge
  | .Eq => some .eq
  | .NotEq => some .ne
  | .Is => some .isS
  | .IsNot => some .notS
  | .In => some .isin
  | .NotIn => some .notin
def cB (f : Expr → E) (op : BoolOp) : List Expr → E
  | [] => .bad
  | [a] => f a
  | a :: b :: xs => match op with
    | .And => .an (f a) (cB f op (b :: xs))
    | .Or => .orr (f a) (cB f op (b :: xs))
def cC (f : Expr → E) : List CmpOp → List Expr → Option Ch
  | [o], [b] => (cCmp o).bind fun o => some (.last o (f b))
  | o :: o2 :: os, b :: c :: xs => (cCmp o).bind fun o => (cC f (o2 :: os) (c :: xs)).bind fun ch => some (.more o (f b) ch)
  | _, _ => none
def mkOf (m : Str) (n : Nat) : Option MK :=
  if m == ("append" : Str) && n == 1 then some .append
  else if m == ("extend" : Str) && n == 1 then some .extend
  else if m == ("insert" : Str) && n == 2 then some .insert
  else if m == ("pop" : Str) && n == 0 then some .pop
  else if m == ("pop" : Str) && n == 1 then some .popi
  else none
def tyOf (n : Str) : Option Nat :=
  if n == ("bool" : Str) then some 0
  else if n == ("int" : Str) then some 1
  else if n == ("str" : Str) then some 2
  else if n == ("tuple" : Str) then some 3
  else if n == ("list" : Str) then some 4
  else none
def cBlt1 (n : Str) : Option O1 :=
  if n == ("len" : Str) then some .len
  else if n == ("abs" : Str) then some .abs
  else if n == ("int" : Str) then some .int
  else if n == ("list" : Str) then some .list
  else if n == ("sum" : Str) then some .sum
  else if n == ("all" : Str) then some .all
  else if n == ("any" : Str) then some .any
  else if n == ("tuple" : Str) then some .tuple
  else if n == ("sorted" : Str) then some .sorted
  else if n == ("dict" : Str) then some .dict
  else if n == ("str" : Str) then some .str
  else none
def cBlt2 (n : Str) : Option O2 :=
  if n == ("min" : Str) then some .min2
  else if n == ("max" : Str) then some .max2
  else none
def cIm2 (id : String) : Option O2 :=
  if id == "math.gcd" then some .gcd
  else if id == "math.comb" then some .comb
  else none
/-- set(x) -/
def setArg (Γ : Gm) : Expr → Option Expr
  | .Call (.Name s _) [x] [] _ => if s == ("set" : Str) && isGl Γ s && Γ.bl.contains s && notStar x then some x else none
  | _ => none
def cCallN (f : Gm → Expr → E) (Γ : Gm) (n : Str) (xs : List Expr) : E :=
  if isGl Γ n && plainEs xs then match Γ.fs.lookup n with
    | some i => .call i (esOf (argOf Γ f) xs)
    | none => match Γ.cl.lookup n with
      | some i => .mk n i (esOf (argOf Γ f) xs)
      | none => match Γ.im.lookup n with
        | some id => match xs with
          | [a, b] => match cIm2 id with
            | some o => .op2 o (f Γ a) (f Γ b)
            | none => .bad
          | _ => .bad
        | none => if Γ.bl.contains n then match xs with
            | [a] => match setArg Γ a with
              | some x => if n == ("len" : Str) then .op1 .lenset (f Γ x) else if n == ("sorted" : Str) then .op1 .sortset (f Γ x) else .bad
              | none => match cBlt1 n with
                | some o => .op1 o (f Γ a)
                | none => .bad
            | [a, b] => match cBlt2 n with
              | some o => .op2 o (f Γ a) (f Γ b)
              | none => if n == ("isinstance" : Str) then match b with
                  | .Name t _ => if isGl Γ t && Γ.bl.contains t then match tyOf t with
                    | some k => .op1 (.isi k) (f Γ a)
                    | none => .bad
                    else .bad
                  | _ => .bad
                else .bad
            | _ => .bad
          else .bad
  else .bad
/-- methods that read alone -/
def rmOf (f : Expr → E) (o : Expr) (m : Str) (xs : List Expr) : Option E := match xs with
  | [x] => if m == ("get" : Str) then some (.dget (f o) (f x)) else if m == ("count" : Str) then some (.op2 .lcount (f o) (f x)) else if m == ("index" : Str) then some (.op2 .lindex (f o) (f x)) else none
  | [x, y] => if m == ("get" : Str) then some (.dget2 (f o) (f x) (f y)) else none
  | _ => none
def cCallM0 (f h : Gm → Expr → E) (Γ : Gm) (o : Expr) (m : Str) (apos pos : Pos) (xs : List Expr) : E :=
  if plainEs xs && decide (xs.length < 28) && (apos.endLine == pos.line) then match o with
    | .Name r _ => match slot Γ r with
      | some i => match mkOf m xs.length with
        | some q => .mut i q (esOf (f Γ) xs)
        | none => .meth i m (esOf (argOf Γ f) xs)
      | none => .bad
    | o => match mkOf m xs.length with
      | some q => if noSup o && !xs.isEmpty then .mutp (h Γ o) q (esOf (f Γ) xs) else .bad
      | none => .bad
  else .bad
def cCallM (f h : Gm → Expr → E) (Γ : Gm) (o : Expr) (m : Str) (apos pos : Pos) (xs : List Expr) : E := match rmOf (f Γ) o m xs with
  | some e => if noSup o && plainEs xs && (apos.endLine == pos.line) then e else .bad
  | none => cCallM0 f h Γ o m apos pos xs
def isTup : Expr → Bool
  | .Tuple .. => true
  | _ => false
def nmSlot (Γ : Gm) : Expr → Option Nat
  | .Name n p => if Γ.mv.contains (p.line, p.col) then none else slot Γ n
  | _ => none
/-- what is walked (tg: the target) -/
def cI (f : Gm → Expr → E) (Γ : Gm) (tg : Expr) (e : Expr) : Pv.It := match e with
  | .Call (.Name n _) xs [] _ => if isGl Γ n && Γ.bl.contains n && plainEs xs then
      if n == ("range" : Str) then match xs with
        | [a] => .rng1 (f Γ a)
        | [a, b] => .rng2 (f Γ a) (f Γ b)
        | [a, b, c] => .rng3 (f Γ a) (f Γ b) (f Γ c)
        | _ => .bad
      else if n == ("enumerate" : Str) then match xs with
        | [a] => if isTup tg then .enum (f Γ a) else .bad
        | _ => .bad
      else if n == ("zip" : Str) then match xs with
        | [a, b] => if isTup tg then .zip (f Γ a) (f Γ b) else .bad
        | _ => .bad
      else if n == ("reversed" : Str) then match xs with
        | [a] => .rev (f Γ a)
        | _ => .bad
      else .seq (f Γ e)
    else .seq (f Γ e)
  | .Name n p => (match slot Γ n with
    | some i => if Γ.mv.contains (p.line, p.col) then .seq (.mov i) else .var i
    | none => .seq (f Γ e))
  | .Call (.Attribute o m apos) [] [] pos => if m == ("values" : Str) && noSup o && (apos.endLine == pos.line) then (match nmSlot Γ o with
      | some i => .valsv i
      | none => .vals (f Γ o))
    else if m == ("items" : Str) && noSup o && (apos.endLine == pos.line) && isTup tg then (match nmSlot Γ o with
      | some i => .itmsv i
      | none => .itms (f Γ o))
    else .seq (f Γ e)
  | e => .seq (f Γ e)
def nmsOf (Γ : Gm) : List Expr → Option (List Nat)
  | [] => some []
  | .Name n _ :: xs => (tslot Γ n).bind fun i => (nmsOf Γ xs).bind fun is => some (i :: is)
  | _ :: _ => none
def cG0 (Γ : Gm) : Expr → Option G0
  | .Name n _ => (tslot Γ n).bind fun i => some (.nm i)
  | .Tuple xs _ _ => (nmsOf Γ xs).bind fun is => some (.tp is)
  | .Attribute (.Name r _) f _ => (slot Γ r).bind fun i => some (.at i f)
  | _ => none
def cG0s (Γ : Gm) : List Expr → Option (List G0)
  | [] => some []
  | x :: xs => (cG0 Γ x).bind fun g => (cG0s Γ xs).bind fun gs => some (g :: gs)
def cG (Γ : Gm) : Expr → Option G
  | .Tuple xs _ _ => (cG0s Γ xs).bind fun gs => some (.tp gs)
  | x => (cG0 Γ x).bind fun g => some (.one g)
/-- the block's own names, with their places -/
def ownOf (N : List Str) : List (Str × NameKind) → List (Str × Nat)
  | [] => []
  | (n, k) :: r => if k == .local || k == .cell then (match N.idxOf? n with
    | some i => (n, i) :: ownOf N r
    | none => ownOf N r) else ownOf N r
def cIf (f : Expr → E) : List Expr → Option E
  | [] => some (.cst (.bl true))
  | [c] => some (f c)
  | _ => none
def cLc (f : Gm → Expr → E) (Γ : Gm) (elt tg iter : Expr) (ifs : List Expr) (scope : Scope) : E :=
  let own := ownOf Γ.N scope.names
  if blkC Γ.N Γ.sc scope own && notSet iter then match cG (Γ.blk scope) tg, cIf (f (Γ.blk scope)) ifs with
    | some g, some c => if (stG g).all fun i => (own.map (·.2)).contains i then .lc (own.map (·.2)) g (cI f Γ tg iter) c (f (Γ.blk scope) elt) else .bad
    | _, _ => .bad
  else .bad
def cDc (f : Gm → Expr → E) (Γ : Gm) (kx vx tg iter : Expr) (ifs : List Expr) (scope : Scope) : E :=
  let own := ownOf Γ.N scope.names
  if blkC Γ.N Γ.sc scope own && notSet iter then match cG (Γ.blk scope) tg, cIf (f (Γ.blk scope)) ifs with
    | some g, some c => if (stG g).all fun i => (own.map (·.2)).contains i then .dc (own.map (·.2)) g (cI f Γ tg iter) c (f (Γ.blk scope) kx) (f (Γ.blk scope) vx) else .bad
    | _, _ => .bad
  else .bad
def altE (f : Expr → E) : List (Option Expr) → List Expr → Es
  | some k :: ks, v :: vs => .cons (f k) (.cons (f v) (altE f ks vs))
  | _, _ => .nil
def partOf (f : Expr → E) : Option Expr → Option E
  | none => some (.cst .non)
  | some e => if isNonE (f e) then none else some (f e)
/-- a part taken out of what stands somewhere -/
def frzE (f h : Gm → Expr → E) (Γ : Gm) (v : Expr) : E := match v with
  | .Attribute .. => .frzp (f Γ v) (h Γ v)
  | .Subscript _ b _ => if notSlice b then .frzp (f Γ v) (h Γ v) else f Γ v
  | _ => f Γ v
def cE1 (f h : Gm → Expr → E) (Γ : Gm) (e : Expr) : E := match e with
  | .Constant c _ _ => match c with
    | .int i => .cst (.int i)
    | .bool i => .cst (.bl i)
    | .str i => .cst (.str i)
    | .none => .cst .non
    | _ => .bad
  | .Name n p => match slot Γ n with
    | some i => if Γ.mv.contains (p.line, p.col) then .mov i else .var i
    | none => if isGl Γ n then match Γ.cs.lookup n with
      | some t => .glb n t
      | none => .bad
      else .bad
  | .BinOp a op b _ => match cOp op with
    | some o => .op2 o (f Γ a) (f Γ b)
    | none => .bad
  | .UnaryOp op a _ => match op with
    | .Not => .nt (f Γ a)
    | .USub => .op1 .neg (f Γ a)
    | _ => .bad
  | .BoolOp op xs _ => match xs with
    | a :: b :: xs => cB (f Γ) op (a :: b :: xs)
    | _ => .bad
  | .Compare a ops xs _ => match ops, xs with
    | [op], [b] => if behindInMarks op b then .bad else match cCmp op with
      | some o => .op2 o (f Γ a) (f Γ b)
      | none => .bad
    | o1 :: o2 :: os, b :: c :: xs => if lastMarks (o1 :: o2 :: os) (b :: c :: xs) then .bad else match cC (f Γ) (o1 :: o2 :: os) (b :: c :: xs) with
      | some ch => .chn (f Γ a) ch
      | none => .bad
    | _, _ => .bad
  | .IfExp c a b _ => .ite (f Γ c) (f Γ a) (f Γ b)
  | .Tuple xs _ _ => if plainEs xs then .tup (esOf (frzE f h Γ) xs) else .bad
  | .List xs _ => if plainEs xs then .lst (esOf (frzE f h Γ) xs) else .bad
  | .ListComp elt gs scope _ => match gs with
    | [⟨tg, iter, ifs, as⟩] => if as == 0 then cLc (frzE f h) Γ elt tg iter ifs scope else .bad
    | _ => .bad
  | .Dict ks vs _ => (match ks, vs with
    | [], [] => .dnew
    | ks, vs => if ks.all (·.isSome) && decide (ks.length = vs.length) && decide (ks.length ≤ 15) && !ks.isEmpty then .dsp (altE (frzE f h Γ) ks vs) else .bad)
  | .DictComp kx vx gs scope _ => (match gs with
    | [⟨tg, iter, ifs, as⟩] => if as == 0 then cDc (frzE f h) Γ kx vx tg iter ifs scope else .bad
    | _ => .bad)
  | .Attribute a fl _ => if noSup a then .fld (f Γ a) fl else .bad
  | .Subscript a b _ => match b with
    | .Slice lo hi none _ => (match partOf (f Γ) lo, partOf (f Γ) hi with
      | some x, some y => .slc (f Γ a) x y
      | _, _ => .bad)
    | b => if notSlice b then .idx (f Γ a) (f Γ b) else .bad
  | .Call fn xs ks pos => match fn, ks with
    | .Name n _, [] => cCallN (frzE f h) Γ n xs
    | .Attribute o m apos, [] => cCallM (frzE f h) h Γ o m apos pos xs
    | _, _ => .bad
  | _ => .bad
/-- a place -/
def cP1 (f h : Gm → Expr → E) (Γ : Gm) (e : Expr) : E := match e with
  | .Name n _ => match slot Γ n with
    | some i => .var i
    | none => .bad
  | .Attribute a fl _ => if noSup a then .fld (h Γ a) fl else .bad
  | .Subscript a b _ => if notSlice b then .idx (h Γ a) (f Γ b) else .bad
  | _ => .bad
def cEP : Nat → (Gm → Expr → E) × (Gm → Expr → E)
  | 0 => (fun _ _ => .bad, fun _ _ => .bad)
  | k + 1 => let r := cEP k; (cE1 r.1 r.2, cP1 r.1 r.2)
/-! ### statements -/
def isSt : Expr → Bool
  | .Starred .. => true
  | _ => false
def nmL (kof : Str → Option NameKind) (line : Nat) : Expr → Option Str
  | .Name id pos => if kof id == some .local && pos.line == line then some id else none
  | _ => none
def swN (kof : Str → Option NameKind) (ts vs : List Expr) : Option (Option (List Str)) :=
  if !(ts.length == 2 || ts.length == 3) || vs.length != ts.length || false then some none
  else if vs.any isSt then some none
  else if (ts.filterMap (nmL kof ((ts.head?.map (·.pos.line)).getD 0))).length != ts.length || (ts.filterMap (nmL kof ((ts.head?.map (·.pos.line)).getD 0))).eraseDups.length != (ts.filterMap (nmL kof ((ts.head?.map (·.pos.line)).getD 0))).length then some none
  else if vs.all (foldedForSure 8) then some none
  else if vs.all (constantsAlone 8) then none
  else some (some (ts.filterMap (nmL kof ((ts.head?.map (·.pos.line)).getD 0))))
def isLocal (Γ : Gm) (n : Str) : Bool := Γ.sc.names.lookup n == some .local
def cPar (f : Gm → Expr → E) (Γ : Gm) (ts vs : List Expr) (ns : List Str) : S := match ts, vs with
  | [.Name n1 _, .Name n2 _], [a, b] => if decide (ns = [n1, n2]) && isLocal Γ n1 && isLocal Γ n2 && plainEs [a, b] then match Γ.N.idxOf? n1, Γ.N.idxOf? n2 with
    | some i, some j => if i == j then .bad else .par [i, j] (esOf (f Γ) [a, b])
    | _, _ => .bad
    else .bad
  | [.Name n1 _, .Name n2 _, .Name n3 _], [a, b, c] => if decide (ns = [n1, n2, n3]) && isLocal Γ n1 && isLocal Γ n2 && isLocal Γ n3 && plainEs [a, b, c] then match Γ.N.idxOf? n1, Γ.N.idxOf? n2, Γ.N.idxOf? n3 with
    | some i, some j, some l => if i == j || i == l || j == l then .bad else .par [i, j, l] (esOf (f Γ) [a, b, c])
    | _, _, _ => .bad
    else .bad
  | _, _ => .bad
def cAsgG (f h : Gm → Expr → E) (Γ : Gm) (tg v : Expr) : S := match cG Γ tg with
  | some g => .asg g (frzE f h Γ v)
  | none => .bad
/-- [..] stored in a name, both on one line -/
def swLc (Γ : Gm) (n : Str) (py : Pos) (scope : Scope) (p2 : Pos) : Bool := isLocal Γ n && py.line == p2.line && !(scope.names.any fun (m, k) => m == n && (k == .local || k == .cell))
def cAsg (f h : Gm → Expr → E) (Γ : Gm) (tg v : Expr) : S := match tg, v with
  | .Subscript a b _, v => if notSlice b then .pst (h Γ a) (f Γ b) (frzE f h Γ v) else .bad
  | .Name n py, .ListComp elt gs scope p2 => match gs with
    | [⟨tgt, iter, ifs, as⟩] => if as == 0 then
        if swLc Γ n py scope p2 then match Γ.N.idxOf? n with
          | some i => .asg (.one (.nm i)) (cLc (frzE f h) Γ elt tgt iter ifs scope)
          | none => .bad
        else cAsgG f h Γ tg v
      else .bad
    | _ => .bad
  | .Name n py, v => if notComp v then cAsgG f h Γ tg v else .bad
  | .Tuple ts _ _, .Tuple vs _ _ => match swN (fun n => Γ.sc.names.lookup n) ts vs with
    | some none => cAsgG f h Γ tg v
    | some (some ns) => cPar (frzE f h) Γ ts vs ns
    | none => .bad
  | .Tuple .., v => cAsgG f h Γ tg v
  | .Attribute .., v => cAsgG f h Γ tg v
  | _, _ => .bad
def cAug (f h : Gm → Expr → E) (Γ : Gm) (tg : Expr) (o : O2) (v : Expr) : S := match tg with
  | .Name n _ => if okN2 n then match tslot Γ n with
    | some i => .aug i o (f Γ v)
    | none => .bad
    else .bad
  | .Attribute (.Name r _) fl _ => match slot Γ r with
    | some i => .faug i fl o (f Γ v)
    | none => .bad
  | .Subscript a b _ => if notSlice b then .paug (h Γ a) (f Γ b) o (f Γ v) else .bad
  | _ => .bad
def ssOf (g : Stmt → S) : List Stmt → Ss
  | [] => .nil
  | s :: ss => .cons (g s) (ssOf g ss)
def cS1 (f h : Gm → Expr → E) (g : Gm → Stmt → S) (Γ : Gm) (st : Stmt) : S := match st with
  | .Assign tgs v _ => match tgs with
    | [tg] => cAsg f h Γ tg v
    | _ => .bad
  | .AugAssign tg op v _ => match op with
    | .Add => cAug f h Γ tg .add v
    | .Sub => cAug f h Γ tg .sub v
    | _ => .bad
  | .Expr e _ => match e with
    | .Constant (.str _) _ _ => .pass
    | e => if notComp e then .exp (f Γ e) else .bad
  | .Return e _ => match e with
    | none => .retn
    | some (.Name n p) => .ret (match slot Γ n with
      | some i => .mov i
      | none => f Γ (.Name n p))
    | some e => .ret (frzE f h Γ e)
  | .Pass _ => .pass
  | .Break _ => .brk
  | .Continue _ => .cnt
  | .If c a b _ => .iff (f Γ c) (ssOf (g Γ) a) (ssOf (g Γ) b)
  | .While c a els _ => match els with
    | [] => .whl (f Γ c) (ssOf (g Γ) a)
    | _ => .bad
  | .For tg it a els _ => match els with
    | [] => if notSet it then match cG Γ tg with
      | some gt => .forr gt (cI (frzE f h) Γ tg it) (ssOf (g Γ) a)
      | none => .bad
      else .bad
    | _ => .bad
  | _ => .bad
def cS : Nat → (Gm → Expr → E) × (Gm → Expr → E) → Gm → Stmt → S
  | 0, _ => fun _ _ => .bad
  | k + 1, r => cS1 r.1 r.2 (cS k r)
end Pv

/-! What is compiled is sound: expressions. -/
namespace Pv
open PySem L2 PyProof.Rows
structure Wld (X : Cx) (P : Pg) (Γ : Gm) : Prop where
  cst : ∀ n t, Γ.cs.lookup n = some t → ∃ v u, X.mg n = some u ∧ RelV v u ∧ ∀ F H, Rep X.K F H t v nop
  fns : ∀ n i, Γ.fs.lookup n = some i → ∃ g, FnAt X P i g ∧ X.mg n = some (.ref g)
  cls : ∀ n i, Γ.cl.lookup n = some i → ∃ g, FnAt X P i g ∧ Mk X.K (He.ga X.K n) g ∧ X.mg n = some (.ref (He.ga X.K n))
  im : ∀ n id, Γ.im.lookup n = some id → X.mg n = some (.builtin id)
  bl : ∀ n, Γ.bl.contains n = true → X.mg n = none
  C : ClsOk X.K P
  M : MthOk X P
structure Fit (X : Cx) (Γ : Gm) (P : Pg) : Prop where
  N : X.N = Γ.N
  nd : X.N.Nodup
  sc : X.env.scope = Γ.sc
  kd : X.env.scope.kind = .function
  fn : ∀ n, X.fn n = Γ.fnc n
  calm : X.calm = true
  un : X.A.units + 100 < cLine
  w : Wld X P Γ
section
variable {X : Cx} {P : Pg} {Γ : Gm} {n : Str} {i : Nat}
theorem idx_at {N : List Str} (h : N.idxOf? n = some i) : N[i]? = some n := by
  obtain ⟨h1, h2, _⟩ := List.idxOf?_eq_some_iff.mp h
  rw [List.getElem?_eq_getElem h1, h2]
theorem okN2_ok (h : okN2 n = true) : (n == ("__debug__" : Str)) = false ∧ (n == ("__classdict__" : Str)) = false := by
  unfold okN2 at h
  rw [Bool.and_eq_true, Bool.not_eq_true', Bool.not_eq_true'] at h
  exact h
theorem visB_ok {sc : Scope} (h : visB sc n = true) : Vis sc n := by
  unfold visB at h
  split at h
  · exact .inl (by assumption)
  · exact .inr (.inl (by assumption))
  · exact .inr (.inr (by assumption))
  · cases h
theorem slot_ok (F : Fit X Γ P) (h : slot Γ n = some i) : X.N[i]? = some n ∧ Vis X.env.scope n ∧ (n == ("__debug__" : Str)) = false ∧ (n == ("__classdict__" : Str)) = false := by
  unfold slot at h
  by_cases hz : (visB Γ.sc n && okN2 n) = true
  · rw [if_pos hz] at h
    rw [Bool.and_eq_true] at hz
    obtain ⟨h1, h2⟩ := okN2_ok hz.2
    exact ⟨by rw [F.N]; exact idx_at h, by rw [F.sc]; exact visB_ok hz.1, h1, h2⟩
  · rw [if_neg hz] at h; cases h
theorem tslot_ok (F : Fit X Γ P) (h : tslot Γ n = some i) : X.N[i]? = some n ∧ Loc X.env.scope n ∧ (X.fn n = true ∨ X.env.scope.names.lookup n = some .local) := by
  unfold tslot at h
  rw [F.N, F.sc]
  split at h
  · rename_i e
    exact ⟨idx_at h, .inl e, .inr e⟩
  · rename_i e
    by_cases hz : Γ.fnc n = true
    · rw [if_pos hz] at h
      exact ⟨idx_at h, .inr e, .inl ((F.fn n).trans hz)⟩
    · rw [if_neg hz] at h; cases h
  · cases h
theorem isGl_ok (F : Fit X Γ P) (h : isGl Γ n = true) : Gl X n ∧ (n == ("__debug__" : Str)) = false ∧ n ≠ "__name__" := by
  unfold isGl at h
  split at h
  · rename_i e
    rw [Bool.and_eq_true, Bool.not_eq_true'] at h
    refine ⟨?_, (okN2_ok h.1).1, fun z => ?_⟩
    · show X.env.scope.names.lookup n = _
      rw [F.sc]; exact e
    · subst z
      exact absurd h.2 (by decide)
  · cases h
theorem Fit.blk (F : Fit X Γ P) {scope : Scope} (hk : scope.kind = .function) (s : Shared) (H : Hp) (C : Addr) (cl : List (Str × Addr)) (fp : List Addr) : Fit (X.blk s H scope (compEnvC scope cl C X.env) fp) (Γ.blk scope) P where
  N := F.N
  nd := F.nd
  sc := by
    show relS scope X.env.scope = relS scope Γ.sc
    rw [F.sc]
  kd := hk
  fn := fun n => rfl
  calm := F.calm
  un := F.un
  w := ⟨F.w.cst, fun n i h => by
    obtain ⟨g, ⟨a, b⟩, c⟩ := F.w.fns n i h
    exact ⟨g, ⟨a, b⟩, c⟩, fun n i h => by
    obtain ⟨g, ⟨a, b⟩, c, d⟩ := F.w.cls n i h
    exact ⟨g, ⟨a, b⟩, c, d⟩, F.w.im, F.w.bl, F.w.C, ⟨fun c q f h => by
    obtain ⟨g, a, b, ⟨d, e⟩⟩ := F.w.M.mt c q f h
    exact ⟨g, a, b, ⟨d, e⟩⟩⟩⟩
/-! ### argument lists -/
theorem star_c {e : Expr} {es : List Expr} {env : Env} (h : notStar e = true) : starEach (e :: es) env = (false, eval e env) :: starEach es env := by
  cases e <;> first | rfl | cases h
theorem plain_c {e : Expr} {es : List Expr} (h : plainEs (e :: es) = true) : notStar e = true ∧ plainEs es = true := by
  unfold plainEs at h ⊢
  rw [List.all_cons, Bool.and_eq_true] at h
  exact h
theorem plain_any {pos : Pos} {env : Env} : ∀ {es : List Expr}, plainEs es = true → (backTo pos (starEach es env)).any (·.1) = false
  | [], _ => rfl
  | e :: es, h => by
    obtain ⟨h1, h2⟩ := plain_c h
    rw [star_c h1]
    show (false || (backTo pos (starEach es env)).any (·.1)) = false
    rw [plain_any h2]; rfl
theorem plain_all {pos : Pos} {env : Env} : ∀ {es : List Expr}, plainEs es = true → (backTo pos (starEach es env)).all (fun x => !x.1) = true
  | [], _ => rfl
  | e :: es, h => by
    obtain ⟨h1, h2⟩ := plain_c h
    rw [star_c h1]
    show (true && (backTo pos (starEach es env)).all (fun x => !x.1)) = true
    rw [plain_all h2]; rfl
theorem assign_c {e : Expr} {es : List Expr} {env : Env} (h : notStar e = true) : assignEach (e :: es) env = (false, assign e env) :: assignEach es env := by
  cases e <;> first | rfl | cases h
variable {f h : Gm → Expr → E}
def OkE (P : Pg) (f : Gm → Expr → E) : Prop := ∀ X Γ e, Fit X Γ P → Sd X P e (f Γ e)
def OkP (P : Pg) (f : Gm → Expr → E) : Prop := ∀ X Γ e, Fit X Γ P → SdP X P e (f Γ e)
theorem ok_es (F : Fit X Γ P) (hf : OkE P f) : ∀ {xs : List Expr}, plainEs xs = true → SdL X P xs (esOf (f Γ) xs)
  | [], _ => sdl_nil
  | e :: es, h => sdl_cons (hf X Γ e F) (ok_es F hf (plain_c h).2) (star_c (plain_c h).1)
theorem ok_bs (F : Fit X Γ P) (hf : OkE P f) : ∀ {xs : List Expr}, plainEs xs = true → PA X xs (tevBs X.K P (esOf (f Γ) xs))
  | [], _ => sdbs_nil
  | e :: es, h => sdbs_cons (hf X Γ e F) (ok_bs F hf (plain_c h).2) (star_c (plain_c h).1)
theorem sda_gen {a : Expr} {a' : E} {xs : List Expr} {es : Es} (ha : Sd X P a a') (hr : SdA X P xs es) (hs : starEach (a :: xs) X.env = (false, eval a X.env) :: starEach xs X.env) : SdA X P (a :: xs) (.cons (if isVar a' then .bad else a') es) := by
  by_cases hv : isVar a' = true
  · rw [if_pos hv]; exact sda_cons sd_bad rfl hr hs
  · rw [if_neg hv]; exact sda_cons ha (by simpa using hv) hr hs
theorem ok_args (F : Fit X Γ P) (hf : OkE P f) : ∀ {xs : List Expr}, plainEs xs = true → SdA X P xs (esOf (argOf Γ f) xs)
  | [], _ => sda_nil
  | e :: es, h => by
    have hr := ok_args F hf (plain_c h).2
    have hs := star_c (env := X.env) (es := es) (plain_c h).1
    have gen : argOf Γ f e = (if isVar (f Γ e) then .bad else f Γ e) → SdA X P (e :: es) (esOf (argOf Γ f) (e :: es)) := fun z => by
      show SdA X P (e :: es) (.cons (argOf Γ f e) _)
      rw [z]
      exact sda_gen (hf X Γ e F) hr hs
    cases e <;> first | exact gen rfl | skip
    rename_i n p
    show SdA X P (.Name n p :: es) (.cons (match slot Γ n with
      | some i => if Γ.mv.contains (p.line, p.col) then .mov i else .var i
      | none => if isVar (f Γ (.Name n p)) then .bad else f Γ (.Name n p)) _)
    cases hsl : slot Γ n with
    | none => exact sda_gen (hf X Γ _ F) hr hs
    | some i =>
      obtain ⟨h1, h2, h3, h4⟩ := slot_ok F hsl
      by_cases hm : Γ.mv.contains (p.line, p.col) = true
      · simp only [if_pos hm]
        exact sda_cons (sd_mov h1 h2 h3 h4) rfl hr hs
      · simp only [if_neg hm]
        exact sda_var h1 h2 h3 h4 hr
/-! ### operators -/
theorem ok_op {op : Operator} {o : O2} (h : cOp op = some o) : OpR X (binaryOp op) (rT2 X.K o) := by
  cases op <;> first | (cases h; done) | (cases h; first | exact or_add | exact or_sub | exact or_mul | exact or_fdiv | exact or_mod | exact or_pow | exact or_xor)
theorem ok_cmp (hu0 : X.A.units + 100 < cLine) {op : CmpOp} {o : O2} (h : cCmp op = some o) : OpR X (compareOp op) (rT2 X.K o) ∧ ∀ t u r, op2 o t u = some r → ∃ k, r = .bl k := by
  have hu : X.A.units + 64 < cLine := by omega
  have eqb : ∀ t u r, op2 .eq t u = some r → ∃ k, r = .bl k := fun t u r h => by
    have h' : (eqT t u).map T.bl = some r := by cases t <;> exact h
    obtain ⟨b, _, rfl⟩ := Option.map_eq_some_iff.mp h'
    exact ⟨b, rfl⟩
  have neb : ∀ t u r, op2 .ne t u = some r → ∃ k, r = .bl k := fun t u r h => by
    have h' : (eqT t u).map (fun b => T.bl (!b)) = some r := by cases t <;> exact h
    obtain ⟨b, _, rfl⟩ := Option.map_eq_some_iff.mp h'
    exact ⟨!b, rfl⟩
  have isb : ∀ t u r, op2 .isS t u = some r → ∃ k, r = .bl k := fun t u r h => by
    cases u <;> cases t <;> first | (cases h; done) | exact ⟨_, (Option.some.inj h).symm⟩
  have nob : ∀ t u r, op2 .notS t u = some r → ∃ k, r = .bl k := fun t u r h => by
    cases u <;> cases t <;> first | (cases h; done) | exact ⟨_, (Option.some.inj h).symm⟩
  have mapb : ∀ {α : Type} {o : Option α} {g : α → Bool} {r : T}, o.map (fun k => T.bl (g k)) = some r → ∃ k, r = .bl k := fun {α o g r} h => by
    obtain ⟨b, _, rfl⟩ := Option.map_eq_some_iff.mp h
    exact ⟨_, rfl⟩
  have inb : ∀ t u r, op2 .isin t u = some r → ∃ k, r = .bl k := fun t u r h => by
    cases u <;> first | (cases t <;> cases h; done) | skip
    · exact mapb (o := inT t _) (g := id) (show (inT t _).map T.bl = some r by cases t <;> exact h)
    · exact mapb (o := inL t _) (g := id) (show (inL t _).map T.bl = some r by cases t <;> exact h)
    · rename_i o kd ks ts
      cases kd with
      | true => cases t <;> cases h
      | false => exact mapb (o := keyT t) (g := fun k => ks.contains [k]) (show (keyT t).map (fun k => T.bl (ks.contains [k])) = some r by cases t <;> exact h)
  have nib : ∀ t u r, op2 .notin t u = some r → ∃ k, r = .bl k := fun t u r h => by
    cases u <;> first | (cases t <;> cases h; done) | skip
    · exact mapb (o := inT t _) (g := fun b => !b) (show (inT t _).map (fun b => T.bl (!b)) = some r by cases t <;> exact h)
    · exact mapb (o := inL t _) (g := fun b => !b) (show (inL t _).map (fun b => T.bl (!b)) = some r by cases t <;> exact h)
    · rename_i o kd ks ts
      cases kd with
      | true => cases t <;> cases h
      | false => exact mapb (o := keyT t) (g := fun k => !ks.contains [k]) (show (keyT t).map (fun k => T.bl (!ks.contains [k])) = some r by cases t <;> exact h)
  have ord : ∀ o, (o = .lt ∨ o = .le ∨ o = .gt ∨ o = .ge) → ∀ t u r, op2 o t u = some r → ∃ k, r = .bl k := fun o ho t u r h => by
    rcases ho with rfl | rfl | rfl | rfl <;> cases t <;> cases u <;> first | (cases h; done) | exact ⟨_, (Option.some.inj h).symm⟩
  cases op <;> first | (cases h; done) | skip
  all_goals cases h
  · exact ⟨or_eq hu, eqb⟩
  · exact ⟨or_ne hu, neb⟩
  · exact ⟨or_lt, ord _ (.inl rfl)⟩
  · exact ⟨or_le, ord _ (.inr (.inl rfl))⟩
  · exact ⟨or_gt, ord _ (.inr (.inr (.inl rfl)))⟩
  · exact ⟨or_ge, ord _ (.inr (.inr (.inr rfl)))⟩
  · exact ⟨or_isS, isb⟩
  · exact ⟨or_notS, nob⟩
  · exact ⟨or_in hu (by omega), inb⟩
  · exact ⟨or_notin hu (by omega), nib⟩
theorem ok_B (F : Fit X Γ P) (hf : OkE P f) {op : BoolOp} {pos : Pos} : ∀ (a : Expr) (xs : List Expr), SdB X P op (a :: xs) pos (cB (f Γ) op (a :: xs))
  | a, [] => sdb_one (hf X Γ a F)
  | a, b :: xs => by
    cases op with
    | And => exact sdb_and (hf X Γ a F) (ok_B F hf b xs)
    | Or => exact sdb_or (hf X Γ a F) (ok_B F hf b xs)
theorem ok_C (F : Fit X Γ P) (hf : OkE P f) {pos : Pos} : ∀ {os : List CmpOp} {xs : List Expr} {ch : Ch}, cC (f Γ) os xs = some ch → SdC X P pos os xs ch
  | [], _, _, h => by unfold cC at h; cases h
  | [o], [], _, h => by unfold cC at h; cases h
  | [o], [b], ch, h => by
    unfold cC at h
    obtain ⟨o', h1, h2⟩ := Option.bind_eq_some_iff.mp h
    cases h2
    exact sdc_last (ok_cmp F.un h1).1 (hf X Γ b F)
  | [o], b :: c :: xs, _, h => by unfold cC at h; cases h
  | o :: o2 :: os, [], _, h => by unfold cC at h; cases h
  | o :: o2 :: os, [b], _, h => by unfold cC at h; cases h
  | o :: o2 :: os, b :: c :: xs, ch, h => by
    unfold cC at h
    obtain ⟨o', h1, h2⟩ := Option.bind_eq_some_iff.mp h
    obtain ⟨ch', h3, h4⟩ := Option.bind_eq_some_iff.mp h2
    cases h4
    exact sdc_more (ok_cmp F.un h1).1 (hf X Γ b F) (ok_C F hf h3)
/-! ### calls -/
theorem setArg_ok (F : Fit X Γ P) {a x : Expr} (h : setArg Γ a = some x) : ∃ p q, a = .Call (.Name ("set" : Str) p) [x] [] q ∧ Γ.bl.contains ("set" : Str) = true ∧ Gl X ("set" : Str) ∧ notStar x = true := by
  unfold setArg at h
  split at h
  · rename_i s p x0 q
    by_cases hz : (s == ("set" : Str) && isGl Γ s && Γ.bl.contains s && notStar x0) = true
    · rw [if_pos hz] at h; cases h
      simp only [Bool.and_eq_true, beq_iff_eq] at hz
      obtain ⟨⟨⟨rfl, h1⟩, h2⟩, h3⟩ := hz
      exact ⟨p, q, rfl, h2, (isGl_ok F h1).1, h3⟩
    · rw [if_neg hz] at h; cases h
  · cases h
theorem ok_b1 (F : Fit X Γ P) (hf : OkE P f) {n : Str} {p pos : Pos} {a : Expr} {o : O1} (hg : Gl X n) (hd : (n == ("__debug__" : Str)) = false) (hn : n ≠ "__name__") (hm : X.mg n = none) (s1 : starEach [a] X.env = (false, eval a X.env) :: starEach [] X.env) (ho : cBlt1 n = some o) : Sd X P (.Call (.Name n p) [a] [] pos) (.op1 o (f Γ a)) := by
  unfold cBlt1 at ho
  split at ho
  · rename_i e; cases ho; rw [beq_iff_eq] at e; subst e
    exact sd_callB1 cr_len1 hg hm (by decide +kernel) (hf X Γ a F) hn hd s1
  · split at ho
    · rename_i e; cases ho; rw [beq_iff_eq] at e; subst e
      exact sd_callB1 cr_abs1 hg hm (by decide +kernel) (hf X Γ a F) hn hd s1
    · split at ho
      · rename_i e; cases ho; rw [beq_iff_eq] at e; subst e
        exact sd_callT1 cr_int1 hg hm (by decide +kernel) (hf X Γ a F) hn hd s1
      · split at ho
        · rename_i e; cases ho; rw [beq_iff_eq] at e; subst e
          exact sd_callT1 (cr_list1 F.calm) hg hm (by decide +kernel) (hf X Γ a F) hn hd s1
        · split at ho
          · rename_i e; cases ho; rw [beq_iff_eq] at e; subst e
            exact sd_callB1 (cr_sum1 F.calm) hg hm (by decide +kernel) (hf X Γ a F) hn hd s1
          · split at ho
            · rename_i e; cases ho; rw [beq_iff_eq] at e; subst e
              exact sd_callB1 (cr_all1 F.calm) hg hm (by decide +kernel) (hf X Γ a F) hn hd s1
            · split at ho
              · rename_i e; cases ho; rw [beq_iff_eq] at e; subst e
                exact sd_callB1 (cr_any1 F.calm) hg hm (by decide +kernel) (hf X Γ a F) hn hd s1
              · split at ho
                · rename_i e; cases ho; rw [beq_iff_eq] at e; subst e
                  exact sd_callT1 cr_tuple1 hg hm (by decide +kernel) (hf X Γ a F) hn hd s1
                · split at ho
                  · rename_i e; cases ho; rw [beq_iff_eq] at e; subst e
                    exact sd_callB1 (cr_sorted1 F.calm F.un) hg hm (by decide +kernel) (hf X Γ a F) hn hd s1
                  · split at ho
                    · rename_i e; cases ho; rw [beq_iff_eq] at e; subst e
                      exact sd_callT1 (cr_dict1 F.calm) hg hm (by decide +kernel) (hf X Γ a F) hn hd s1
                    · split at ho
                      · rename_i e; cases ho; rw [beq_iff_eq] at e; subst e
                        exact sd_callT1 cr_str1 hg hm (by decide +kernel) (hf X Γ a F) hn hd s1
                      · cases ho
theorem ok_callN (F : Fit X Γ P) (hf : OkE P f) {n : Str} {p pos : Pos} {xs : List Expr} : Sd X P (.Call (.Name n p) xs [] pos) (cCallN f Γ n xs) := by
  unfold cCallN
  by_cases hz : (isGl Γ n && plainEs xs) = true
  · rw [if_pos hz]
    rw [Bool.and_eq_true] at hz
    obtain ⟨hz, hp⟩ := hz
    obtain ⟨hg, hd, hn⟩ := isGl_ok F hz
    cases h1 : Γ.fs.lookup n with
    | some i =>
      obtain ⟨g, h2, h3⟩ := F.w.fns n i h1
      cases xs with
      | nil => exact sd_call0 h2 hg h3 hd
      | cons x xs => exact sd_call h2 hg h3 (ok_args F hf hp) hd (star_c (plain_c hp).1) (plain_any (plain_c hp).2)
    | none =>
      simp only
      cases h2 : Γ.cl.lookup n with
      | some i =>
        obtain ⟨g, h3, h4, h5⟩ := F.w.cls n i h2
        cases xs with
        | nil => exact sd_mk0 h3 h4 hg h5 hd
        | cons x xs => exact sd_mk h3 h4 hg h5 (ok_args F hf hp) hd (star_c (plain_c hp).1) (plain_any (plain_c hp).2)
      | none =>
        simp only
        cases h3 : Γ.im.lookup n with
        | some id =>
          have h4 := F.w.im n id h3
          simp only
          split
          · rename_i a b
            split
            · rename_i o ho
              unfold cIm2 at ho
              have s1 := star_c (env := X.env) (es := [b]) (plain_c hp).1
              have s2 := star_c (env := X.env) (es := []) (plain_c (plain_c hp).2).1
              split at ho
              · rename_i e
                cases ho
                rw [beq_iff_eq] at e; subst e
                exact sd_callF2 cr_gcd2 hg h4 (hf X Γ a F) (hf X Γ b F) hd s1 s2 (plain_any (plain_c hp).2)
              · split at ho
                · rename_i e
                  cases ho
                  rw [beq_iff_eq] at e; subst e
                  exact sd_callF2 cr_comb2 hg h4 (hf X Γ a F) (hf X Γ b F) hd s1 s2 (plain_any (plain_c hp).2)
                · cases ho
            · exact sd_bad
          · exact sd_bad
        | none =>
          simp only
          by_cases hb : Γ.bl.contains n = true
          · rw [if_pos hb]
            have hm := F.w.bl n hb
            split
            · rename_i a
              have s1 := star_c (env := X.env) (es := []) (plain_c hp).1
              split
              · rename_i x hx
                obtain ⟨p2, q, rfl, hb2, hg2, hs⟩ := setArg_ok F hx
                split
                · rename_i e; rw [beq_iff_eq] at e; subst e
                  exact sd_lenset F.calm hg hm hg2 (F.w.bl _ hb2) (hf X Γ x F) (star_c hs)
                · split
                  · rename_i e; rw [beq_iff_eq] at e; subst e
                    exact sd_sortset F.calm hg hm hg2 (F.w.bl _ hb2) (hf X Γ x F) (star_c hs)
                  · exact sd_bad
              · split
                · rename_i o ho
                  exact ok_b1 F hf hg hd hn hm s1 ho
                · exact sd_bad
            · rename_i a b
              have s1 := star_c (env := X.env) (es := [b]) (plain_c hp).1
              have s2 := star_c (env := X.env) (es := []) (plain_c (plain_c hp).2).1
              split
              · rename_i o ho
                unfold cBlt2 at ho
                split at ho
                · rename_i e; cases ho; rw [beq_iff_eq] at e; subst e
                  exact sd_callB2 (cr_min2 F.calm) hg hm (by decide +kernel) (hf X Γ a F) (hf X Γ b F) hn hd s1 s2 (plain_any (plain_c hp).2)
                · split at ho
                  · rename_i e; cases ho; rw [beq_iff_eq] at e; subst e
                    exact sd_callB2 (cr_max2 F.calm) hg hm (by decide +kernel) (hf X Γ a F) (hf X Γ b F) hn hd s1 s2 (plain_any (plain_c hp).2)
                  · cases ho
              · split
                · rename_i e
                  rw [beq_iff_eq] at e; subst e
                  split
                  · rename_i t p2
                    by_cases ht : (isGl Γ t && Γ.bl.contains t) = true
                    · rw [if_pos ht]
                      rw [Bool.and_eq_true] at ht
                      obtain ⟨g1, g2, g3⟩ := isGl_ok F ht.1
                      have g4 := F.w.bl t ht.2
                      split
                      · rename_i k hk
                        unfold tyOf at hk
                        split at hk
                        · rename_i e; cases hk; rw [beq_iff_eq] at e; subst e
                          exact sd_isi hg hm g1 g4 (by decide +kernel) g3 g2 (hf X Γ a F) s1
                        · split at hk
                          · rename_i e; cases hk; rw [beq_iff_eq] at e; subst e
                            exact sd_isi hg hm g1 g4 (by decide +kernel) g3 g2 (hf X Γ a F) s1
                          · split at hk
                            · rename_i e; cases hk; rw [beq_iff_eq] at e; subst e
                              exact sd_isi hg hm g1 g4 (by decide +kernel) g3 g2 (hf X Γ a F) s1
                            · split at hk
                              · rename_i e; cases hk; rw [beq_iff_eq] at e; subst e
                                exact sd_isi hg hm g1 g4 (by decide +kernel) g3 g2 (hf X Γ a F) s1
                              · split at hk
                                · rename_i e; cases hk; rw [beq_iff_eq] at e; subst e
                                  exact sd_isi hg hm g1 g4 (by decide +kernel) g3 g2 (hf X Γ a F) s1
                                · cases hk
                      · exact sd_bad
                    · rw [if_neg ht]; exact sd_bad
                  · exact sd_bad
                · exact sd_bad
            · exact sd_bad
          · rw [if_neg hb]; exact sd_bad
  · rw [if_neg hz]; exact sd_bad
theorem few_ok {xs : List Expr} {pos : Pos} (hp : plainEs xs = true) (hl : xs.length < 28) : ((backTo pos (starEach xs X.env)).all (fun x => !x.1) && (backToKw pos (keywordEach [] X.env)).all (fun x => x.1.isSome)
      && decide (xs.length + ([] : List Keyword).length + (if ([] : List Keyword).isEmpty then 0 else 1) < 30)) = true := by
  rw [plain_all hp]
  simp [keywordEach, backToKw]
  omega
theorem mcf_ok {xs : List Expr} {pos : Pos} (hp : plainEs xs = true) (hl : xs.length < 28) : methodCallForm xs.length (backTo pos (starEach xs X.env)) (backToKw pos (keywordEach [] X.env)) = true := by
  unfold methodCallForm
  rw [plain_all hp]
  simp [keywordEach, backToKw]
  omega
theorem attrB {a : Expr} {m : Str} (h : noSup a = true) : attributeBase a m X.env (eval a X.env) = eval a X.env := by
  cases a <;> first | rfl | skip
  rename_i fn xs ks pos
  cases fn <;> first | rfl | skip
  cases xs <;> cases ks <;> first | rfl | cases h
end
end Pv

/-! What is compiled is sound: expressions, on. -/
namespace Pv
open PySem L2 PyProof.Rows
section
variable {X : Cx} {P : Pg} {Γ : Gm} {n : Str} {i : Nat} {f h : Gm → Expr → E}
/-- the methods of lists -/
structure MkOk (X : Cx) (m : Str) (q : MK) : Prop where
  ex : ∃ id, Slot "list" m id ∧ typeOf (.builtin id) = pure (.type "method_descriptor") ∧ MtR X id (rM X.K q)
theorem mk_ok {m : Str} {k : Nat} {q : MK} (h : mkOf m k = some q) : MkOk X m q := by
  unfold mkOf at h
  split at h
  · rename_i e; cases h; rw [Bool.and_eq_true, beq_iff_eq] at e; obtain ⟨rfl, _⟩ := e
    exact ⟨_, F.slot_list_append, F.type_list_append, mr_append⟩
  · split at h
    · rename_i e; cases h; rw [Bool.and_eq_true, beq_iff_eq] at e; obtain ⟨rfl, _⟩ := e
      exact ⟨_, F.slot_list_extend, F.type_list_extend, mr_extend⟩
    · split at h
      · rename_i e; cases h; rw [Bool.and_eq_true, beq_iff_eq] at e; obtain ⟨rfl, _⟩ := e
        exact ⟨_, F.slot_list_insert, F.type_list_insert, mr_insert⟩
      · split at h
        · rename_i e; cases h; rw [Bool.and_eq_true, beq_iff_eq] at e; obtain ⟨rfl, _⟩ := e
          exact ⟨_, F.slot_list_pop, F.type_list_pop, mr_pop⟩
        · split at h
          · rename_i e; cases h; rw [Bool.and_eq_true, beq_iff_eq] at e; obtain ⟨rfl, _⟩ := e
            exact ⟨_, F.slot_list_pop, F.type_list_pop, mr_popi⟩
          · cases h
theorem ok_callM0 (F : Fit X Γ P) (hf : OkE P f) (hh : OkP P h) {o : Expr} {m : Str} {apos pos : Pos} {xs : List Expr} : Sd X P (.Call (.Attribute o m apos) xs [] pos) (cCallM0 f h Γ o m apos pos xs) := by
  have main : plainEs xs = true → xs.length < 28 → (apos.endLine == pos.line) = true → ∀ {o : Expr}, Sd X P (.Call (.Attribute o m apos) xs [] pos) (match mkOf m xs.length with
      | some q => if noSup o && !xs.isEmpty then .mutp (h Γ o) q (esOf (f Γ) xs) else .bad
      | none => .bad) := fun hp hl hln {o} => by
    split
    · rename_i q hq
      obtain ⟨id, m1, m2, m3⟩ := (mk_ok (X := X) hq).ex
      by_cases hz : (noSup o && !xs.isEmpty) = true
      · rw [if_pos hz]
        rw [Bool.and_eq_true] at hz
        cases xs with
        | nil => simp at hz
        | cons x xs => exact sd_mutp PySem.F.plainAttrs_list m1 m2 m3 (hh X Γ o F) (attrB hz.1) (ok_bs F hf hp) (few_ok hp hl) hln (star_c (plain_c hp).1) (plain_any (plain_c hp).2)
      · rw [if_neg hz]; exact sd_bad
    · exact sd_bad
  unfold cCallM0
  by_cases hz : (plainEs xs && decide (xs.length < 28) && (apos.endLine == pos.line)) = true
  · rw [if_pos hz]
    simp only [Bool.and_eq_true, decide_eq_true_eq] at hz
    obtain ⟨⟨hp, hl⟩, hln⟩ := hz
    cases o <;> first | exact main hp hl hln | skip
    rename_i r pn
    show Sd X P _ (match slot Γ r with
      | some i => match mkOf m xs.length with
        | some q => .mut i q (esOf (f Γ) xs)
        | none => .meth i m (esOf (argOf Γ f) xs)
      | none => .bad)
    cases hs : slot Γ r with
    | none => exact sd_bad
    | some i =>
      obtain ⟨h1, h2, h3, h4⟩ := slot_ok F hs
      simp only
      split
      · rename_i q hq
        obtain ⟨id, m1, m2, m3⟩ := (mk_ok (X := X) hq).ex
        cases xs with
        | nil => exact sd_mut0 PySem.F.plainAttrs_list m1 m2 m3 h1 h2 h3 h4 hln
        | cons x xs => exact sd_mut PySem.F.plainAttrs_list m1 m2 m3 h1 h2 h3 h4 (ok_es F hf hp) (few_ok hp hl) hln (star_c (plain_c hp).1) (plain_any (plain_c hp).2)
      · cases xs with
        | nil => exact sd_meth0 F.w.M h1 h2 h3 h4 hln
        | cons x xs => exact sd_meth F.w.M h1 h2 h3 h4 (ok_args F hf hp) (star_c (plain_c hp).1) (plain_any (plain_c hp).2) (mcf_ok hp hl) hln
  · rw [if_neg hz]; exact sd_bad
theorem star_bs {xs : List Expr} {pos : Pos} (hp : plainEs xs = true) : backTo pos (starEach xs X.env) = xs.map fun e => (false, eval e X.env) := by
  have : ∀ {xs : List Expr}, plainEs xs = true → starEach xs X.env = xs.map fun e => (false, eval e X.env) := fun {xs} => by
    induction xs with
    | nil => intro _; rfl
    | cons x xs ih => intro h; rw [star_c (plain_c h).1, ih (plain_c h).2]; rfl
  rw [this hp]
  first | rfl | (unfold backTo; simp)
theorem ok_callM (F : Fit X Γ P) (hf : OkE P f) (hh : OkP P h) {o : Expr} {m : Str} {apos pos : Pos} {xs : List Expr} : Sd X P (.Call (.Attribute o m apos) xs [] pos) (cCallM f h Γ o m apos pos xs) := by
  unfold cCallM
  split
  · rename_i e he
    by_cases hz : (noSup o && plainEs xs && (apos.endLine == pos.line)) = true
    · rw [if_pos hz]
      simp only [Bool.and_eq_true] at hz
      obtain ⟨⟨z1, z2⟩, z3⟩ := hz
      have hu : X.A.units + 1 < cLine := by have := F.un; omega
      unfold rmOf at he
      split at he
      · rename_i x
        have few := few_ok (X := X) (pos := pos) z2 (by simp)
        split at he
        · rename_i e0; cases he; rw [beq_iff_eq] at e0; subst e0
          exact sd_dget hu (hf X Γ o F) (hf X Γ x F) ⟨attrB z1, few, z3, star_bs z2⟩
        · split at he
          · rename_i e0; cases he; rw [beq_iff_eq] at e0; subst e0
            exact sd_bm2 PySem.F.plainAttrs_list PySem.F.slot_list_count PySem.F.type_list_count mr_lcount (fun t u r h => by cases t <;> first | exact ⟨_, _, rfl⟩ | (cases u <;> cases h)) (hf X Γ o F) (hf X Γ x F) (attrB z1) few z3 (star_c (plain_c z2).1)
          · split at he
            · rename_i e0; cases he; rw [beq_iff_eq] at e0; subst e0
              exact sd_bm2 PySem.F.plainAttrs_list PySem.F.slot_list_index PySem.F.type_list_index mr_lindex (fun t u r h => by cases t <;> first | exact ⟨_, _, rfl⟩ | (cases u <;> cases h)) (hf X Γ o F) (hf X Γ x F) (attrB z1) few z3 (star_c (plain_c z2).1)
            · cases he
      · rename_i x y
        have few := few_ok (X := X) (pos := pos) z2 (by simp)
        split at he
        · rename_i e0; cases he; rw [beq_iff_eq] at e0; subst e0
          exact sd_dget2 hu (hf X Γ o F) (hf X Γ x F) (hf X Γ y F) ⟨attrB z1, few, z3, star_bs z2⟩
        · cases he
      · cases he
    · rw [if_neg hz]; exact sd_bad
  · exact ok_callM0 F hf hh
/-! ### what is walked -/
theorem nmSlot_ok (F : Fit X Γ P) {o : Expr} (h : nmSlot Γ o = some i) : PE X o (tVar i) := by
  cases o <;> first | (cases h; done) | skip
  rename_i n p
  have h' : (if Γ.mv.contains (p.line, p.col) then none else slot Γ n) = some i := h
  by_cases hz : Γ.mv.contains (p.line, p.col) = true
  · rw [if_pos hz] at h'; cases h'
  · rw [if_neg hz] at h'
    obtain ⟨h1, h2, h3, h4⟩ := slot_ok F h'
    exact pe_var h1 h2 h3 h4
theorem ok_I (F : Fit X Γ P) (hf : OkE P f) {tg e : Expr} : PI X tg e (tevI X.K P (cI f Γ tg e)) := by
  have gen : ∀ {e}, PI X tg e (tevI X.K P (.seq (f Γ e))) := fun {e} => si_seq (hf X Γ e F)
  cases e <;> first | exact gen | skip
  rotate_left
  · rename_i n p
    show PI X tg _ (tevI X.K P (match slot Γ n with
      | some i => if Γ.mv.contains (p.line, p.col) then .seq (.mov i) else .var i
      | none => .seq (f Γ (.Name n p))))
    cases hs : slot Γ n with
    | none => exact gen
    | some i =>
      obtain ⟨h1, h2, h3, h4⟩ := slot_ok F hs
      simp only
      by_cases hz : Γ.mv.contains (p.line, p.col) = true
      · rw [if_pos hz]; exact si_seq (sd_mov h1 h2 h3 h4)
      · rw [if_neg hz]; exact si_var (pe_var h1 h2 h3 h4)
  rename_i fn xs ks pos
  cases fn <;> first | exact gen | skip
  · rename_i o m apos
    cases xs with
    | cons => exact gen
    | nil =>
      cases ks with
      | cons => exact gen
      | nil =>
        show PI X tg _ (tevI X.K P (if m == ("values" : Str) && noSup o && (apos.endLine == pos.line) then (match nmSlot Γ o with
            | some i => .valsv i
            | none => .vals (f Γ o))
          else if m == ("items" : Str) && noSup o && (apos.endLine == pos.line) && isTup tg then (match nmSlot Γ o with
            | some i => .itmsv i
            | none => .itms (f Γ o))
          else .seq (f Γ (.Call (.Attribute o m apos) [] [] pos))))
        by_cases hz : (m == ("values" : Str) && noSup o && (apos.endLine == pos.line)) = true
        · rw [if_pos hz]
          simp only [Bool.and_eq_true, beq_iff_eq] at hz
          obtain ⟨⟨rfl, z1⟩, z2⟩ := hz
          cases hs : nmSlot Γ o with
          | none => exact si_vals (hf X Γ o F) (attrB z1) (by simpa using z2)
          | some i => exact si_valsv (nmSlot_ok F hs) (attrB z1) (by simpa using z2)
        · rw [if_neg hz]
          by_cases hz2 : (m == ("items" : Str) && noSup o && (apos.endLine == pos.line) && isTup tg) = true
          · rw [if_pos hz2]
            simp only [Bool.and_eq_true, beq_iff_eq] at hz2
            obtain ⟨⟨⟨rfl, z1⟩, z2⟩, z3⟩ := hz2
            cases tg <;> first | (cases z3; done) | skip
            cases hs : nmSlot Γ o with
            | none => exact si_itms (hf X Γ o F) (attrB z1) (by simpa using z2)
            | some i => exact si_itmsv (nmSlot_ok F hs) (attrB z1) (by simpa using z2)
          · rw [if_neg hz2]; exact gen
  rename_i n p
  cases ks with
  | cons => exact gen
  | nil =>
    unfold cI
    dsimp only
    by_cases hz : (isGl Γ n && Γ.bl.contains n && plainEs xs) = true
    · rw [if_pos hz]
      simp only [Bool.and_eq_true] at hz
      obtain ⟨⟨hz, hb⟩, hp⟩ := hz
      obtain ⟨hg, hd, hn⟩ := isGl_ok F hz
      have hm := F.w.bl n hb
      split
      · rename_i e; rw [beq_iff_eq] at e; subst e
        split
        · rename_i a
          exact si_rng1 hg hm (hf X Γ a F) (star_c (plain_c hp).1)
        · rename_i a b
          exact si_rng2 hg hm (hf X Γ a F) (hf X Γ b F) (star_c (plain_c hp).1) (star_c (plain_c (plain_c hp).2).1)
        · rename_i a b c
          exact si_rng3 hg hm (hf X Γ a F) (hf X Γ b F) (hf X Γ c F) (star_c (plain_c hp).1) (star_c (plain_c (plain_c hp).2).1) (star_c (plain_c (plain_c (plain_c hp).2).2).1) (plain_any (plain_c hp).2)
        · exact si_bad
      · split
        · rename_i e; rw [beq_iff_eq] at e; subst e
          split
          · rename_i a
            by_cases ht : isTup tg = true
            · rw [if_pos ht]
              cases tg <;> first | (cases ht; done) | skip
              exact si_enum hg hm (hf X Γ a F) (star_c (plain_c hp).1)
            · rw [if_neg ht]; exact si_bad
          · exact si_bad
        · split
          · rename_i e; rw [beq_iff_eq] at e; subst e
            split
            · rename_i a b
              by_cases ht : isTup tg = true
              · rw [if_pos ht]
                cases tg <;> first | (cases ht; done) | skip
                exact si_zip hg hm (hf X Γ a F) (hf X Γ b F) (star_c (plain_c hp).1) (star_c (plain_c (plain_c hp).2).1) (plain_any (plain_c hp).2)
              · rw [if_neg ht]; exact si_bad
            · exact si_bad
          · split
            · rename_i e; rw [beq_iff_eq] at e; subst e
              split
              · rename_i a
                exact si_rev hg hm (hf X Γ a F) (star_c (plain_c hp).1)
              · exact si_bad
            · exact gen
    · rw [if_neg hz]; exact gen
/-! ### targets -/
theorem assign_nm {n : Str} {p : Pos} {es : List Expr} {env : Env} : assignEach (.Name n p :: es) env = (false, assign (.Name n p) env) :: assignEach es env := rfl
theorem ok_nms (F : Fit X Γ P) : ∀ {xs : List Expr} {is : List Nat}, nmsOf Γ xs = some is → PGs X xs (tevGs X.K is (setNs is)) ∧ (assignEach xs X.env).length = is.length ∧ (assignEach xs X.env).findIdx? (·.1) = none
  | [], is, h => by
    cases h
    exact ⟨sgs_nil, rfl, rfl⟩
  | x :: xs, is, h => by
    cases x <;> first | (cases h; done) | skip
    rename_i n p
    have h' : ((tslot Γ n).bind fun i => (nmsOf Γ xs).bind fun is => some (i :: is)) = some is := h
    obtain ⟨i, h1, h2⟩ := Option.bind_eq_some_iff.mp h'
    obtain ⟨is', h3, h4⟩ := Option.bind_eq_some_iff.mp h2
    cases h4
    obtain ⟨g1, g2, g3⟩ := tslot_ok F h1
    obtain ⟨k1, k2, k3⟩ := ok_nms F h3
    refine ⟨sgs_cons (sg_nm (P := P) F.nd g1 g2 g3) k1 rfl, congrArg Nat.succ k2, ?_⟩
    rw [assign_nm, List.findIdx?_cons]
    rw [if_neg Bool.false_ne_true, k3]
    rfl
theorem ok_G0 (F : Fit X Γ P) {x : Expr} {g : G0} (h : cG0 Γ x = some g) : PG X x (tevG X.K (stG0 g) (setG0 P g)) ∧ notStar x = true := by
  cases x <;> first | (cases h; done) | skip
  · rename_i a fl p
    cases a <;> first | (cases h; done) | skip
    rename_i r pn
    have h' : ((slot Γ r).bind fun i => some (G0.at i fl)) = some g := h
    obtain ⟨i, h1, h2⟩ := Option.bind_eq_some_iff.mp h'
    cases h2
    obtain ⟨g1, g2, g3, g4⟩ := slot_ok F h1
    exact ⟨sg_at F.w.C g1 g2 g3 g4, rfl⟩
  · rename_i n p
    have h' : ((tslot Γ n).bind fun i => some (G0.nm i)) = some g := h
    obtain ⟨i, h1, h2⟩ := Option.bind_eq_some_iff.mp h'
    cases h2
    obtain ⟨g1, g2, g3⟩ := tslot_ok F h1
    exact ⟨sg_nm F.nd g1 g2 g3, rfl⟩
  · rename_i xs k p
    have h' : ((nmsOf Γ xs).bind fun is => some (G0.tp is)) = some g := h
    obtain ⟨is, h1, h2⟩ := Option.bind_eq_some_iff.mp h'
    cases h2
    obtain ⟨k1, k2, k3⟩ := ok_nms F h1
    exact ⟨sg_tp F.calm k1 k2 k3, rfl⟩
theorem ok_G0s (F : Fit X Γ P) : ∀ {xs : List Expr} {gs : List G0}, cG0s Γ xs = some gs → PGs X xs (tevGs X.K (gs.flatMap stG0) (setGs P gs)) ∧ (assignEach xs X.env).length = gs.length ∧ (assignEach xs X.env).findIdx? (·.1) = none
  | [], gs, h => by
    cases h
    exact ⟨sGs_nil, rfl, rfl⟩
  | x :: xs, gs, h => by
    have h' : ((cG0 Γ x).bind fun g => (cG0s Γ xs).bind fun gs => some (g :: gs)) = some gs := h
    obtain ⟨g, h1, h2⟩ := Option.bind_eq_some_iff.mp h'
    obtain ⟨gs', h3, h4⟩ := Option.bind_eq_some_iff.mp h2
    cases h4
    obtain ⟨g1, g2⟩ := ok_G0 F h1
    obtain ⟨k1, k2, k3⟩ := ok_G0s F h3
    have e := assign_c (env := X.env) (es := xs) g2
    refine ⟨sGs_cons g1 k1 (by rw [e]; rfl), by rw [e]; exact congrArg Nat.succ k2, ?_⟩
    rw [e, List.findIdx?_cons]
    rw [if_neg Bool.false_ne_true, k3]
    rfl
theorem ok_G (F : Fit X Γ P) {x : Expr} {g : G} (h : cG Γ x = some g) : PG X x (tevG X.K (stG g) (setG P g)) ∧ notStar x = true := by
  have gen : ∀ {x}, ((cG0 Γ x).bind fun g => some (G.one g)) = some g → PG X x (tevG X.K (stG g) (setG P g)) ∧ notStar x = true := fun {x} h => by
    obtain ⟨g0, h1, h2⟩ := Option.bind_eq_some_iff.mp h
    cases h2
    exact ok_G0 F h1
  cases x <;> first | exact gen h | skip
  rename_i xs k p
  have h' : ((cG0s Γ xs).bind fun gs => some (G.tp gs)) = some g := h
  obtain ⟨gs, h1, h2⟩ := Option.bind_eq_some_iff.mp h'
  cases h2
  obtain ⟨k1, k2, k3⟩ := ok_G0s F h1
  exact ⟨sG_tp F.calm k1 k2 k3, rfl⟩
/-! ### comprehensions -/
theorem folded {iter : Expr} {env : Env} (h : notSet iter = true) : ∀ x, foldedSetIterable iter env x = pure x := fun x => by
  cases iter <;> first | rfl | cases h
structure LcOk (X : Cx) (P : Pg) (f : Gm → Expr → E) (Γ : Gm) (elt tg iter : Expr) (ifs : List Expr) (scope : Scope) (g : G) (it : Pv.It) (c e : E) : Prop where
  ok : BlkOk X.N X.env.scope scope (ownOf Γ.N scope.names)
  sub : ∀ i ∈ stG g, i ∈ (ownOf Γ.N scope.names).map (·.2)
  it : PI X tg iter (tevI X.K P it)
  hg : ∀ (s : Shared) (H : Hp) (C : Addr) (cl : List (Str × Addr)) (fp : List Addr), PG (X.blk s H scope (compEnvC scope cl C X.env) fp) tg (tevG X.K (stG g) (setG P g))
  ht : ∀ (s : Shared) (H : Hp) (C : Addr) (cl : List (Str × Addr)) (fp : List Addr), PTs (X.blk s H scope (compEnvC scope cl C X.env) fp) ifs (tevT X.K P c)
  he : ∀ (s : Shared) (H : Hp) (C : Addr) (cl : List (Str × Addr)) (fp : List Addr), PE (X.blk s H scope (compEnvC scope cl C X.env) fp) elt (tev X.K P .e e)
  hs : ∀ x, foldedSetIterable iter X.env x = pure x
theorem lc_ok (F : Fit X Γ P) (hf : OkE P f) {elt tg iter : Expr} {ifs : List Expr} {scope : Scope} : cLc f Γ elt tg iter ifs scope = .bad ∨ ∃ g it c e, cLc f Γ elt tg iter ifs scope = .lc ((ownOf Γ.N scope.names).map (·.2)) g it c e ∧ LcOk X P f Γ elt tg iter ifs scope g it c e := by
  unfold cLc
  by_cases hz : (blkC Γ.N Γ.sc scope (ownOf Γ.N scope.names) && notSet iter) = true
  · simp only [if_pos hz]
    rw [Bool.and_eq_true] at hz
    obtain ⟨hb, hns⟩ := hz
    have ok : BlkOk X.N X.env.scope scope (ownOf Γ.N scope.names) := by rw [F.N, F.sc]; exact blkOk_by hb
    cases h1 : cG (Γ.blk scope) tg with
    | none => exact .inl rfl
    | some g =>
      cases h2 : cIf (f (Γ.blk scope)) ifs with
      | none => exact .inl rfl
      | some c =>
        simp only
        by_cases hz : ((stG g).all fun i => ((ownOf Γ.N scope.names).map (·.2)).contains i) = true
        · rw [if_pos hz]
          refine .inr ⟨g, _, c, _, rfl, ok, fun i hi => ?_, ok_I F hf, fun s H C cl fp => (ok_G (F.blk ok.kind s H C cl fp) h1).1, fun s H C cl fp => ?_, fun s H C cl fp => (hf _ _ _ (F.blk ok.kind s H C cl fp)).v .e (by decide), folded hns⟩
          · have := List.all_eq_true.mp hz i hi
            rwa [List.contains_iff_mem] at this
          · match ifs, h2 with
            | [], h2 => cases h2; exact pts_yes
            | [x], h2 => cases h2; exact pts_one (hf _ _ x (F.blk ok.kind s H C cl fp)).t
            | x :: y :: xs, h2 => cases h2
        · rw [if_neg hz]; exact .inl rfl
  · simp only [if_neg hz]; exact .inl trivial
structure DcOk (X : Cx) (P : Pg) (f : Gm → Expr → E) (Γ : Gm) (kx vx tg iter : Expr) (ifs : List Expr) (scope : Scope) (g : G) (it : Pv.It) (c k e : E) : Prop where
  l : LcOk X P f Γ vx tg iter ifs scope g it c e
  hk : ∀ (s : Shared) (H : Hp) (C : Addr) (cl : List (Str × Addr)) (fp : List Addr), PE (X.blk s H scope (compEnvC scope cl C X.env) fp) kx (tev X.K P .e k)
theorem dc_ok (F : Fit X Γ P) (hf : OkE P f) {kx vx tg iter : Expr} {ifs : List Expr} {scope : Scope} : cDc f Γ kx vx tg iter ifs scope = .bad ∨ ∃ g it c k e, cDc f Γ kx vx tg iter ifs scope = .dc ((ownOf Γ.N scope.names).map (·.2)) g it c k e ∧ DcOk X P f Γ kx vx tg iter ifs scope g it c k e := by
  have L := lc_ok F hf (elt := vx) (tg := tg) (iter := iter) (ifs := ifs) (scope := scope)
  unfold cLc at L
  unfold cDc
  by_cases hz : (blkC Γ.N Γ.sc scope (ownOf Γ.N scope.names) && notSet iter) = true
  · simp only [if_pos hz] at L ⊢
    cases h1 : cG (Γ.blk scope) tg with
    | none => exact .inl rfl
    | some g =>
      cases h2 : cIf (f (Γ.blk scope)) ifs with
      | none => exact .inl rfl
      | some c =>
        simp only [h1, h2] at L ⊢
        by_cases hz : ((stG g).all fun i => ((ownOf Γ.N scope.names).map (·.2)).contains i) = true
        · rw [if_pos hz] at L ⊢
          rcases L with L | ⟨g', it, c', e, he, L⟩
          · cases L
          · cases he
            exact .inr ⟨g, _, c, _, _, rfl, L, fun s H C cl fp => (hf _ _ _ (F.blk L.ok.kind s H C cl fp)).v .e (by decide)⟩
        · rw [if_neg hz]; exact .inl rfl
  · simp only [if_neg hz]; exact .inl trivial
theorem ok_pps (F : Fit X Γ P) (hf : OkE P f) {pos : Pos} : ∀ {ks : List (Option Expr)} {vs : List Expr}, ks.all (·.isSome) = true → ks.length = vs.length → PPs X pos ks vs (trsOf X.K P (altE (f Γ) ks vs)) ∧ evenE (altE (f Γ) ks vs) = true
  | [], [], _, _ => ⟨pps_nil, rfl⟩
  | [], _ :: _, _, h => by cases h
  | _ :: _, [], _, h => by cases h
  | none :: ks, _ :: vs, h, _ => by cases h
  | some k :: ks, v :: vs, h, hl => by
    obtain ⟨a, b⟩ := ok_pps F hf (ks := ks) (vs := vs) h (by simpa using hl)
    exact ⟨pps_cons ((hf X Γ k F).v .e (by decide)) ((hf X Γ v F).v .e (by decide)) a, b⟩
/-! ### all expressions -/
theorem ok_frzE (F : Fit X Γ P) (hf : OkE P f) (hh : OkP P h) {v : Expr} : Sd X P v (frzE f h Γ v) := by
  cases v <;> first | exact hf X Γ _ F | exact sd_frzp (hf X Γ _ F) (hh X Γ _ F) | skip
  rename_i a b p
  show Sd X P _ (if notSlice b then .frzp (f Γ (.Subscript a b p)) (h Γ (.Subscript a b p)) else f Γ (.Subscript a b p))
  by_cases hz : notSlice b = true
  · rw [if_pos hz]; exact sd_frzp (hf X Γ _ F) (hh X Γ _ F)
  · rw [if_neg hz]; exact hf X Γ _ F
theorem ok_fz (hf : OkE P f) (hh : OkP P h) : OkE P (frzE f h) := fun X Γ e F => ok_frzE F hf hh
theorem ok_E1 (hf : OkE P f) (hh : OkP P h) : OkE P (cE1 f h) := fun X Γ e F => by
  cases e <;> first | exact sd_bad | skip
  · -- BoolOp
    rename_i op xs pos
    match xs with
    | [] => exact sd_bad
    | [_] => exact sd_bad
    | a :: b :: xs =>
      have z := ok_B (pos := pos) F hf (op := op) a (b :: xs)
      cases op with
      | And => exact sd_and z
      | Or => exact sd_or z
  · -- BinOp
    rename_i a op b pos
    show Sd X P _ (match cOp op with
      | some o => .op2 o (f Γ a) (f Γ b)
      | none => .bad)
    cases h1 : cOp op with
    | none => exact sd_bad
    | some o => exact sd_bin (ok_op h1) (hf X Γ a F) (hf X Γ b F)
  · -- UnaryOp
    rename_i op a pos
    cases op <;> first | exact sd_bad | exact sd_nt (hf X Γ a F) | exact sd_un (by decide) ur_neg (hf X Γ a F)
  · exact sd_ite (hf X Γ _ F) (hf X Γ _ F) (hf X Γ _ F)
  · -- Dict
    rename_i ks vs pos
    have gen : Sd X P (.Dict ks vs pos) (if ks.all (·.isSome) && decide (ks.length = vs.length) && decide (ks.length ≤ 15) && !ks.isEmpty then .dsp (altE (frzE f h Γ) ks vs) else .bad) := by
      by_cases hz : (ks.all (·.isSome) && decide (ks.length = vs.length) && decide (ks.length ≤ 15) && !ks.isEmpty) = true
      · rw [if_pos hz]
        simp only [Bool.and_eq_true, decide_eq_true_eq, Bool.not_eq_true'] at hz
        obtain ⟨⟨⟨z1, z2⟩, z3⟩, z4⟩ := hz
        obtain ⟨a, b⟩ := ok_pps F (ok_fz hf hh) (pos := pos) z1 z2
        exact sd_dsp a b z1 z2 (fun e => by rw [e] at z4; cases z4) z3
      · rw [if_neg hz]; exact sd_bad
    cases ks <;> cases vs <;> first | exact gen | exact sd_dnew
  · -- ListComp
    rename_i elt gs scope pos
    match gs with
    | [] => exact sd_bad
    | [⟨tg, iter, ifs, as⟩] =>
      show Sd X P _ (if as == 0 then cLc (frzE f h) Γ elt tg iter ifs scope else .bad)
      by_cases ha : (as == 0) = true
      · rw [if_pos ha]
        rw [beq_iff_eq] at ha
        subst ha
        rcases lc_ok F (ok_fz hf hh) (elt := elt) (tg := tg) (iter := iter) (ifs := ifs) (scope := scope) with h1 | ⟨g, it, c, e, h1, L⟩
        · rw [h1]; exact sd_bad
        · rw [h1]; exact sd_lc F.calm F.nd L.it L.ok L.sub L.hg L.ht L.he L.hs
      · rw [if_neg ha]; exact sd_bad
    | ⟨_, _, _, _⟩ :: _ :: _ => exact sd_bad
  · -- DictComp
    rename_i kx vx gs scope pos
    match gs with
    | [] => exact sd_bad
    | [⟨tg, iter, ifs, as⟩] =>
      show Sd X P _ (if as == 0 then cDc (frzE f h) Γ kx vx tg iter ifs scope else .bad)
      by_cases ha : (as == 0) = true
      · rw [if_pos ha]
        rw [beq_iff_eq] at ha
        subst ha
        rcases dc_ok F (ok_fz hf hh) (kx := kx) (vx := vx) (tg := tg) (iter := iter) (ifs := ifs) (scope := scope) with h1 | ⟨g, it, c, k, e, h1, L⟩
        · rw [h1]; exact sd_bad
        · rw [h1]; exact sd_dc F.calm F.nd L.l.it L.l.ok L.l.sub L.l.hg L.l.ht L.hk L.l.he L.l.hs
      · rw [if_neg ha]; exact sd_bad
    | ⟨_, _, _, _⟩ :: _ :: _ => exact sd_bad
  · -- Compare
    rename_i a ops xs pos
    match ops, xs with
    | [], _ => exact sd_bad
    | [op], [] => exact sd_bad
    | [op], [b] =>
      show Sd X P _ (if behindInMarks op b then .bad else match cCmp op with
        | some o => .op2 o (f Γ a) (f Γ b)
        | none => .bad)
      by_cases hb : behindInMarks op b = true
      · rw [if_pos hb]; exact sd_bad
      · rw [if_neg hb]
        cases h1 : cCmp op with
        | none => exact sd_bad
        | some o => exact sd_cmp (ok_cmp F.un h1).1 (hf X Γ a F) (hf X Γ b F) (by simpa using hb) (ok_cmp (X := X) F.un h1).2
    | [op], _ :: _ :: _ => exact sd_bad
    | _ :: _ :: _, [] => exact sd_bad
    | _ :: _ :: _, [_] => exact sd_bad
    | o1 :: o2 :: os, b :: c :: xs =>
      show Sd X P _ (if lastMarks (o1 :: o2 :: os) (b :: c :: xs) then .bad else match cC (f Γ) (o1 :: o2 :: os) (b :: c :: xs) with
        | some ch => .chn (f Γ a) ch
        | none => .bad)
      by_cases hb : lastMarks (o1 :: o2 :: os) (b :: c :: xs) = true
      · rw [if_pos hb]; exact sd_bad
      · rw [if_neg hb]
        cases h1 : cC (f Γ) (o1 :: o2 :: os) (b :: c :: xs) with
        | none => exact sd_bad
        | some ch => exact sd_chn (hf X Γ a F) (ok_C F hf h1) (by simpa using hb)
  · -- Call
    rename_i fn xs ks pos
    cases fn <;> first | exact sd_bad | skip
    · rename_i o m apos
      cases ks with
      | nil => exact ok_callM F (ok_fz hf hh) hh
      | cons => exact sd_bad
    · rename_i n p
      cases ks with
      | nil => exact ok_callN F (ok_fz hf hh)
      | cons => exact sd_bad
  · -- Constant
    rename_i c j pos
    cases c <;> first | exact sd_bad | exact sd_int | exact sd_bl | exact sd_str | exact sd_non
  · -- Attribute
    rename_i a fl pos
    show Sd X P _ (if noSup a then .fld (f Γ a) fl else .bad)
    by_cases hz : noSup a = true
    · rw [if_pos hz]; exact sd_fld F.w.C (hf X Γ a F) (attrB hz)
    · rw [if_neg hz]; exact sd_bad
  · -- Subscript
    rename_i a b pos
    have gen : notSlice b = true → Sd X P (.Subscript a b pos) (.idx (f Γ a) (f Γ b)) := fun hz => sd_idx (by have := F.un; omega) (hf X Γ a F) (hf X Γ b F) fun o i => by cases b <;> first | rfl | cases hz
    cases b <;> first | exact gen rfl | skip
    rename_i lo hi st p2
    cases st with
    | some _ => exact sd_bad
    | none =>
      have po : ∀ {o : Option Expr} {x : E}, partOf (f Γ) o = some x → PO X o (tevO X.K P x) := fun {o x} h => by
        cases o with
        | none => cases h; exact so_none
        | some e =>
          have h' : (if isNonE (f Γ e) then none else some (f Γ e)) = some x := h
          by_cases hn : isNonE (f Γ e) = true
          · rw [if_pos hn] at h'; cases h'
          · rw [if_neg hn] at h'; cases h'
            exact so_some (hf X Γ e F) (by simpa using hn)
      show Sd X P _ (match partOf (f Γ) lo, partOf (f Γ) hi with
        | some x, some y => .slc (f Γ a) x y
        | _, _ => .bad)
      cases h1 : partOf (f Γ) lo with
      | none => exact sd_bad
      | some x =>
        cases h2 : partOf (f Γ) hi with
        | none => exact sd_bad
        | some y => exact sd_slc (hf X Γ a F) (po h1) (po h2)
  · -- Name
    rename_i n p
    show Sd X P _ (match slot Γ n with
      | some i => if Γ.mv.contains (p.line, p.col) then .mov i else .var i
      | none => if isGl Γ n then match Γ.cs.lookup n with
        | some t => .glb n t
        | none => .bad
        else .bad)
    cases hs : slot Γ n with
    | some i =>
      obtain ⟨h1, h2, h3, h4⟩ := slot_ok F hs
      simp only
      by_cases hm : Γ.mv.contains (p.line, p.col) = true
      · rw [if_pos hm]; exact sd_mov h1 h2 h3 h4
      · rw [if_neg hm]; exact sd_var h1 h2 h3 h4
    | none =>
      simp only
      by_cases hz : isGl Γ n = true
      · rw [if_pos hz]
        obtain ⟨hg, hd, hn⟩ := isGl_ok F hz
        cases hc : Γ.cs.lookup n with
        | none => exact sd_bad
        | some t =>
          obtain ⟨v, u, h1, h2, h3⟩ := F.w.cst n t hc
          exact sd_glb hg h1 h2 h3 hd
      · rw [if_neg hz]; exact sd_bad
  · -- List
    rename_i xs pos
    show Sd X P _ (if plainEs xs then .lst (esOf (frzE f h Γ) xs) else .bad)
    by_cases hz : plainEs xs = true
    · rw [if_pos hz]; exact sd_lst (ok_es F (ok_fz hf hh) hz)
    · rw [if_neg hz]; exact sd_bad
  · -- Tuple
    rename_i xs k pos
    show Sd X P _ (if plainEs xs then .tup (esOf (frzE f h Γ) xs) else .bad)
    by_cases hz : plainEs xs = true
    · rw [if_pos hz]; exact sd_tup (ok_es F (ok_fz hf hh) hz)
    · rw [if_neg hz]; exact sd_bad
theorem ok_P1 (hf : OkE P f) (hh : OkP P h) : OkP P (cP1 f h) := fun X Γ e F => by
  cases e <;> first | exact sp_bad | skip
  · rename_i a fl pos
    show SdP X P _ (if noSup a then .fld (h Γ a) fl else .bad)
    by_cases hz : noSup a = true
    · rw [if_pos hz]; exact sp_fld F.w.C (hh X Γ a F) (attrB hz)
    · rw [if_neg hz]; exact sp_bad
  · rename_i a b pos
    show SdP X P _ (if notSlice b then .idx (h Γ a) (f Γ b) else .bad)
    by_cases hz : notSlice b = true
    · rw [if_pos hz]; exact sp_idx (hh X Γ a F) (hf X Γ b F) fun o i => by cases b <;> first | rfl | cases hz
    · rw [if_neg hz]; exact sp_bad
  · rename_i n p
    show SdP X P _ (match slot Γ n with
      | some i => .var i
      | none => .bad)
    cases hs : slot Γ n with
    | some i =>
      obtain ⟨h1, h2, h3, h4⟩ := slot_ok F hs
      exact sp_var h1 h2 h3 h4
    | none => exact sp_bad
theorem ok_EP : ∀ k, OkE P (cEP k).1 ∧ OkP P (cEP k).2
  | 0 => ⟨fun _ _ _ _ => sd_bad, fun _ _ _ _ => sp_bad⟩
  | k + 1 => ⟨ok_E1 (ok_EP k).1 (ok_EP k).2, ok_P1 (ok_EP k).1 (ok_EP k).2⟩
end
end Pv

/-! What is compiled is sound: statements. -/
namespace Pv
open PySem L2 PyProof.Rows
section
variable {X : Cx} {P : Pg} {Γ : Gm} {n : Str} {i : Nat} {f h : Gm → Expr → E} {pos : Pos}
theorem blockKind_ok (F : Fit X Γ P) : X.env.blockKind = .function := by
  unfold Env.blockKind
  rw [F.kd]; rfl
theorem sw_no {v : Expr} {t : Option Expr} {l : Nat} {env : Env} (h : notComp v = true) : swapsWith v t l env = pure false := by
  cases v <;> first | rfl | cases h
theorem sw_tg {v t : Expr} {l : Nat} {env : Env} (h : ∀ n p, t ≠ .Name n p) : swapsWith v (some t) l env = pure false := by
  cases v <;> first | rfl | skip
  all_goals
    cases t <;> first | rfl | exact absurd rfl (h _ _)
theorem sw_nm {elt : Expr} {gs : List Comprehension} {scope : Scope} {p2 py : Pos} {l : Nat} (F : Fit X Γ P) : swapsWith (.ListComp elt gs scope p2) (some (.Name n py)) l X.env = pure (swLc Γ n py scope p2) := by
  unfold swapsWith
  simp only [blockKind_ok F]
  show pure _ = pure _
  congr 1
  unfold swLc isLocal Env.kindOf
  rw [F.sc]
  rfl
theorem st_no {tg v : Expr} (h : isTup tg = false) (h2 : ∀ xs p, tg ≠ .List xs p) : swappedStores [tg] v X.env = pure none := by
  cases tg <;> first | rfl | (cases h; done) | exact absurd rfl (h2 _ _)
theorem st_no2 {ts : List Expr} {k : Nat} {p : Pos} {v : Expr} (h : isTup v = false) : swappedStores [.Tuple ts k p] v X.env = pure none := by
  cases v <;> first | rfl | (cases h; done)
theorem sw_eq {ts vs : List Expr} {k k2 : Nat} {p p2 : Pos} {env : Env} : swappedStores [.Tuple ts k p] (.Tuple vs k2 p2) env = (
  if !(ts.length == 2 || ts.length == 3) || vs.length != ts.length || env.blockKind != .function then pure none
  else if vs.any isSt then pure none
  else if (ts.filterMap (nmL env.kindOf ((ts.head?.map (·.pos.line)).getD 0))).length != ts.length || (ts.filterMap (nmL env.kindOf ((ts.head?.map (·.pos.line)).getD 0))).eraseDups.length != (ts.filterMap (nmL env.kindOf ((ts.head?.map (·.pos.line)).getD 0))).length then pure none
  else if vs.all (foldedForSure 8) then pure none
  else if vs.all (constantsAlone 8) then unsupported "assign.tuple-of-constant-expressions:order-of-the-stores"
  else pure (some (ts.filterMap (nmL env.kindOf ((ts.head?.map (·.pos.line)).getD 0))))) := by
  have e1 : (fun (x : Expr) => match x with
    | .Starred .. => true
    | _ => false) = isSt := by funext x; cases x <;> rfl
  have e2 : ∀ l, (fun (x : Expr) => match x with
    | .Name id pos => if env.kindOf id == some .local && pos.line == l then some id else none
    | _ => none) = nmL env.kindOf l := fun l => by funext x; cases x <;> rfl
  rw [← e1, ← e2]
  unfold swappedStores
  dsimp only
  repeat' (split <;> try rfl)
  all_goals first | rfl | skip
theorem st_tt (F : Fit X Γ P) {ts vs : List Expr} {k k2 : Nat} {p p2 : Pos} {r : Option (List Str)} (h : swN (fun n => Γ.sc.names.lookup n) ts vs = some r) : swappedStores [.Tuple ts k p] (.Tuple vs k2 p2) X.env = pure r := by
  have hk : (X.env.blockKind != .function) = false := by rw [blockKind_ok F]; rfl
  have hn : X.env.kindOf = fun n => Γ.sc.names.lookup n := by
    funext n
    unfold Env.kindOf
    rw [F.sc]
  rw [sw_eq, hk, hn]
  unfold swN at h
  split at h
  · rename_i e; cases h; rw [if_pos e]
  · rename_i e
    rw [if_neg e]
    split at h
    · rename_i e2; cases h; rw [if_pos e2]
    · rename_i e2
      rw [if_neg e2]
      split at h
      · rename_i e3; cases h; rw [if_pos e3]
      · rename_i e3
        rw [if_neg e3]
        split at h
        · rename_i e4; cases h; rw [if_pos e4]
        · rename_i e4
          rw [if_neg e4]
          split at h
          · cases h
          · rename_i e5; cases h; rw [if_neg e5]
theorem ok_asgG (F : Fit X Γ P) (hf : OkE P f) (hh : OkP P h) {tg v : Expr} (hs : swapsWithSole [tg] v pos.line X.env = pure false) (hw : swappedStores [tg] v X.env = pure none) : PS X (.Assign [tg] v pos) (tevS X.K P (cAsgG f h Γ tg v)) := by
  unfold cAsgG
  cases hg : cG Γ tg with
  | none => exact ss_bad
  | some g =>
    obtain ⟨g1, g2⟩ := ok_G F hg
    exact ss_asg (ok_frzE F hf hh) g1 hs hw (by rw [assign_c g2]; rfl)
theorem isLocal_ok (F : Fit X Γ P) (h : isLocal Γ n = true) : X.env.scope.names.lookup n = some .local := by
  unfold isLocal at h
  rw [F.sc]
  exact beq_iff_eq.mp h
theorem ok_par (F : Fit X Γ P) (hf : OkE P f) {ts vs : List Expr} {k k2 : Nat} {p p2 : Pos} {ns : List Str} (hw : swappedStores [.Tuple ts k p] (.Tuple vs k2 p2) X.env = pure (some ns)) : PS X (.Assign [.Tuple ts k p] (.Tuple vs k2 p2) pos) (tevS X.K P (cPar f Γ ts vs ns)) := by
  unfold cPar
  split
  · rename_i n1 q1 n2 q2 a b
    by_cases hz : (decide (ns = [n1, n2]) && isLocal Γ n1 && isLocal Γ n2 && plainEs [a, b]) = true
    · rw [if_pos hz]
      simp only [Bool.and_eq_true, decide_eq_true_eq] at hz
      obtain ⟨⟨⟨rfl, h1⟩, h2⟩, hp⟩ := hz
      split
      · rename_i i j hi hj
        by_cases he : (i == j) = true
        · rw [if_pos he]; exact ss_bad
        · rw [if_neg he]
          exact ss_par2 F.calm F.nd (by rw [F.N]; exact idx_at hi) (by rw [F.N]; exact idx_at hj) (fun z => he (beq_iff_eq.mpr z)) (isLocal_ok F h1) (isLocal_ok F h2) (ok_es F hf hp) hw
      · exact ss_bad
    · rw [if_neg hz]; exact ss_bad
  · rename_i n1 q1 n2 q2 n3 q3 a b c
    by_cases hz : (decide (ns = [n1, n2, n3]) && isLocal Γ n1 && isLocal Γ n2 && isLocal Γ n3 && plainEs [a, b, c]) = true
    · rw [if_pos hz]
      simp only [Bool.and_eq_true, decide_eq_true_eq] at hz
      obtain ⟨⟨⟨⟨rfl, h1⟩, h2⟩, h3⟩, hp⟩ := hz
      split
      · rename_i i j l hi hj hl
        by_cases he : (i == j || i == l || j == l) = true
        · rw [if_pos he]; exact ss_bad
        · rw [if_neg he]
          simp only [Bool.or_eq_true, beq_iff_eq, not_or] at he
          exact ss_par3 F.calm F.nd (by rw [F.N]; exact idx_at hi) (by rw [F.N]; exact idx_at hj) (by rw [F.N]; exact idx_at hl) he.1.1 he.1.2 he.2 (isLocal_ok F h1) (isLocal_ok F h2) (isLocal_ok F h3) (ok_es F hf hp) hw
      · exact ss_bad
    · rw [if_neg hz]; exact ss_bad
  · exact ss_bad
theorem ok_asg (F : Fit X Γ P) (hf : OkE P f) (hh : OkP P h) {tg v : Expr} : PS X (.Assign [tg] v pos) (tevS X.K P (cAsg f h Γ tg v)) := by
  have nsw : ∀ {t : Expr}, (∀ n p, t ≠ .Name n p) → swapsWithSole [t] v pos.line X.env = pure false := fun {t} z => sw_tg z
  cases tg <;> first | exact ss_bad | skip
  · -- Attribute
    rename_i a fl p
    exact ok_asgG F hf hh (nsw fun _ _ => (nomatch ·)) (st_no rfl fun _ _ => (nomatch ·))
  · -- Subscript
    rename_i a b p
    show PS X _ (tevS X.K P (if notSlice b then .pst (h Γ a) (f Γ b) (frzE f h Γ v) else .bad))
    by_cases hz : notSlice b = true
    · rw [if_pos hz]
      exact ss_pst (by have := F.un; omega) (sw_tg fun _ _ => (nomatch ·)) (ok_frzE F hf hh) (hh X Γ a F) (hf X Γ b F) (nsw fun _ _ => (nomatch ·)) (st_no rfl fun _ _ => (nomatch ·)) fun w => by cases b <;> first | rfl | cases hz
    · rw [if_neg hz]; exact ss_bad
  · -- Name
    rename_i n py
    have gen : notComp v = true → PS X (.Assign [.Name n py] v pos) (tevS X.K P (cAsgG f h Γ (.Name n py) v)) := fun z => ok_asgG F hf hh (show swapsWith v (some (.Name n py)) pos.line X.env = pure false from sw_no z) (st_no rfl fun _ _ => (nomatch ·))
    cases v <;> first | exact gen rfl | exact ss_bad | skip
    rename_i elt gs scope p2
    match gs with
    | [] => exact ss_bad
    | ⟨_, _, _, _⟩ :: _ :: _ => exact ss_bad
    | [⟨tgt, iter, ifs, as⟩] =>
      show PS X _ (tevS X.K P (if as == 0 then
        if swLc Γ n py scope p2 then match Γ.N.idxOf? n with
          | some i => .asg (.one (.nm i)) (cLc (frzE f h) Γ elt tgt iter ifs scope)
          | none => .bad
        else cAsgG f h Γ (.Name n py) (.ListComp elt [⟨tgt, iter, ifs, as⟩] scope p2)
      else .bad))
      by_cases ha : (as == 0) = true
      · rw [if_pos ha]
        rw [beq_iff_eq] at ha
        subst ha
        by_cases hz : swLc Γ n py scope p2 = true
        · rw [if_pos hz]
          have hl : isLocal Γ n = true := by
            unfold swLc at hz
            rw [Bool.and_eq_true, Bool.and_eq_true] at hz
            exact hz.1.1
          cases hi : Γ.N.idxOf? n with
          | none => exact ss_bad
          | some i =>
            simp only
            rcases lc_ok F (ok_fz hf hh) (elt := elt) (tg := tgt) (iter := iter) (ifs := ifs) (scope := scope) with h1 | ⟨g, it, c, e, h1, L⟩
            · rw [h1]
              exact ⟨fun pins s σ H D I ⟨F, sl, p, fl, sl', ex, S, e, k⟩ => by simp only [evS, ev] at e; cases e⟩
            · rw [h1]
              exact ss_asgLc F.calm F.nd (by rw [F.N]; exact idx_at hi) (isLocal_ok F hl) (by rw [sw_nm F, hz]) L.it L.ok L.sub L.hg L.ht L.he L.hs
        · rw [if_neg hz]
          exact ok_asgG F hf hh (show swapsWith (.ListComp elt [⟨tgt, iter, ifs, 0⟩] scope p2) (some (.Name n py)) pos.line X.env = pure false by rw [sw_nm F]; congr 1; simpa using hz) (st_no rfl fun _ _ => (nomatch ·))
      · rw [if_neg ha]; exact ss_bad
  · -- Tuple
    rename_i ts k p
    have sw := nsw (t := .Tuple ts k p) fun _ _ => (nomatch ·)
    cases v <;> first | exact ok_asgG F hf hh sw (st_no2 rfl) | skip
    rename_i vs k2 p2
    show PS X _ (tevS X.K P (match swN (fun n => Γ.sc.names.lookup n) ts vs with
      | some none => cAsgG f h Γ (.Tuple ts k p) (.Tuple vs k2 p2)
      | some (some ns) => cPar (frzE f h) Γ ts vs ns
      | none => .bad))
    cases hs : swN (fun n => Γ.sc.names.lookup n) ts vs with
    | none => exact ss_bad
    | some r =>
      have z := st_tt F (k := k) (k2 := k2) (p := p) (p2 := p2) hs
      cases r with
      | none => exact ok_asgG F hf hh sw z
      | some ns => exact ok_par F (ok_fz hf hh) z
theorem ok_aug (F : Fit X Γ P) (hf : OkE P f) (hh : OkP P h) {tg v : Expr} {op : Operator} {o : O2} (h1 : PIp X op (rIP X.K o)) (h2 : InOp X op (rIP X.K o)) : PS X (.AugAssign tg op v pos) (tevS X.K P (cAug f h Γ tg o v)) := by
  cases tg <;> first | exact ss_bad | skip
  · rename_i a fl p
    cases a <;> first | exact ss_bad | skip
    rename_i r pr
    show PS X _ (tevS X.K P (match slot Γ r with
      | some i => .faug i fl o (f Γ v)
      | none => .bad))
    cases hs : slot Γ r with
    | none => exact ss_bad
    | some i =>
      obtain ⟨g1, g2, g3, g4⟩ := slot_ok F hs
      exact ss_faug F.w.C g1 g2 g3 g4 h2 (hf X Γ v F)
  · rename_i a b p
    show PS X _ (tevS X.K P (if notSlice b then .paug (h Γ a) (f Γ b) o (f Γ v) else .bad))
    by_cases hz : notSlice b = true
    · rw [if_pos hz]
      exact ss_paug h1 (hf X Γ v F) (hh X Γ a F) (hf X Γ b F) fun _ _ _ => by cases b <;> first | rfl | cases hz
    · rw [if_neg hz]; exact ss_bad
  · rename_i n p
    show PS X _ (tevS X.K P (if okN2 n then match tslot Γ n with
      | some i => .aug i o (f Γ v)
      | none => .bad
      else .bad))
    by_cases hz : okN2 n = true
    · rw [if_pos hz]
      cases hs : tslot Γ n with
      | none => exact ss_bad
      | some i =>
        obtain ⟨g1, g2, g3⟩ := tslot_ok F hs
        exact ss_aug F.nd g1 g2 g3 h1 (hf X Γ v F)
    · rw [if_neg hz]; exact ss_bad
def OkS (P : Pg) (g : Gm → Stmt → S) : Prop := ∀ X Γ st, Fit X Γ P → PassesOwn (model X.prog X.w) X.A X.env X.xe → PS X st (tevS X.K P (g Γ st))
theorem ok_ss {g : Gm → Stmt → S} (F : Fit X Γ P) (hp : PassesOwn (model X.prog X.w) X.A X.env X.xe) (hg : OkS P g) : ∀ {ss : List Stmt}, PSs X ss (tevSs X.K P (ssOf (g Γ) ss))
  | [] => ss_nil
  | s :: ss => ss_cons (hg X Γ s F hp) (ok_ss F hp hg)
theorem ok_S1 {g : Gm → Stmt → S} (hf : OkE P f) (hh : OkP P h) (hg : OkS P g) : OkS P (cS1 f h g) := fun X Γ st F hp => by
  cases st <;> first | exact ss_bad | exact ss_pass | exact ss_brk | exact ss_cnt | skip
  · -- Return
    rename_i e pos
    cases e with
    | none => exact ss_retn
    | some e =>
      have gen : PS X (.Return (some e) pos) (tevS X.K P (.ret (frzE f h Γ e))) := ss_ret (ok_frzE F hf hh)
      cases e <;> first | exact gen | skip
      rename_i n p
      show PS X _ (tevS X.K P (.ret (match slot Γ n with
        | some i => .mov i
        | none => f Γ (.Name n p))))
      cases hs : slot Γ n with
      | none => exact gen
      | some i =>
        obtain ⟨h1, h2, h3, h4⟩ := slot_ok F hs
        exact ss_ret (sd_mov h1 h2 h3 h4)
  · -- Assign
    rename_i tgs v pos
    match tgs with
    | [] => exact ss_bad
    | [tg] => exact ok_asg F hf hh
    | _ :: _ :: _ => exact ss_bad
  · -- AugAssign
    rename_i tg op v pos
    cases op <;> first | exact ss_bad | exact ok_aug F hf hh ipr_add inr_add | exact ok_aug F hf hh ipr_sub inr_sub
  · -- For
    rename_i tg it a els pos
    cases els with
    | cons => exact ss_bad
    | nil =>
      show PS X _ (tevS X.K P (if notSet it then match cG Γ tg with
        | some gt => .forr gt (cI (frzE f h) Γ tg it) (ssOf (g Γ) a)
        | none => .bad
        else .bad))
      by_cases hz : notSet it = true
      · rw [if_pos hz]
        cases h1 : cG Γ tg with
        | none => exact ss_bad
        | some gt => exact ss_for hp F.calm (ok_I F (ok_fz hf hh)) (ok_G F h1).1 (ok_ss F hp hg) (folded hz)
      · rw [if_neg hz]; exact ss_bad
  · -- While
    rename_i c a els pos
    cases els with
    | cons => exact ss_bad
    | nil => exact ss_whl hp (hf X Γ c F) (ok_ss F hp hg)
  · -- If
    exact ss_if (hf X Γ _ F) (ok_ss F hp hg) (ok_ss F hp hg)
  · -- Expr
    rename_i e pos
    have gen : PS X (.Expr e pos) (tevS X.K P (if notComp e then .exp (f Γ e) else .bad)) := by
      by_cases hz : notComp e = true
      · rw [if_pos hz]; exact ss_exp (hf X Γ e F) (sw_no hz)
      · rw [if_neg hz]; exact ss_bad
    cases e <;> first | exact gen | skip
    rename_i c j p
    cases c <;> first | exact gen | exact ss_doc
theorem ok_S (j : Nat) : ∀ k, OkS P (cS k (cEP j))
  | 0 => fun _ _ _ _ _ => ss_bad
  | k + 1 => ok_S1 (ok_EP j).1 (ok_EP j).2 (ok_S j k)
end
end Pv

/-! Functions. -/
namespace Pv
open PySem L2 PyProof.Rows
structure DefT where
  nm : Str
  qual : Str
  params : Arguments
  body : List Stmt
  scope : Scope
  ps : List Str
  N : List Str
def gmOf (Γ : Gm) (d : DefT) : Gm := { Γ with N := d.N, sc := d.scope, fnc := fun _ => true }
def bodyOf (Γ : Gm) (d : DefT) : Ss := ssOf (cS 40 (cEP 40) (gmOf Γ d)) d.body
def fnOf (Γ : Gm) (d : DefT) : Fn := ⟨d.ps.length, d.N.length, (stSs (bodyOf Γ d)).filter fun i => decide (i < d.ps.length), bodyOf Γ d⟩
def pgOf (R : Prg) (n : Nat) : Pg := ⟨callF R n, fun c m => R.mt.lookup (c, m), fun c f => R.fd.contains (c, f)⟩
section
variable {K : PySem.W.Frag} {F H : Hp} {p q : FP}
theorem Reps.swap : ∀ {sl : List T} {ws : List V} {p : FP} (vs : List V), Reps K F H sl ws p → sl.length = vs.length → (∀ (i : Nat) (t : T), sl[i]? = some t → isHole t = false → ws[i]? = vs[i]?) → Reps K F H sl vs p
  | [], _, _, [], .nil e, _, _ => .nil e
  | t :: ts, w :: ws, _, v :: vs, .cons h hs d e, hl, ag => by
    refine .cons ?_ (Reps.swap vs hs (by simpa using hl) fun i u h1 h2 => by simpa using ag (i + 1) u (by simpa using h1) h2) d e
    by_cases ht : isHole t = true
    · obtain rfl := isHole_eq ht
      cases h with
      | hole e => exact .hole e
    · have := ag 0 t rfl (by simpa using ht)
      simp at this
      subst this
      exact h
theorem holes {n : Nat} : Reps K F H (List.replicate n T.hole) (List.replicate n V.non) nop := by
  induction n with
  | zero => exact .nil fun _ x => x
  | succ n ih => exact .cons (p := nop) (.hole fun _ x => x) ih (fun _ x => x.elim) fun b => ⟨.inl, fun x => x.elim id id⟩
theorem wipeS_get {sl : SL} {i : Nat} : ∀ {vs : List Nat}, (wipeS vs sl)[i]? = if i ∈ vs then (sl[i]?).map (fun _ => T.hole) else sl[i]?
  | [] => by simp [wipeS]
  | v :: vs => by
    have len : ∀ {vs : List Nat}, (wipeS vs sl).length = sl.length := fun {vs} => by
      induction vs with
      | nil => rfl
      | cons v vs ih => unfold wipeS; rw [List.length_set, ih]
    unfold wipeS
    by_cases hi : v = i
    · subst hi
      rw [if_pos List.mem_cons_self]
      by_cases hv : v < (wipeS vs sl).length
      · rw [List.getElem?_set_self hv]
        rw [len] at hv
        simp [hv]
      · rw [List.getElem?_eq_none (by simpa using hv)]
        rw [len] at hv
        rw [List.getElem?_eq_none (l := sl) (by omega)]
        rfl
    · rw [List.getElem?_set_ne hi, wipeS_get (vs := vs)]
      by_cases h2 : i ∈ vs
      · rw [if_pos h2, if_pos (List.mem_cons_of_mem _ h2)]
      · rw [if_neg h2, if_neg (fun z => (List.mem_cons.mp z).elim (fun e => hi e.symm) h2)]
/-- the slots at the entry -/
theorem slr_start {ts : List T} {vs : List V} {N : List Str} (R : Reps K F H ts vs p) (hl : vs.length ≤ N.length) : SlR K F H (ts ++ List.replicate (N.length - ts.length) .hole) (L2.start N vs) p := by
  have l := R.length
  refine ⟨vs ++ List.replicate (N.length - ts.length) .non, (R.app holes fun _ _ x => x).cg fun a => ⟨fun x => x.elim id fun z => z.elim, .inl⟩, ?_, fun i t v h1 h2 h3 => ?_⟩
  · unfold L2.start
    simp only [List.length_append, List.length_replicate, List.length_map]
    omega
  · have hi : i < ts.length := by
      by_cases z : i < ts.length
      · exact z
      · rw [List.getElem?_append_right (by omega), List.getElem?_replicate] at h1
        split at h1
        · cases h1; cases h2
        · cases h1
    unfold L2.start
    rw [List.getElem?_append_left (by simp; omega), List.getElem?_map]
    rw [List.getElem?_append_left (by omega)] at h3
    rw [h3]; rfl
/-- the parameters at the end -/
theorem slr_end {vs : List V} {N : List Str} {slz : SL} {σ' : L2.St} {A : List Nat} {np : Nat} (S : SlR K F H slz σ' p) (kp : Keep A (L2.start N vs) σ') (hn : np = vs.length) (hl : vs.length ≤ N.length) :
    ∃ q, (∀ a, q a → p a) ∧ Reps K F H ((wipeS (A.filter fun i => decide (i < np)) slz).take np) vs q := by
  obtain ⟨r, s1, ws, R, l, ag⟩ := S.wipe (A.filter fun i => decide (i < np))
  obtain ⟨r1, r2, R1, _, _, ep⟩ := R.take' np
  have l1 := R.length
  have l0 : (L2.start N vs).length = N.length := by
    unfold L2.start
    simp only [List.length_append, List.length_replicate, List.length_map]
    omega
  have l2 : (wipeS (A.filter fun i => decide (i < np)) slz).length = N.length := by
    rw [l, wipe_length, kp.1, l0]
  refine ⟨r1, fun a x => s1 a ((ep a).mpr (.inl x)), R1.swap vs (by rw [List.length_take]; omega) fun i t h1 h2 => ?_⟩
  rw [List.getElem?_take] at h1 ⊢
  by_cases hi : i < np
  · rw [if_pos hi] at h1 ⊢
    have hw : i < ws.length := by rw [← l1, l2]; omega
    obtain ⟨w, ew⟩ : ∃ w, ws[i]? = some w := ⟨ws[i], by simp [hw]⟩
    have g := ag i t w h1 h2 ew
    have nA : i ∉ A := fun z => by
      rw [wipeS_get, if_pos (List.mem_filter.mpr ⟨z, by simpa using hi⟩)] at h1
      obtain ⟨_, _, e⟩ := Option.map_eq_some_iff.mp h1
      subst e; cases h2
    rw [wipe_get, if_neg (fun z => nA (List.mem_filter.mp z).1), kp.2 i nA] at g
    unfold L2.start at g
    rw [List.getElem?_append_left (by simp; omega), List.getElem?_map] at g
    obtain ⟨v, e1, e2⟩ := Option.map_eq_some_iff.mp g
    cases e2
    rw [ew, e1]
  · rw [if_neg hi] at h1; cases h1
end
theorem runF_some {P : Pg} {f : Fn} {ts ts' : List T} {t : T} (h : runF P f ts = some (t, ts')) : ts.length = f.np ∧ ∃ fl slz, evSs P f.body (ts ++ List.replicate (f.ns - f.np) .hole) = some (fl, slz) ∧ ts' = (wipeS f.st slz).take f.np ∧ (fl = .rt t ∨ (fl = .nx ∧ t = .non)) := by
  unfold runF at h
  by_cases hz : ts.length = f.np
  · rw [if_pos hz] at h
    obtain ⟨⟨fl, slz⟩, e1, e2⟩ := Option.bind_eq_some_iff.mp h
    refine ⟨hz, fl, slz, e1, ?_⟩
    cases fl <;> first | (cases e2; done) | skip
    · cases e2; exact ⟨rfl, .inr ⟨rfl, rfl⟩⟩
    · cases e2; exact ⟨rfl, .inl rfl⟩
  · rw [if_neg hz] at h; cases h
/-- the body keeps the promise -/
theorem body_ok {K : PySem.W.Frag} {Pn : Pg} {Γ : Gm} {d : DefT} {vs : List V} {H : Hp} {Q : VK} {E : XK} {cf : List T → Option (T × List T)} (hcf : ∀ ts, cf ts = runF Pn (fnOf Γ d) ts) (hN : d.ps.length ≤ d.N.length) (h : spF K cf vs H Q E) :
    vs.length = d.ps.length ∧ tevSs K Pn (bodyOf Γ d) { nx := fun _ H' => Q .non H', rt := Q } (L2.start d.N vs) H := by
  obtain ⟨F, ts, p, t, ts', ex, R, e, k⟩ := h
  rw [hcf] at e
  obtain ⟨h1, fl, slz, e1, rfl, h3⟩ := runF_some e
  have h1 : ts.length = d.ps.length := h1
  have l := R.length
  refine ⟨by omega, F, _, p, fl, slz, ex, slr_start R (by omega), ?_, ?_⟩
  · rw [h1]; exact e1
  · rcases h3 with rfl | ⟨rfl, rfl⟩
    · intro v σ' F' H' pv p' kp ex' S' R' dj st
      obtain ⟨q, sub, RS⟩ := slr_end (np := d.ps.length) S' kp (by omega) (by omega)
      exact k v F' H' pv q ex' RS R' (fun a x y => dj a x (sub a y)) (st.sub fun a x => x.imp id (sub a))
    · intro σ' F' H' p' kp ex' S' st
      obtain ⟨q, sub, RS⟩ := slr_end (np := d.ps.length) S' kp (by omega) (by omega)
      exact k .non F' H' nop q ex' RS (.non fun _ x => x) (fun _ x => x.elim) (st.sub fun a x => x.elim (fun z => z.elim) (sub a))
/-! ### the whole program -/
structure World (prog : Program) (w : World) (K : PySem.W.Frag) (mg : Str → Option Value) (base : Heap) (Γ : Gm) (R : Prg) (ds : List DefT) (at_ : Nat → Addr) (fdt : Nat → FuncData) : Prop where
  fns_ : R.fns = ds.map (fnOf Γ)
  def_ : ∀ i d, ds[i]? = some d → FunD K d.nm d.qual d.params d.body d.scope [] [] (at_ i) (fdt i) ∧ FnScope d.N d.ps d.scope ∧ Binds K (fdt i) d.ps []
  cst : ∀ n t, Γ.cs.lookup n = some t → ∃ v u, mg n = some u ∧ RelV v u ∧ ∀ F H, Rep K F H t v nop
  fns : ∀ n i, Γ.fs.lookup n = some i → mg n = some (.ref (at_ i)) ∧ i < ds.length
  cls : ∀ n i, Γ.cl.lookup n = some i → Mk K (He.ga K n) (at_ i) ∧ mg n = some (.ref (He.ga K n)) ∧ i < ds.length
  im : ∀ n id, Γ.im.lookup n = some id → mg n = some (.builtin id)
  bl : ∀ n, Γ.bl.contains n = true → mg n = none
  fd : ∀ c f, R.fd.contains (c, f) = true → Cls K (He.ga K c) ∧ NoAttr K (He.ga K c) f
  mt : ∀ c q i, R.mt.lookup (c, q) = some i → Cls K (He.ga K c) ∧ Meth K (He.ga K c) q (at_ i) ∧ i < ds.length
section
variable {prog : Program} {w : PySem.World} {K : PySem.W.Frag} {mg : Str → Option Value} {base : Heap} {Γ : Gm} {R : Prg} {ds : List DefT} {at_ : Nat → Addr} {fdt : Nat → FuncData}
def FnsOk (prog : Program) (w : PySem.World) (K : PySem.W.Frag) (mg : Str → Option Value) (base : Heap) (R : Prg) (ds : List DefT) (at_ : Nat → Addr) (fdt : Nat → FuncData) (n : Nat) : Prop :=
  ∀ i d, ds[i]? = some d → FnOk prog w K mg base CX0 (2 * n) (at_ i) (fdt i) d.ps (spF K (callF R n i)) ∧ Binds K (fdt i) d.ps [] ∧ PySem.W.keepIn K (.ref (at_ i)) = true
/-- a context of the program's -/
theorem wld_of (W : World prog w K mg base Γ R ds at_ fdt) {n : Nat} (hn : FnsOk prog w K mg base R ds at_ fdt n) {X : Cx} (h1 : X.prog = prog) (h2 : X.w = w) (h3 : X.K = K) (h4 : X.mg = mg) (h5 : X.base = base) (hr : Room (2 * n + 1) X.A) {d : DefT} : Wld X (pgOf R n) (gmOf Γ d) := by
  subst h1 h2 h3 h4 h5
  have fa : ∀ i, i < ds.length → FnAt X (pgOf R n) i (at_ i) := fun i hi => by
    obtain ⟨a, b, c⟩ := hn i ds[i] (by simp [hi])
    exact ⟨⟨_, _, _, a, hr, b⟩, c⟩
  exact ⟨W.cst, fun n i h => ⟨_, fa i (W.fns n i h).2, (W.fns n i h).1⟩, fun n i h => ⟨_, fa i (W.cls n i h).2.2, (W.cls n i h).1, (W.cls n i h).2.1⟩, W.im, W.bl, ⟨W.fd⟩, ⟨fun c q i h => ⟨_, (W.mt c q i h).1, (W.mt c q i h).2.1, fa i (W.mt c q i h).2.2⟩⟩⟩
theorem fns_ok (W : World prog w K mg base Γ R ds at_ fdt) : ∀ n, FnsOk prog w K mg base R ds at_ fdt n
  | 0 => fun i d hd => by
    obtain ⟨a, b, c⟩ := W.def_ i d hd
    exact ⟨⟨fun vs H Q E ⟨F, ts, p, t, ts', ex, R, e, k⟩ => (nomatch e), fun A outer s H args us vs Q E hr he hb hv ⟨F, ts, p, t, ts', ex, R, e, k⟩ => (nomatch e)⟩, c, a.kp⟩
  | n + 1 => fun i d hd => by
    obtain ⟨a, b, c⟩ := W.def_ i d hd
    have ih := fns_ok W n
    have hN : d.ps.length ≤ d.N.length := by have := congrArg List.length b.pre; rw [List.length_take] at this; omega
    have hcf : ∀ ts, callF R (n + 1) i ts = runF (pgOf R n) (fnOf Γ d) ts := fun ts => by
      show ((R.fns[i]?).bind fun fn => runF (pgOf R n) fn ts) = _
      rw [W.fns_, List.getElem?_map, hd]; rfl
    refine ⟨a.ok (k := 2 * n + 1) b (fun vs H Q E h => (body_ok (Γ := Γ) (d := d) hcf hN h).1) fun cdv A outer s H vs Q E hr h => ?_, c, a.kp⟩
    refine ⟨_, PSs.nox ?_, (body_ok (Γ := Γ) (d := d) hcf hN h).2⟩
    have F : Fit (cxOf CX0 prog w K mg base d.N d.qual d.scope (at_ i) cdv A outer s H E).nox (gmOf Γ d) (pgOf R n) :=
      { N := rfl, nd := b.nd, sc := rfl, kd := b.kind, fn := fun _ => rfl, calm := rfl, un := (by have := hr.un; show (A.deeper (envOfC d.qual d.scope s.heap.objs.size (at_ i) cdv)).units + 100 < cLine; omega), w := wld_of W ih rfl rfl rfl rfl rfl hr }
    exact ok_ss F PassesOwn.never (ok_S 40 40)
end
end Pv

/-! The head: what the top leaves. -/
namespace Pv
open PySem L2 PyProof.Rows
/-! ### the facts -/
def notList (o : Obj) : Bool := match o.cls with
  | .type c => !(decide (c = "list"))
  | _ => true
def frV (n : Nat) (g : Addr → Option Obj) : PySem.W.Frag := (He.frG g (He.asD g n)).filter fun p => notList p.2
theorem mem_lk {α β : Type} [BEq α] [LawfulBEq α] : ∀ {l : List (α × β)} {a : α} {b : β}, l.lookup a = some b → (a, b) ∈ l
  | [], _, _, h => by cases h
  | (c, d) :: l, a, b, h => by
    rw [List.lookup_cons] at h
    cases e : a == c with
    | true =>
      rw [e] at h
      cases h
      rw [beq_iff_eq.mp e]
      exact List.mem_cons_self
    | false =>
      rw [e] at h
      exact List.mem_cons_of_mem _ (mem_lk h)
theorem filt_at {K : PySem.W.Frag} {a : Addr} {o : Obj} (h : (K.filter fun p => notList p.2).lookup a = some o) : (a, o) ∈ K ∧ notList o = true := by
  have := mem_lk h
  exact List.mem_filter.mp this
theorem frG_mem {g : Addr → Option Obj} {as : List Addr} {a : Addr} {o : Obj} (h : (a, o) ∈ He.frG g as) : g a = some o := by
  unfold He.frG at h
  obtain ⟨b, _, e⟩ := List.mem_filterMap.mp h
  obtain ⟨o', e1, e2⟩ := Option.map_eq_some_iff.mp e
  cases e2
  exact e1
theorem frV_in {n : Nat} {h : Heap} : (frV n h.get?).In h := fun _ _ e => frG_mem (filt_at e).1
theorem frV_nl {n : Nat} {g : Addr → Option Obj} : ∀ a o, (frV n g).lookup a = some o → o.cls ≠ .type "list" := fun a o e z => by
  have h := (filt_at e).2
  unfold notList at h
  rw [z] at h
  exact absurd h (by decide)
abbrev AlV : Type := Bool × List He.FnW
def obsV (fa : List He.Fa) (fn : List He.DefD) (ex : PySem.W.Frag → Bool) (K : PySem.W.Frag) : AlV := (((fa.all fun f => f.ok K) && fn.all fun d => d.ok K) && ex K, fn.map fun d => He.fnW K d.at_)
structure SaysV (fa : List He.Fa) (fn : List He.DefD) (ex : PySem.W.Frag → Bool) (K : PySem.W.Frag) : Prop where
  d : He.SaysD fa fn K
  ex : ex K = true
  nl : ∀ a o, K.lookup a = some o → o.cls ≠ .type "list"
theorem saysV_of {n : Nat} {fa : List He.Fa} {fn : List He.DefD} {ex : PySem.W.Frag → Bool} {g : Addr → Option Obj} (e : obsV fa fn ex (frV n g) = (true, fn.map He.DefD.val)) : SaysV fa fn ex (frV n g) := by
  obtain ⟨h1, h2⟩ := He.ba (congrArg (fun z : AlV => z.1) e)
  refine ⟨?_, h2, frV_nl⟩
  show (_, _) = (_, _)
  rw [h1]
  exact congrArg (Prod.mk true) (congrArg (fun z : AlV => z.2) e)
def hookV (n : Nat) (fa : List He.Fa) (fn : List He.DefD) (ex : PySem.W.Frag → Bool) : PySem.W.Hook where
  α := AlV
  obs := fun s => obsV fa fn ex (frV n s.heap.get?)
  val := fun _ => (true, fn.map He.DefD.val)
  says := fun _ h => ∃ K : PySem.W.Frag, K.In h ∧ SaysV fa fn ex K
  of := fun _ _ e => ⟨_, frV_in, saysV_of e⟩
  keeps := fun _ _ _ ⟨K, hK, c⟩ k => ⟨K, PySem.W.Frag.In.keeps hK k, c⟩
def obV (n : Nat) (fa : List He.Fa) (fn : List He.DefD) (ex : PySem.W.Frag → Bool) (s : PySem.W.SharedT) : AlV := obsV fa fn ex (frV n (HandSHeadRun.getT s))
theorem obV_eq {n : Nat} {fa : List He.Fa} {fn : List He.DefD} {ex : PySem.W.Frag → Bool} (s : PySem.W.SharedT) : obV n fa fn ex s = (hookV n fa fn ex).obs s.abs := by
  have e : HandSHeadRun.getT s = s.abs.heap.get? := funext (HandSHeadRun.getT_eq s)
  unfold obV
  rw [e] <;> rfl
/-! ### the module's constants -/
mutual
def valB (K : PySem.W.Frag) : Value → T → Bool
  | .none, .non => true
  | .bool b, .bl c => b == c
  | .int i _, .int j => decide (i = j)
  | .str x _, .str y => decide (x = y)
  | .ref a, .tup ts => (match K.lookup a with
    | some ⟨.type c, _, .seq its _, _⟩ => decide (c = "tuple") && (decide (its.size ≤ sizeLine) && valBs K its.toList ts)
    | _ => false)
  | _, _ => false
def valBs (K : PySem.W.Frag) : List Value → List T → Bool
  | [], [] => true
  | v :: vs, t :: ts => valB K v t && valBs K vs ts
  | _, _ => false
end
mutual
theorem valB_ok {K : PySem.W.Frag} : ∀ (t : T) (u : Value), valB K u t = true → ∃ v, RelV v u ∧ ∀ F H, Rep K F H t v nop
  | .non, u, h => by
    cases u <;> first | (unfold valB at h; cases h; done) | skip
    exact ⟨.non, rfl, fun _ _ => .non fun _ x => x⟩
  | .bl b, u, h => by
    cases u <;> first | (unfold valB at h; cases h; done) | skip
    rename_i c
    unfold valB at h
    rw [beq_iff_eq] at h
    subst h
    exact ⟨.bl _, rfl, fun _ _ => .bl fun _ x => x⟩
  | .int i, u, h => by
    cases u <;> first | (unfold valB at h; cases h; done) | skip
    unfold valB at h
    obtain rfl := of_decide_eq_true h
    exact ⟨.int _, ⟨_, rfl⟩, fun _ _ => .int fun _ x => x⟩
  | .str i, u, h => by
    cases u <;> first | (unfold valB at h; cases h; done) | skip
    unfold valB at h
    obtain rfl := of_decide_eq_true h
    exact ⟨.str _, ⟨_, rfl⟩, fun _ _ => .str fun _ x => x⟩
  | .tup ts, u, h => by
    cases u <;> first | (unfold valB at h; cases h; done) | skip
    rename_i a
    unfold valB at h
    cases q : K.lookup a with
    | none => rw [q] at h; cases h
    | some o =>
      obtain ⟨oc, od, dt, osl⟩ := o
      rw [q] at h
      cases oc <;> first | (cases dt <;> cases h; done) | skip
      rename_i c
      cases dt <;> first | (cases h; done) | skip
      rename_i its n
      obtain ⟨h1, h2⟩ := He.ba (show (decide (c = "tuple") && (decide (its.size ≤ sizeLine) && valBs K its.toList ts)) = true from h)
      obtain ⟨h3, h4⟩ := He.ba h2
      obtain ⟨vs, r1, r2⟩ := valBs_ok ts its.toList h4
      exact ⟨.ref a, rfl, fun F H => .tup (.inr ⟨_, its, n, q, congrArg Value.type (of_decide_eq_true h1), rfl, of_decide_eq_true h3, r1⟩) (r2 F H)⟩
  | .hole, u, h => by cases u <;> (unfold valB at h; cases h)
  | .lst .., u, h => by cases u <;> (unfold valB at h; cases h)
  | .dct .., u, h => by cases u <;> (unfold valB at h; cases h)
  | .ins .., u, h => by cases u <;> (unfold valB at h; cases h)
theorem valBs_ok {K : PySem.W.Frag} : ∀ (ts : List T) (us : List Value), valBs K us ts = true → ∃ vs, Vals vs us ∧ ∀ F H, Reps K F H ts vs nop
  | [], [], _ => ⟨[], .nil, fun _ _ => .nil fun _ x => x⟩
  | [], _ :: _, h => by unfold valBs at h; cases h
  | _ :: _, [], h => by unfold valBs at h; cases h
  | t :: ts, u :: us, h => by
    unfold valBs at h
    obtain ⟨h1, h2⟩ := He.ba h
    obtain ⟨v, a1, a2⟩ := valB_ok t u h1
    obtain ⟨vs, b1, b2⟩ := valBs_ok ts us h2
    exact ⟨v :: vs, .cons a1 b1, fun F H => .cons (a2 F H) (b2 F H) (fun _ x => x.elim) fun b => ⟨.inl, fun x => x.elim id id⟩⟩
end
def cstB (K : PySem.W.Frag) (p : Str × T) : Bool := match PySem.W.nsIn K mainGlobals p.1 with
  | some (some u) => valB K u p.2
  | _ => false
def impB (K : PySem.W.Frag) (p : Str × String) : Bool := He.eqO (PySem.W.nsIn K mainGlobals p.1) (some (some (.builtin p.2)))
def exB (Γ : Gm) (K : PySem.W.Frag) : Bool := (Γ.cs.all fun p => cstB K p) && Γ.im.all fun p => impB K p
/-! ### defs of the text -/
def defOf (st : Stmt) (at_ : Str × Option Str) (qual : Str) (extra : List Str) : DefT × He.DefD :=
  (⟨at_.2.getD at_.1, qual, defArgs st, defBody st, defScope st, (defArgs st).args.map (·.arg), (((defArgs st).args.map (·.arg)) ++ ((defScope st).names.filter fun p => p.2 == .local || p.2 == .cell).map (·.1) ++ extra).eraseDups⟩,
    ⟨at_, at_.2.getD at_.1, qual, defArgs st, defBody st, defScope st, [], []⟩)
def scC (N P : List Str) (sc : Scope) : Bool := (match sc.kind with
    | .function => true
    | _ => false) && !sc.isCoroutine && !sc.isGenerator && decide N.Nodup && decide (N.take P.length = P) && (P.all fun x => sc.names.lookup x == some .local || sc.names.lookup x == some .cell) && sc.names.all fun y => !(y.2 == .free)
theorem scC_ok {N P : List Str} {sc : Scope} (h : scC N P sc = true) : FnScope N P sc := by
  unfold scC at h
  simp only [Bool.and_eq_true, decide_eq_true_eq, List.all_eq_true, Bool.or_eq_true, beq_iff_eq, Bool.not_eq_true'] at h
  obtain ⟨⟨⟨⟨⟨⟨h1, h2⟩, h3⟩, h4⟩, h5⟩, h6⟩, h7⟩ := h
  refine ⟨?_, h2, h3, h4, h5, h6, fun y hy e => ?_⟩
  · split at h1
    · assumption
    · cases h1
  · have := h7 y hy
    rw [e] at this
    cases this
/-- a program as the proof knows it -/
structure Src where
  ds : List (DefT × He.DefD)
  Γ : Gm
  mt : List ((Str × Str) × Nat)
  fd : List (Str × Str)
def Src.R (S : Src) : Prg := ⟨(S.ds.map (·.1)).map (fnOf S.Γ), S.mt, S.fd⟩
def Src.fn (S : Src) : List He.DefD := S.ds.map (·.2)
def Src.ats (S : Src) (i : Nat) : Str × Option Str := match S.ds[i]? with
  | some d => d.2.at_
  | none => ("", none)
/-- the facts that the top is to tell -/
def Src.fa (S : Src) : List He.Fa :=
  S.Γ.fs.map (fun p => .glo p.1) ++ (S.Γ.cl.flatMap fun p => [.glo p.1, .mkr p.1]) ++ S.Γ.bl.map (fun n => .free n) ++ (S.fd.flatMap fun p => [.cls p.1, .noat p.1 p.2]) ++ S.mt.flatMap fun p => [.cls p.1.1, .meth p.1.1 p.1.2]
/-- what is to be right of the tables themselves -/
def Src.ok (S : Src) : Bool :=
  (S.ds.all fun d => scC d.1.N d.1.ps d.1.scope) && (S.Γ.fs.all fun p => decide (p.2 < S.ds.length) && decide (S.ats p.2 = (p.1, none))) && (S.Γ.cl.all fun p => decide (p.2 < S.ds.length) && decide (S.ats p.2 = (p.1, some ("__init__" : Str)))) &&
    (S.mt.all fun p => decide (p.2 < S.ds.length) && decide (S.ats p.2 = (p.1.1, some p.1.2)))
def same (d : DefT × He.DefD) : Prop := d.2.name = d.1.nm ∧ d.2.qual = d.1.qual ∧ d.2.params = d.1.params ∧ d.2.body = d.1.body ∧ d.2.scope = d.1.scope ∧ d.2.dfl = [] ∧ d.2.kwd = []
theorem same_def {st : Stmt} {a : Str × Option Str} {q : Str} {ex : List Str} : same (defOf st a q ex) := ⟨rfl, rfl, rfl, rfl, rfl, rfl, rfl⟩
/-- how the arguments bind -/
def BindsTo_ (d : DefT) : Prop := ∀ (kV doc pm : Value) (an : Option Addr) (cdv ct : Value) (us : List Value), us.length = d.ps.length → bindArgs (PySem.W.fnOf d.nm d.qual d.params d.body d.scope .none kV doc pm an cdv ct) ⟨us, []⟩ = pure (d.ps.zip us)
def fdAt (K : PySem.W.Frag) (a : Addr) : FuncData := match K.lookup a with
  | some ⟨_, _, .func fd, _⟩ => fd
  | _ => default
theorem world_of {S : Src} {prog : Program} {w : PySem.World} {K : PySem.W.Frag} {h base : Heap} {mg : Str → Option Value} (KX : K.In h) (G : h.Ns mainGlobals mg) (c : SaysV S.fa S.fn (exB S.Γ) K) (hok : S.ok = true) (hs : ∀ d ∈ S.ds, same d ∧ BindsTo_ d.1) :
    World prog w K mg base S.Γ S.R (S.ds.map (·.1)) (fun i => He.fAd K (S.ats i)) (fun i => fdAt K (He.fAd K (S.ats i))) := by
  have fact : ∀ f ∈ S.fa, f.ok K = true := fun f hf => by
    obtain ⟨i, hi, e⟩ := List.mem_iff_getElem.mp hf
    exact c.d.fact i (f := f) (by rw [List.getElem?_eq_getElem hi, e])
  unfold Src.ok at hok
  simp only [Bool.and_eq_true, List.all_eq_true, decide_eq_true_eq] at hok
  obtain ⟨⟨⟨k1, k2⟩, k3⟩, k4⟩ := hok
  have inA : ∀ {f l1 l2 l3 l4 l5}, S.fa = l1 ++ l2 ++ l3 ++ l4 ++ l5 → (f ∈ l1 ∨ f ∈ l2 ∨ f ∈ l3 ∨ f ∈ l4 ∨ f ∈ l5) → f ∈ S.fa := fun {f l1 l2 l3 l4 l5} e h => by
    rw [e]
    simp only [List.mem_append]
    rcases h with h | h | h | h | h
    · exact .inl (.inl (.inl (.inl h)))
    · exact .inl (.inl (.inl (.inr h)))
    · exact .inl (.inl (.inr h))
    · exact .inl (.inr h)
    · exact .inr h
  have e0 : S.fa = _ := rfl
  have exx := c.ex
  unfold exB at exx
  obtain ⟨x1, x2⟩ := He.ba exx
  refine ⟨rfl, fun i d hd => ?_, fun n t hn => ?_, fun n i hn => ?_, fun n i hn => ?_, fun n id hn => ?_, fun n hn => ?_, fun c0 f hn => ?_, fun c0 q i hn => ?_⟩
  · rw [List.getElem?_map] at hd
    obtain ⟨dd, e1, rfl⟩ := Option.map_eq_some_iff.mp hd
    have hm : dd ∈ S.ds := List.mem_of_getElem? e1
    obtain ⟨⟨s1, s2, s3, s4, s5, s6, s7⟩, hb⟩ := hs dd hm
    have hat : S.ats i = dd.2.at_ := by unfold Src.ats; rw [e1]
    obtain ⟨fd, F⟩ := c.d.def_ i (d := dd.2) (by unfold Src.fn; rw [List.getElem?_map, e1]; rfl)
    have dv : dd.2.dvs K = [] := by unfold He.DefD.dvs; rw [s6]; rfl
    have kw : dd.2.kws K = [] := by unfold He.DefD.kws; rw [s7]; rfl
    rw [s1, s2, s3, s4, s5, dv, kw] at F
    have hfd : fdAt K (He.fAd K (S.ats i)) = fd := by
      obtain ⟨oc, od, dV, kV, doc, pm, an, cdv, ct, osl, _, lk, _⟩ := F.ex
      unfold fdAt
      rw [hat, lk]
    rw [hfd, hat]
    exact ⟨F, scC_ok (k1 dd hm), F.bindsN hb⟩
  · have z := List.all_eq_true.mp x1 (n, t) (mem_lk hn)
    unfold cstB at z
    cases e : PySem.W.nsIn K mainGlobals n with
    | none => simp only [e] at z; cases z
    | some o =>
      cases o with
      | none => simp only [e] at z; cases z
      | some u =>
        simp only [e] at z
        obtain ⟨v, r1, r2⟩ := valB_ok t u z
        exact ⟨v, u, PySem.W.mg_of KX G e, r1, r2⟩
  · have hm := mem_lk hn
    obtain ⟨z1, z2⟩ := k2 _ hm
    refine ⟨?_, by rw [List.length_map]; exact z1⟩
    show mg n = some (.ref (He.fAd K (S.ats i)))
    rw [z2]
    exact He.glo_ok KX G (fact (.glo n) (inA e0 (.inl (List.mem_map.mpr ⟨_, hm, rfl⟩))))
  · have hm := mem_lk hn
    obtain ⟨z1, z2⟩ := k3 _ hm
    refine ⟨?_, ?_, by rw [List.length_map]; exact z1⟩
    · show Mk K (He.ga K n) (He.fAd K (S.ats i))
      rw [z2]
      exact He.mkr_ok (fact (.mkr n) (inA e0 (.inr (.inl (List.mem_flatMap.mpr ⟨_, hm, by simp⟩)))))
    · exact He.glo_ok KX G (fact (.glo n) (inA e0 (.inr (.inl (List.mem_flatMap.mpr ⟨_, hm, by simp⟩)))))
  · have z := List.all_eq_true.mp x2 (n, id) (mem_lk hn)
    exact PySem.W.mg_of KX G (He.eqO_ok z)
  · exact He.free_ok KX G (fact (.free n) (inA e0 (.inr (.inr (.inl (List.mem_map.mpr ⟨n, List.contains_iff_mem.mp hn, rfl⟩))))))
  · have hm : (c0, f) ∈ S.fd := List.contains_iff_mem.mp hn
    exact ⟨He.cls_ok (fact (.cls c0) (inA e0 (.inr (.inr (.inr (.inl (List.mem_flatMap.mpr ⟨_, hm, by simp⟩))))))), He.noat_ok (fact (.noat c0 f) (inA e0 (.inr (.inr (.inr (.inl (List.mem_flatMap.mpr ⟨_, hm, by simp⟩)))))))⟩
  · have hm := mem_lk hn
    obtain ⟨z1, z2⟩ := k4 _ hm
    refine ⟨He.cls_ok (fact (.cls c0) (inA e0 (.inr (.inr (.inr (.inr (List.mem_flatMap.mpr ⟨_, hm, by simp⟩))))))), ?_, by rw [List.length_map]; exact z1⟩
    show Meth K (He.ga K c0) q (He.fAd K (S.ats i))
    rw [z2]
    exact He.meth_ok (fact (.meth c0 q) (inA e0 (.inr (.inr (.inr (.inr (List.mem_flatMap.mpr ⟨_, hm, by simp⟩)))))))
/-! ### the law -/
theorem rep_script {K : PySem.W.Frag} {H : Hp} {a : Addr} {ns : List Int} (nl : ∀ a o, K.lookup a = some o → o.cls ≠ .type "list") (hS : SqL K H a (ns.map V.int)) : Rep K H H (.lst false (ns.map T.int)) (.ref a) nop := by
  rcases hS with h | ⟨o, its, n, h1, h2, _⟩
  · refine .lstF h ?_
    clear h
    induction ns with
    | nil => exact .nil fun _ x => x
    | cons i ns ih => exact .cons (p := nop) (.int fun _ x => x) ih (fun _ x => x.elim) fun b => ⟨.inl, fun x => x.elim id id⟩
  · exact absurd h2 (nl a o h1)
theorem law_of {S : Src} {prog : Program} {w : PySem.World} {K : PySem.W.Frag} {h : Heap} {mg : Str → Option Value} {fa : Addr} {lw : Nat} {d : DefT × He.DefD} {x : Str} {n N : Nat} (KX : K.In h) (G : h.Ns mainGlobals mg) (c : SaysV S.fa S.fn (exB S.Γ) K) (hok : S.ok = true)
    (hs : ∀ d ∈ S.ds, same d ∧ BindsTo_ d.1) (hd : S.ds[lw]? = some d) (hat : d.2.at_ = (("law" : Str), none)) (hps : d.1.ps = [x]) (hmg : mg ("law" : Str) = some (.ref fa)) (hgl : S.Γ.fs.lookup ("law" : Str) = some lw)
    (main : ∀ ns : List Int, ns.length ≤ n → ∃ ts', callF S.R N lw [.lst false (ns.map T.int)] = some (.bl true, ts')) :
    ∃ (K : PySem.W.Frag) (fd : FuncData) (sp : Sp), K.In h ∧ (∀ (s : Shared) (u : Value), BindsTo s fd ⟨[u], []⟩ [(x, u)]) ∧
        (∀ (H : Hp) (a : Addr) (ns : List Int), ns.length ≤ n → Only H → SqL K H a (ns.map V.int) → sp [.ref a] H (fun v _ => v = .bl true) fun _ _ _ => False) ∧
        ∀ base : Heap, K.In base → base.Ns mainGlobals mg → FnOk prog w K mg base CX0 (2 * N) fa fd [x] sp := by
  have W := fun base : Heap => world_of (prog := prog) (w := w) (base := base) KX G c hok hs
  have hd1 : (S.ds.map (·.1))[lw]? = some d.1 := by rw [List.getElem?_map, hd]; rfl
  have fae : He.fAd K (S.ats lw) = fa := by
    have := ((W h).fns "law" lw hgl).1
    rw [hmg] at this
    exact (Value.ref.inj (Option.some.inj this)).symm
  refine ⟨K, fdAt K (He.fAd K (S.ats lw)), spF K (callF S.R N lw), KX, fun s u => ?_, fun H a ns hl hO hS => ?_, fun base _ _ => ?_⟩
  · have b := (((W h).def_ lw d.1 hd1).1).bindsA (ps := d.1.ps) (hs d (List.mem_of_getElem? hd)).2 s [u] (by rw [hps]; rfl)
    rw [hps] at b
    exact b
  · obtain ⟨ts', e⟩ := main ns hl
    exact ⟨H, [.lst false (ns.map T.int)], nop, .bl true, ts', Evl.Ex.refl H, Reps.one (rep_script c.nl hS), e, fun v F' H' pv p' _ _ R _ _ => R.bl'.1⟩
  · have := (fns_ok (W base) N lw d.1 hd1).1
    rw [hps] at this
    rw [← fae]
    exact this
end Pv

/-! What the evaluator says with less known of the calls, it says with more. -/
namespace Pv
open PySem
def Le {α : Type} (a b : Option α) : Prop := ∀ r, a = some r → b = some r
section
variable {α β : Type} {a b : Option α}
theorem Le.refl : Le a a := fun _ h => h
theorem Le.none : Le (none : Option α) b := fun _ h => by cases h
theorem Le.bind {f g : α → Option β} (h : Le a b) (k : ∀ x, Le (f x) (g x)) : Le (a.bind f) (b.bind g) := fun r e => by
  obtain ⟨x, e1, e2⟩ := Option.bind_eq_some_iff.mp e
  rw [h x e1]
  exact k x r e2
theorem Le.ite {c : Prop} [Decidable c] {a b a' b' : Option α} (h1 : Le a a') (h2 : Le b b') : Le (if c then a else b) (if c then a' else b') := by
  by_cases h : c
  · rw [if_pos h, if_pos h]; exact h1
  · rw [if_neg h, if_neg h]; exact h2
end
theorem setGs_fd {m : Str → Str → Option Nat} {f : Str → Str → Bool} {c c' : CF} : ∀ {gs : List G0} {ts : List T} {sl : SL}, setGs ⟨c, m, f⟩ gs ts sl = setGs ⟨c', m, f⟩ gs ts sl
  | [], [], _ => rfl
  | [], _ :: _, _ => rfl
  | _ :: _, [], _ => rfl
  | g :: gs, t :: ts, sl => by
    show (setG0 ⟨c, m, f⟩ g t sl).bind (fun sl => setGs ⟨c, m, f⟩ gs ts sl) = (setG0 ⟨c', m, f⟩ g t sl).bind (fun sl => setGs ⟨c', m, f⟩ gs ts sl)
    have e : setG0 ⟨c, m, f⟩ g t sl = setG0 ⟨c', m, f⟩ g t sl := by cases g <;> rfl
    rw [e]
    congr 1
    funext sl
    exact setGs_fd
theorem setG_fd {m : Str → Str → Option Nat} {f : Str → Str → Bool} {c c' : CF} {g : G} {t : T} {sl : SL} : setG ⟨c, m, f⟩ g t sl = setG ⟨c', m, f⟩ g t sl := by
  cases g with
  | one g => cases g <;> rfl
  | tp gs => cases t <;> first | rfl | exact setGs_fd
theorem bor2_le {vs : List Nat} {f g : SL → Option (T × SL)} {sl : SL} (h : ∀ sl, Le (f sl) (g sl)) : Le (bor2 vs f sl) (bor2 vs g sl) := Le.ite ((h _).bind fun _ => Le.refl) ((h _).bind fun _ => Le.refl)
theorem lcGo_le {set : T → SL → Option SL} {c c' e e' : SL → Option (T × SL)} {wp : SL → SL} (hc : ∀ sl, Le (c sl) (c' sl)) (he : ∀ sl, Le (e sl) (e' sl)) : ∀ {xs : List T} {sl : SL} {acc : List T}, Le (lcGo set c e wp xs sl acc) (lcGo set c' e' wp xs sl acc)
  | [], _, _ => Le.refl
  | x :: xs, sl, acc => by
    unfold lcGo
    refine Le.refl.bind fun sl1 => (hc sl1).bind fun r => ?_
    obtain ⟨t, s⟩ := r
    cases t <;> first | exact Le.refl | skip
    rename_i b
    cases b with
    | false => exact lcGo_le hc he
    | true => exact (he s).bind fun r2 => Le.ite (lcGo_le hc he) Le.refl
theorem dcGo_le {set : T → SL → Option SL} {c c' k k' e e' : SL → Option (T × SL)} {wp : SL → SL} (hc : ∀ sl, Le (c sl) (c' sl)) (hk : ∀ sl, Le (k sl) (k' sl)) (he : ∀ sl, Le (e sl) (e' sl)) : ∀ {xs : List T} {sl : SL} {acc : List (List L2.Key) × List T}, Le (dcGo set c k e wp xs sl acc) (dcGo set c' k' e' wp xs sl acc)
  | [], _, _ => Le.refl
  | x :: xs, sl, acc => by
    unfold dcGo
    refine Le.refl.bind fun sl1 => (hc sl1).bind fun r => ?_
    obtain ⟨t, s⟩ := r
    cases t <;> first | exact Le.refl | skip
    rename_i b
    cases b with
    | false => exact dcGo_le hc hk he
    | true => exact (hk s).bind fun rk => Le.refl.bind fun kk => (he rk.2).bind fun r2 => Le.ite (dcGo_le hc hk he) Le.refl
section
variable {mt : Str → Str → Option Nat} {fd : Str → Str → Bool} {c c' : CF} (H : ∀ f ts, Le (c f ts) (c' f ts))
include H
mutual
theorem ev_le : ∀ (e : E) (m : Md) (sl : SL), Le (ev ⟨c, mt, fd⟩ m e sl) (ev ⟨c', mt, fd⟩ m e sl)
  | .var i, m, sl => by simp only [ev]; exact Le.refl
  | .mov i, m, sl => by simp only [ev]; exact Le.refl
  | .cst t, m, sl => by simp only [ev]; exact Le.refl
  | .glb x t, m, sl => by simp only [ev]; exact Le.refl
  | .op1 o a, m, sl => by simp only [ev]; exact (ev_le a .o sl).bind fun _ => Le.refl
  | .op2 o a b, m, sl => by
    simp only [ev]
    exact (ev_le a .o sl).bind fun r => (Le.ite ((ev_le b .o _).bind fun _ => Le.refl) (ev_le b .o _)).bind fun _ => Le.refl
  | .idx a b, m, sl => by
    simp only [ev]
    exact (ev_le a .o sl).bind fun r => (Le.ite ((ev_le b .o _).bind fun _ => Le.refl) (ev_le b .o _)).bind fun _ => Le.refl
  | .slc a b d, m, sl => by simp only [ev]; exact (ev_le a .o sl).bind fun r => (ev_le b .o _).bind fun x => (ev_le d .o _).bind fun y => Le.refl
  | .bad, m, sl => by simp only [ev]; exact Le.refl
  | .frzp e pl, m, sl => by
    cases m <;> simp only [ev]
    · exact ev_le e .o sl
    · exact (ev_le e .o sl).bind fun r => Le.ite Le.refl ((plc_le pl sl).bind fun _ => Le.refl)
    · exact ev_le e .t sl
  | .dnew, m, sl => by simp only [ev]; exact Le.refl
  | .dsp es, m, sl => by simp only [ev]; exact (evL_le es sl).bind fun _ => Le.refl
  | .dget a b, m, sl => by
    simp only [ev]
    exact (ev_le a .o sl).bind fun r => (Le.ite ((ev_le b .o _).bind fun _ => Le.refl) (ev_le b .o _)).bind fun _ => Le.refl
  | .dget2 a b x, m, sl => by
    simp only [ev]
    exact (ev_le a .o sl).bind fun r => (ev_le b .o _).bind fun r2 => Le.ite ((ev_le x .e _).bind fun _ => Le.refl) Le.refl
  | .dc own g it d k e, m, sl => by
    simp only [ev]
    refine (evI_le it sl).bind fun r => Le.ite (Le.bind ?_ fun _ => Le.refl) Le.refl
    have e0 : setG ⟨c, mt, fd⟩ g = setG ⟨c', mt, fd⟩ g := by funext t sl; exact setG_fd
    rw [e0]
    exact dcGo_le (fun sl => ev_le d .t sl) (fun sl => ev_le k .e sl) fun sl => ev_le e .e sl
  | .fld a f, m, sl => by simp only [ev]; exact (ev_le a .o sl).bind fun _ => Le.refl
  | .nt a, m, sl => by
    cases m <;> simp only [ev]
    · exact (ev_le a .o sl).bind fun _ => Le.refl
    · exact (ev_le a .o sl).bind fun _ => Le.refl
    · exact (ev_le a .t sl).bind fun _ => Le.refl
  | .an a b, m, sl => by
    cases m <;> simp only [ev]
    · exact (ev_le a .e sl).bind fun r => Le.refl.bind fun k => Le.ite (ev_le b .e _) Le.refl
    · exact (ev_le a .e sl).bind fun r => Le.refl.bind fun k => Le.ite (ev_le b .e _) Le.refl
    · refine (ev_le a .t sl).bind fun r => ?_
      obtain ⟨t, s⟩ := r
      cases t <;> first | exact Le.refl | skip
      rename_i k
      cases k <;> first | exact Le.refl | exact ev_le b .t s
  | .orr a b, m, sl => by
    cases m <;> simp only [ev]
    · exact (ev_le a .e sl).bind fun r => Le.refl.bind fun k => Le.ite Le.refl (ev_le b .e _)
    · exact (ev_le a .e sl).bind fun r => Le.refl.bind fun k => Le.ite Le.refl (ev_le b .e _)
    · refine (ev_le a .t sl).bind fun r => ?_
      obtain ⟨t, s⟩ := r
      cases t <;> first | exact Le.refl | skip
      rename_i k
      cases k <;> first | exact Le.refl | exact ev_le b .t s
  | .ite d a b, m, sl => by
    have main : Le ((ev ⟨c, mt, fd⟩ .t d sl).bind fun r => match r.1 with
        | .bl true => ev ⟨c, mt, fd⟩ .e a r.2
        | .bl false => ev ⟨c, mt, fd⟩ .e b r.2
        | _ => none) ((ev ⟨c', mt, fd⟩ .t d sl).bind fun r => match r.1 with
        | .bl true => ev ⟨c', mt, fd⟩ .e a r.2
        | .bl false => ev ⟨c', mt, fd⟩ .e b r.2
        | _ => none) := by
      refine (ev_le d .t sl).bind fun r => ?_
      obtain ⟨t, s⟩ := r
      cases t <;> first | exact Le.refl | skip
      rename_i k
      cases k
      · exact ev_le b .e s
      · exact ev_le a .e s
    cases m <;> simp only [ev]
    · exact main
    · exact main
    · exact Le.refl
  | .chn a d, m, sl => by simp only [ev]; exact (ev_le a .e sl).bind fun r => (evC_le d r.1 r.2).bind fun _ => Le.refl
  | .tup es, m, sl => by simp only [ev]; exact (evL_le es sl).bind fun _ => Le.refl
  | .lst es, m, sl => by simp only [ev]; exact (evL_le es sl).bind fun _ => Le.refl
  | .call f es, m, sl => by simp only [ev]; exact (evA_le es sl).bind fun r => (H f r.1).bind fun _ => Le.refl
  | .mk d f es, m, sl => by simp only [ev]; exact (evA_le es sl).bind fun r => (H f _).bind fun _ => Le.refl
  | .meth i q es, m, sl => by
    simp only [ev]
    refine Le.refl.bind fun t0 => ?_
    cases t0 <;> first | exact Le.refl | skip
    refine Le.ite Le.refl (Le.refl.bind fun f => (evA_le es sl).bind fun r => Le.refl.bind fun t => Le.ite ((H f _).bind fun _ => Le.refl) ((H f _).bind fun _ => Le.refl))
  | .mut i q es, m, sl => by simp only [ev]; exact Le.refl.bind fun t0 => Le.ite ((evL_le es sl).bind fun _ => Le.refl) Le.refl
  | .mutp a q es, m, sl => by simp only [ev]; exact (plc_le a sl).bind fun y => Le.ite ((evBs_le es sl).bind fun _ => Le.refl) Le.refl
  | .lc own g it d e, m, sl => by
    simp only [ev]
    refine (evI_le it sl).bind fun r => Le.ite (Le.bind ?_ fun _ => Le.refl) Le.refl
    have e0 : setG ⟨c, mt, fd⟩ g = setG ⟨c', mt, fd⟩ g := by funext t sl; exact setG_fd
    rw [e0]
    exact lcGo_le (fun sl => ev_le d .t sl) fun sl => ev_le e .e sl
theorem evC_le : ∀ (d : Ch) (t : T) (sl : SL), Le (evC ⟨c, mt, fd⟩ t d sl) (evC ⟨c', mt, fd⟩ t d sl)
  | .last o e, t, sl => by simp only [evC]; exact (ev_le e .e sl).bind fun _ => Le.refl
  | .more o e d, t, sl => by
    simp only [evC]
    refine (ev_le e .e sl).bind fun r => Le.refl.bind fun z => ?_
    cases z <;> first | exact Le.refl | skip
    rename_i k
    cases k <;> first | exact Le.refl | exact evC_le d _ _
theorem evL_le : ∀ (es : Es) (sl : SL), Le (evL ⟨c, mt, fd⟩ es sl) (evL ⟨c', mt, fd⟩ es sl)
  | .nil, sl => by simp only [evL]; exact Le.refl
  | .cons e es, sl => by simp only [evL]; exact (ev_le e .e sl).bind fun r => (evL_le es r.2).bind fun _ => Le.refl
theorem evBs_le : ∀ (es : Es) (sl : SL), Le (evBs ⟨c, mt, fd⟩ es sl) (evBs ⟨c', mt, fd⟩ es sl)
  | .nil, sl => by simp only [evBs]; exact Le.refl
  | .cons e es, sl => by simp only [evBs]; exact (bor2_le fun sl => ev_le e .e sl).bind fun r => (evBs_le es sl).bind fun _ => Le.refl
theorem evA_le : ∀ (es : Es) (sl : SL), Le (evA ⟨c, mt, fd⟩ es sl) (evA ⟨c', mt, fd⟩ es sl)
  | .nil, sl => by simp only [evA]; exact Le.refl
  | .cons e es, sl => by
    by_cases hv : isVar e = true
    · cases e <;> first | (cases hv; done) | skip
      simp only [evA]
      exact Le.refl.bind fun t => Le.ite ((evA_le es _).bind fun _ => Le.refl) ((evA_le es _).bind fun _ => Le.refl)
    · have hv : isVar e = false := by simpa using hv
      rw [evA_gen hv, evA_gen hv]
      exact (ev_le e .e sl).bind fun r => (evA_le es r.2).bind fun _ => Le.refl
theorem plc_le : ∀ (e : E) (sl : SL), Le (plc ⟨c, mt, fd⟩ e sl) (plc ⟨c', mt, fd⟩ e sl)
  | .var i, sl => by simp only [plc]; exact Le.refl
  | .fld a f, sl => by simp only [plc]; exact (plc_le a sl).bind fun _ => Le.refl
  | .idx a b, sl => by simp only [plc]; exact (plc_le a sl).bind fun z => (ev_le b .o _).bind fun _ => Le.refl
  | .mov _, sl => by simp only [plc]; exact Le.refl
  | .cst _, sl => by simp only [plc]; exact Le.refl
  | .glb _ _, sl => by simp only [plc]; exact Le.refl
  | .op1 _ _, sl => by simp only [plc]; exact Le.refl
  | .op2 _ _ _, sl => by simp only [plc]; exact Le.refl
  | .slc _ _ _, sl => by simp only [plc]; exact Le.refl
  | .bad, sl => by simp only [plc]; exact Le.refl
  | .frzp _ _, sl => by simp only [plc]; exact Le.refl
  | .dnew, sl => by simp only [plc]; exact Le.refl
  | .dsp _, sl => by simp only [plc]; exact Le.refl
  | .dget _ _, sl => by simp only [plc]; exact Le.refl
  | .dget2 _ _ _, sl => by simp only [plc]; exact Le.refl
  | .dc _ _ _ _ _ _, sl => by simp only [plc]; exact Le.refl
  | .nt _, sl => by simp only [plc]; exact Le.refl
  | .an _ _, sl => by simp only [plc]; exact Le.refl
  | .orr _ _, sl => by simp only [plc]; exact Le.refl
  | .ite _ _ _, sl => by simp only [plc]; exact Le.refl
  | .chn _ _, sl => by simp only [plc]; exact Le.refl
  | .tup _, sl => by simp only [plc]; exact Le.refl
  | .lst _, sl => by simp only [plc]; exact Le.refl
  | .call _ _, sl => by simp only [plc]; exact Le.refl
  | .mk _ _ _, sl => by simp only [plc]; exact Le.refl
  | .meth _ _ _, sl => by simp only [plc]; exact Le.refl
  | .mut _ _ _, sl => by simp only [plc]; exact Le.refl
  | .mutp _ _ _, sl => by simp only [plc]; exact Le.refl
  | .lc _ _ _ _ _, sl => by simp only [plc]; exact Le.refl
theorem evI_le : ∀ (it : Pv.It) (sl : SL), Le (evI ⟨c, mt, fd⟩ it sl) (evI ⟨c', mt, fd⟩ it sl)
  | .seq e, sl => by simp only [evI]; exact (ev_le e .e sl).bind fun _ => Le.refl
  | .rng1 a, sl => by simp only [evI]; exact (ev_le a .e sl).bind fun _ => Le.refl
  | .rng2 a b, sl => by simp only [evI]; exact (ev_le a .e sl).bind fun r => (ev_le b .e r.2).bind fun _ => Le.refl
  | .rng3 a b d, sl => by simp only [evI]; exact (ev_le a .e sl).bind fun r => (ev_le b .e r.2).bind fun r2 => (ev_le d .e r2.2).bind fun _ => Le.refl
  | .enum e, sl => by simp only [evI]; exact (ev_le e .e sl).bind fun _ => Le.refl
  | .zip a b, sl => by simp only [evI]; exact (ev_le a .e sl).bind fun r => (ev_le b .e r.2).bind fun _ => Le.refl
  | .rev e, sl => by simp only [evI]; exact (ev_le e .e sl).bind fun _ => Le.refl
  | .var i, sl => by simp only [evI]; exact Le.refl
  | .vals e, sl => by simp only [evI]; exact (ev_le e .e sl).bind fun _ => Le.refl
  | .itms e, sl => by simp only [evI]; exact (ev_le e .e sl).bind fun _ => Le.refl
  | .valsv i, sl => by simp only [evI]; exact Le.refl
  | .itmsv i, sl => by simp only [evI]; exact Le.refl
  | .bad, sl => by simp only [evI]; exact Le.refl
end
omit H in
theorem whlGo_le {d d' : SL → Option (T × SL)} {b b' : SL → Out} (hd : ∀ sl, Le (d sl) (d' sl)) (hb : ∀ sl, Le (b sl) (b' sl)) : ∀ (n : Nat) (sl : SL), Le (whlGo d b n sl) (whlGo d' b' n sl)
  | 0, _ => Le.refl
  | n + 1, sl => by
    unfold whlGo
    refine (hd sl).bind fun r => ?_
    obtain ⟨t, s⟩ := r
    cases t <;> first | exact Le.refl | skip
    rename_i k
    cases k with
    | false => exact Le.refl
    | true =>
      refine (hb s).bind fun z => ?_
      obtain ⟨fl, s2⟩ := z
      cases fl <;> first | exact Le.refl | exact whlGo_le hd hb n s2
omit H in
theorem forGo_le {set : T → SL → Option SL} {b b' : SL → Out} (hb : ∀ sl, Le (b sl) (b' sl)) : ∀ (xs : List T) (sl : SL), Le (forGo set b xs sl) (forGo set b' xs sl)
  | [], _ => Le.refl
  | x :: xs, sl => by
    unfold forGo
    refine Le.refl.bind fun s => (hb s).bind fun z => ?_
    obtain ⟨fl, s2⟩ := z
    cases fl <;> first | exact Le.refl | exact forGo_le hb xs s2
mutual
theorem evS_le : ∀ (s : S) (sl : SL), Le (evS ⟨c, mt, fd⟩ s sl) (evS ⟨c', mt, fd⟩ s sl)
  | .asg g e, sl => by
    simp only [evS]
    refine (ev_le H e .e sl).bind fun r => ?_
    rw [setG_fd (c := c) (c' := c')]
    exact Le.refl
  | .par is es, sl => by simp only [evS]; exact (evL_le H es sl).bind fun _ => Le.refl
  | .aug i o e, sl => by simp only [evS]; exact Le.refl.bind fun t => (ev_le H e .e sl).bind fun _ => Le.refl
  | .faug r f o e, sl => by
    simp only [evS]
    refine Le.refl.bind fun t => ?_
    cases t <;> first | exact Le.refl | skip
    rename_i ob _ _ _
    cases ob <;> first | exact Le.refl | skip
    exact Le.bind Le.refl fun x => (ev_le H e .o _).bind fun _ => Le.refl
  | .pst pl k e, sl => by simp only [evS]; exact (ev_le H e .e sl).bind fun z => (plc_le H pl z.2).bind fun y => (ev_le H k .o _).bind fun _ => Le.refl
  | .paug pl k o e, sl => by
    simp only [evS]
    refine (plc_le H pl sl).bind fun y => (ev_le H k .o _).bind fun zk => ?_
    obtain ⟨t, pt⟩ := y
    obtain ⟨t2, s2⟩ := zk
    cases t <;> first | exact Le.refl | skip
    rename_i ob _
    cases ob <;> first | exact Le.refl | skip
    cases t2 <;> first | exact Le.refl | skip
    exact Le.bind Le.refl fun j => Le.bind Le.refl fun x => (ev_le H e .o _).bind fun _ => Le.refl
  | .exp e, sl => by simp only [evS]; exact (ev_le H e .e sl).bind fun _ => Le.refl
  | .ret e, sl => by simp only [evS]; exact (ev_le H e .e sl).bind fun _ => Le.refl
  | .retn, sl => by simp only [evS]; exact Le.refl
  | .pass, sl => by simp only [evS]; exact Le.refl
  | .bad, sl => by simp only [evS]; exact Le.refl
  | .brk, sl => by simp only [evS]; exact Le.refl
  | .cnt, sl => by simp only [evS]; exact Le.refl
  | .iff d a b, sl => by
    simp only [evS]
    refine (ev_le H d .t sl).bind fun r => ?_
    obtain ⟨t, s⟩ := r
    cases t <;> first | exact Le.refl | skip
    rename_i k
    cases k
    · exact evSs_le b s
    · exact evSs_le a s
  | .whl d a, sl => by simp only [evS]; exact whlGo_le (fun sl => ev_le H d .t sl) (fun sl => evSs_le a sl) _ _
  | .forr g it a, sl => by
    simp only [evS]
    refine (evI_le H it sl).bind fun r => ?_
    have e0 : setG ⟨c, mt, fd⟩ g = setG ⟨c', mt, fd⟩ g := by funext t sl; exact setG_fd
    rw [e0]
    exact forGo_le (fun sl => evSs_le a sl) _ _
theorem evSs_le : ∀ (ss : Ss) (sl : SL), Le (evSs ⟨c, mt, fd⟩ ss sl) (evSs ⟨c', mt, fd⟩ ss sl)
  | .nil, sl => by simp only [evSs]; exact Le.refl
  | .cons s ss, sl => by
    simp only [evSs]
    refine (evS_le s sl).bind fun z => ?_
    obtain ⟨fl, s2⟩ := z
    cases fl <;> first | exact Le.refl | exact evSs_le ss s2
end
theorem runF_le {f : Fn} {ts : List T} : Le (runF ⟨c, mt, fd⟩ f ts) (runF ⟨c', mt, fd⟩ f ts) := by
  unfold runF
  exact Le.ite ((evSs_le H f.body _).bind fun _ => Le.refl) Le.refl
end
/-- more calls deep -/
theorem callF_le {R : Prg} : ∀ {n : Nat} {f : Nat} {ts : List T}, Le (callF R n f ts) (callF R (n + 1) f ts)
  | 0, _, _ => Le.none
  | n + 1, f, ts => Le.refl.bind fun fn => runF_le fun f ts => callF_le
theorem callF_add {R : Prg} {n : Nat} {f : Nat} {ts : List T} : ∀ k, Le (callF R n f ts) (callF R (n + k) f ts)
  | 0 => Le.refl
  | k + 1 => fun r h => callF_le r (callF_add k r h)
theorem callF_mono {R : Prg} {n m : Nat} (h : n ≤ m) {f : Nat} {ts : List T} : Le (callF R n f ts) (callF R m f ts) := by
  obtain ⟨k, rfl⟩ := Nat.exists_eq_add_of_le h
  exact callF_add k
/-- a call by what is known of the calls in it -/
theorem call_by {R : Prg} {C : CF} {n f : Nat} {fn : Fn} {ts : List T} {r : T × List T} (hf : R.fns[f]? = some fn) (hC : ∀ f ts, Le (C f ts) (callF R n f ts)) (h : runF ⟨C, fun c m => R.mt.lookup (c, m), fun c f => R.fd.contains (c, f)⟩ fn ts = some r) : callF R (n + 1) f ts = some r := by
  show ((R.fns[f]?).bind fun fn => runF ⟨callF R n, fun c m => R.mt.lookup (c, m), fun c f => R.fd.contains (c, f)⟩ fn ts) = some r
  rw [hf]
  exact runF_le hC r h
end Pv

/-! Running by simp. -/
namespace Pv
open PySem
section
variable {P : Pg} {sl : SL} {i j : Int} {a b : Bool} {t u : T} {n : Nat}
@[simp] theorem look_hole : look (.hole :: sl) 0 = none := rfl
@[simp] theorem look_non : look (.non :: sl) 0 = some .non := rfl
@[simp] theorem look_bl : look (.bl a :: sl) 0 = some (.bl a) := rfl
@[simp] theorem look_int : look (.int i :: sl) 0 = some (.int i) := rfl
@[simp] theorem look_str {x : Str} : look (.str x :: sl) 0 = some (.str x) := rfl
@[simp] theorem look_tup {ts : List T} : look (.tup ts :: sl) 0 = some (.tup ts) := rfl
@[simp] theorem look_lst {o : Bool} {ts : List T} : look (.lst o ts :: sl) 0 = some (.lst o ts) := rfl
@[simp] theorem look_ins {o : Bool} {c : Str} {ns : List Str} {ts : List T} : look (.ins o c ns ts :: sl) 0 = some (.ins o c ns ts) := rfl
@[simp] theorem look_dct {o : Dw} {k : Bool} {ks : List (List L2.Key)} {ts : List T} : look (.dct o k ks ts :: sl) 0 = some (.dct o k ks ts) := rfl
@[simp] theorem look_suc : look (t :: sl) (n + 1) = look sl n := rfl
theorem look_of (h : isHole t = false) : look (t :: sl) 0 = some t := by cases t <;> first | rfl | cases h
@[simp] theorem fin_o {p : Bool} : fin .o p t sl = some (t, sl) := rfl
@[simp] theorem fin_e : fin .e false t sl = some (t, sl) := rfl
@[simp] theorem fin_ep (h : isF t = true) : fin .e true t sl = some (t, sl) := by unfold fin; simp [h]
@[simp] theorem fin_ep_int : fin .e true (.int i) sl = some (.int i, sl) := rfl
@[simp] theorem fin_ep_bl : fin .e true (.bl a) sl = some (.bl a, sl) := rfl
@[simp] theorem fin_ep_str {x : Str} : fin .e true (.str x) sl = some (.str x, sl) := rfl
@[simp] theorem fin_ep_non : fin .e true .non sl = some (.non, sl) := rfl
@[simp] theorem fin_t_bl {p : Bool} : fin .t p (.bl a) sl = some (.bl a, sl) := rfl
@[simp] theorem fin_t_int {p : Bool} : fin .t p (.int i) sl = some (.bl (i != 0), sl) := rfl
@[simp] theorem op2_add : op2 .add (.int i) (.int j) = some (.int (i + j)) := rfl
@[simp] theorem op2_sub : op2 .sub (.int i) (.int j) = some (.int (i - j)) := rfl
theorem op2_mul (h : mulOk i j = true) : op2 .mul (.int i) (.int j) = some (.int (i * j)) := if_pos h
theorem op2_fdiv (h : 0 < j) (h2 : j.natAbs.log2 < 9000) : op2 .fdiv (.int i) (.int j) = some (.int (i / j)) := if_pos (by simp [h, h2])
theorem op2_mod (h : 0 < j) : op2 .mod (.int i) (.int j) = some (.int (i % j)) := if_pos (by simp [h])
@[simp] theorem op2_lt : op2 .lt (.int i) (.int j) = some (.bl (decide (i < j))) := rfl
@[simp] theorem op2_le : op2 .le (.int i) (.int j) = some (.bl (decide (i ≤ j))) := rfl
@[simp] theorem op2_gt : op2 .gt (.int i) (.int j) = some (.bl (decide (j < i))) := rfl
@[simp] theorem op2_ge : op2 .ge (.int i) (.int j) = some (.bl (decide (j ≤ i))) := rfl
@[simp] theorem op2_min : op2 .min2 (.int i) (.int j) = some (.int (if j < i then j else i)) := rfl
@[simp] theorem op2_max : op2 .max2 (.int i) (.int j) = some (.int (if j > i then j else i)) := rfl
@[simp] theorem op2_gcd : op2 .gcd (.int i) (.int j) = some (.int ((Nat.gcd i.natAbs j.natAbs : Nat) : Int)) := rfl
@[simp] theorem op2_eqT : op2 .eq t u = (eqT t u).map .bl := by cases t <;> rfl
@[simp] theorem op2_neT : op2 .ne t u = (eqT t u).map fun b => .bl (!b) := by cases t <;> rfl
@[simp] theorem op2_isN : op2 .isS t .non = (isNon t).map .bl := by cases t <;> rfl
@[simp] theorem op2_notN : op2 .notS t .non = (isNon t).map fun b => .bl (!b) := by cases t <;> rfl
@[simp] theorem op2_isB : op2 .isS (.bl a) (.bl b) = some (.bl (decide (a = b))) := rfl
theorem op2_comb (h1 : 0 ≤ i) (h2 : 0 ≤ j) (h3 : i ≤ 18000) : op2 .comb (.int i) (.int j) = some (.int (PySem.W.mcComb i j)) := if_pos (by simp [h1, h2, h3])
theorem op2_pow (h1 : 0 ≤ j) (h2 : j ≤ 1000000) (h3 : i.natAbs < 2 ^ 64) : op2 .pow (.int i) (.int j) = some (.int (i ^ j.toNat)) := if_pos (by simp [h1, h2]; exact h3)
@[simp] theorem iop_add : iop .add (.int i) (.int j) = some (.int (i + j)) := rfl
@[simp] theorem iop_sub : iop .sub (.int i) (.int j) = some (.int (i - j)) := rfl
@[simp] theorem op1_neg : op1 .neg (.int i) = some (.int (-i)) := rfl
@[simp] theorem op1_abs : op1 .abs (.int i) = some (.int (if i < 0 then -i else i)) := rfl
@[simp] theorem op1_int : op1 .int (.int i) = some (.int i) := rfl
@[simp] theorem op1_intb : op1 .int (.bl a) = some (.int (if a then 1 else 0)) := rfl
@[simp] theorem op1_len {o : Bool} {ts : List T} : op1 .len (.lst o ts) = some (.int ts.length) := rfl
@[simp] theorem op1_lent {ts : List T} : op1 .len (.tup ts) = some (.int ts.length) := rfl
theorem op1_list {o : Bool} {ts : List T} (h : isFs ts = true) : op1 .list (.lst o ts) = some (.lst true ts) := if_pos h
theorem op1_listt {ts : List T} (h : isFs ts = true) : op1 .list (.tup ts) = some (.lst true ts) := if_pos h
@[simp] theorem eqT_int : eqT (.int i) (.int j) = some (decide (i = j)) := by
  unfold eqT pd
  simp only [SeqAt.shaped, Bool.and_self, if_true]
  rfl
@[simp] theorem eqT_bl : eqT (.bl a) (.bl b) = some (decide (a = b)) := by
  cases a <;> cases b <;> rfl
@[simp] theorem tru_int : tru (.int i) = some (i != 0) := rfl
@[simp] theorem tru_bl : tru (.bl a) = some a := rfl
@[simp] theorem frz_int : frz (.int i) = .int i := by simp only [frz]
@[simp] theorem frz_bl : frz (.bl a) = .bl a := by simp only [frz]
@[simp] theorem frz_str {x : Str} : frz (.str x) = .str x := by simp only [frz]
@[simp] theorem frz_non : frz .non = .non := by simp only [frz]
@[simp] theorem frz_hole : frz .hole = .hole := by simp only [frz]
@[simp] theorem frz_tup {ts : List T} : frz (.tup ts) = .tup (frzs ts) := by simp only [frz]
@[simp] theorem frz_lst {o : Bool} {ts : List T} : frz (.lst o ts) = .lst false (frzs ts) := by simp only [frz]
@[simp] theorem frzs_nil : frzs [] = [] := by simp only [frzs]
@[simp] theorem frzs_cons {ts : List T} : frzs (t :: ts) = frz t :: frzs ts := by simp only [frzs]
@[simp] theorem isF_int : isF (.int i) = true := by simp only [isF]
@[simp] theorem isF_bl : isF (.bl a) = true := by simp only [isF]
@[simp] theorem isF_str {x : Str} : isF (.str x) = true := by simp only [isF]
@[simp] theorem isF_non : isF .non = true := by simp only [isF]
@[simp] theorem isF_hole : isF .hole = false := by simp only [isF]
@[simp] theorem isF_tup {ts : List T} : isF (.tup ts) = isFs ts := by simp only [isF]
@[simp] theorem isF_lst {o : Bool} {ts : List T} : isF (.lst o ts) = (!o && isFs ts) := by simp only [isF]
@[simp] theorem isF_ins {o : Bool} {c : Str} {ns : List Str} {ts : List T} : isF (.ins o c ns ts) = (!o && isFs ts) := by simp only [isF]
@[simp] theorem isFs_nil : isFs [] = true := by simp only [isFs]
@[simp] theorem isFs_cons {ts : List T} : isFs (t :: ts) = (isF t && isFs ts) := by simp only [isFs]
@[simp] theorem frz_ins {o : Bool} {c : Str} {ns : List Str} {ts : List T} : frz (.ins o c ns ts) = .ins false c ns (frzs ts) := by simp only [frz]
@[simp] theorem isHole_hole : isHole .hole = true := rfl
@[simp] theorem pgOf_cf {R : Prg} : (pgOf R n).cf = callF R n := rfl
@[simp] theorem pgOf_mt {R : Prg} {c m : Str} : (pgOf R n).mt c m = R.mt.lookup (c, m) := rfl
@[simp] theorem isF_dct {o : Dw} {k : Bool} {ks : List (List L2.Key)} {ts : List T} : isF (.dct o k ks ts) = (o.fr && isFs ts) := by simp only [isF]
@[simp] theorem frz_dct {o : Dw} {k : Bool} {ks : List (List L2.Key)} {ts : List T} : frz (.dct o k ks ts) = .dct o.fz k ks (frzs ts) := by simp only [frz]
@[simp] theorem fr_own : Dw.own.fr = false := rfl
@[simp] theorem fr_frz : Dw.frz.fr = true := rfl
@[simp] theorem fr_lok : Dw.lok.fr = true := rfl
@[simp] theorem fz_own : Dw.own.fz = .frz := rfl
@[simp] theorem fz_frz : Dw.frz.fz = .frz := rfl
@[simp] theorem fz_lok : Dw.lok.fz = .lok := rfl
@[simp] theorem keyT_int : keyT (.int i) = some (.inl i) := rfl
@[simp] theorem keyT_str {x : Str} : keyT (.str x) = some (.inr x) := rfl
@[simp] theorem flT_str {x : Str} : flT (.str x) = some (.str x) := rfl
@[simp] theorem flT_int : flT (.int i) = some (.int i) := rfl
@[simp] theorem op2_addS {x y : Str} (h : x.length + y.length ≤ sizeLine) : op2 .add (.str x) (.str y) = some (.str (x ++ y)) := if_pos h
theorem okN_of (h : n < 10000000) : okN n = true := decide_eq_true h
theorem mulOk_tiny (h : i.natAbs < 2 ^ 59) : mulOk i j = true := by
  have : i.natAbs.log2 < 60 := by
    by_cases z : i.natAbs = 0
    · rw [z]; decide
    · exact Nat.lt_of_lt_of_le ((Nat.log2_lt z).mpr h) (by decide)
  simp [mulOk, tinyI, this]
theorem log2_of (h : i.natAbs < 2 ^ 59) : i.natAbs.log2 < 9000 := by
  by_cases z : i.natAbs = 0
  · rw [z]; decide
  · exact Nat.lt_of_lt_of_le ((Nat.log2_lt z).mpr h) (by decide)
end
/-- one call opened -/
theorem callF_open {R : Prg} {n f : Nat} {fn : Fn} {ts : List T} (h : R.fns[f]? = some fn) : callF R (n + 1) f ts = runF (pgOf R n) fn ts := by
  show ((R.fns[f]?).bind fun fn => runF _ fn ts) = _
  rw [h]; rfl
end Pv

/-! Loops, run by an invariant. -/
namespace Pv
open PySem
/-- a while: I by a measure, Q at its end -/
theorem whlGo_inv {c : SL → Option (T × SL)} {b : SL → Out} (I : Nat → SL → Prop) (Q : Fl → SL → Prop)
    (h : ∀ m sl, I m sl → ∃ k sl1, c sl = some (.bl k, sl1) ∧ (k = false → Q .nx sl1) ∧ (k = true → ∃ fl sl2, b sl1 = some (fl, sl2) ∧ (match fl with
      | .nx => ∃ m', m' < m ∧ I m' sl2
      | .ct => ∃ m', m' < m ∧ I m' sl2
      | .bk => Q .nx sl2
      | .rt t => Q (.rt t) sl2))) : ∀ (n m : Nat) (sl : SL), m < n → I m sl → ∃ fl sl', whlGo c b n sl = some (fl, sl') ∧ Q fl sl'
  | 0, _, _, h0, _ => absurd h0 (Nat.not_lt_zero _)
  | n + 1, m, sl, hm, i => by
    obtain ⟨k, sl1, e1, h1, h2⟩ := h m sl i
    cases k with
    | false => exact ⟨.nx, sl1, by unfold whlGo; rw [e1]; rfl, h1 rfl⟩
    | true =>
      obtain ⟨fl, sl2, e2, h3⟩ := h2 rfl
      cases fl with
      | nx =>
        obtain ⟨m', hm', i'⟩ := h3
        obtain ⟨fl, sl', e3, q⟩ := whlGo_inv I Q h n m' sl2 (by omega) i'
        exact ⟨fl, sl', by unfold whlGo; rw [e1]; show ((b sl1).bind _) = _; rw [e2]; exact e3, q⟩
      | ct =>
        obtain ⟨m', hm', i'⟩ := h3
        obtain ⟨fl, sl', e3, q⟩ := whlGo_inv I Q h n m' sl2 (by omega) i'
        exact ⟨fl, sl', by unfold whlGo; rw [e1]; show ((b sl1).bind _) = _; rw [e2]; exact e3, q⟩
      | bk => exact ⟨.nx, sl2, by unfold whlGo; rw [e1]; show ((b sl1).bind _) = _; rw [e2]; rfl, h3⟩
      | rt t => exact ⟨.rt t, sl2, by unfold whlGo; rw [e1]; show ((b sl1).bind _) = _; rw [e2]; rfl, h3⟩
/-- a for: I by the turn -/
theorem forGo_inv {set : T → SL → Option SL} {b : SL → Out} (I : List T → SL → Prop) (Q : Fl → SL → Prop)
    (h : ∀ x xs sl, I (x :: xs) sl → ∃ sl1 fl sl2, set x sl = some sl1 ∧ b sl1 = some (fl, sl2) ∧ (match fl with
      | .nx => I xs sl2
      | .ct => I xs sl2
      | .bk => Q .nx sl2
      | .rt t => Q (.rt t) sl2)) (h0 : ∀ sl, I [] sl → Q .nx sl) : ∀ (xs : List T) (sl : SL), I xs sl → ∃ fl sl', forGo set b xs sl = some (fl, sl') ∧ Q fl sl'
  | [], sl, i => ⟨.nx, sl, rfl, h0 sl i⟩
  | x :: xs, sl, i => by
    obtain ⟨sl1, fl, sl2, e1, e2, h3⟩ := h x xs sl i
    cases fl with
    | nx =>
      obtain ⟨fl, sl', e3, q⟩ := forGo_inv I Q h h0 xs sl2 h3
      exact ⟨fl, sl', by unfold forGo; rw [e1]; show ((b sl1).bind _) = _; rw [e2]; exact e3, q⟩
    | ct =>
      obtain ⟨fl, sl', e3, q⟩ := forGo_inv I Q h h0 xs sl2 h3
      exact ⟨fl, sl', by unfold forGo; rw [e1]; show ((b sl1).bind _) = _; rw [e2]; exact e3, q⟩
    | bk => exact ⟨.nx, sl2, by unfold forGo; rw [e1]; show ((b sl1).bind _) = _; rw [e2]; rfl, h3⟩
    | rt t => exact ⟨.rt t, sl2, by unfold forGo; rw [e1]; show ((b sl1).bind _) = _; rw [e2]; rfl, h3⟩
/-- a for that folds: S the slots by what is reckoned and by what the loop's names hold -/
theorem forGo_fold {α β : Type} {set : T → SL → Option SL} {b : SL → Out} {S : α → T → SL} {f : α → β → α} {v : β → T} (ok : α → List β → Prop) (hs : ∀ a t x, set x (S a t) = some (S a x))
    (h : ∀ a x xs, ok a (x :: xs) → b (S a (v x)) = some (.nx, S (f a x) (v x)) ∧ ok (f a x) xs) : ∀ (xs : List β) (a : α) (t : T), ok a xs → ∃ t', forGo set b (xs.map v) (S a t) = some (.nx, S (xs.foldl f a) t')
  | [], a, t, _ => ⟨t, rfl⟩
  | x :: xs, a, t, i => by
    obtain ⟨e1, i'⟩ := h a x xs i
    obtain ⟨t', e2⟩ := forGo_fold ok hs h xs (f a x) (v x) i'
    exact ⟨t', by
      show forGo set b (v x :: xs.map v) (S a t) = _
      unfold forGo
      rw [hs]
      show ((b (S a (v x))).bind _) = _
      rw [e1]
      exact e2⟩
/-- a comprehension that maps -/
theorem lcGo_map {β : Type} {set : T → SL → Option SL} {c e : SL → Option (T × SL)} {wp : SL → SL} {s0 : SL} {v w : β → T} (h : ∀ x : β, ∃ s1 s2 s3, set (v x) s0 = some s1 ∧ c s1 = some (.bl true, s2) ∧ e s2 = some (w x, s3) ∧ wp s3 = s0) :
    ∀ (xs : List β) (sl : SL) (acc : List T), wp sl = s0 → acc.length + xs.length < 10000000 → ∃ s', lcGo set c e wp (xs.map v) sl acc = some (acc ++ xs.map w, s') ∧ wp s' = s0
  | [], sl, acc, hs, _ => ⟨sl, by simp [lcGo], hs⟩
  | x :: xs, sl, acc, hs, hl => by
    obtain ⟨s1, s2, s3, e1, e2, e3, e4⟩ := h x
    obtain ⟨s', e5, e6⟩ := lcGo_map h xs s3 (acc ++ [w x]) e4 (by simp at hl ⊢; omega)
    refine ⟨s', ?_, e6⟩
    show lcGo set c e wp (v x :: xs.map v) sl acc = _
    unfold lcGo
    rw [hs, e1]
    show ((c s1).bind _) = _
    rw [e2]
    show ((e s2).bind _) = _
    rw [e3]
    show (if okN acc.length then lcGo set c e wp (xs.map v) s3 (acc ++ [w x]) else none) = _
    rw [if_pos (okN_of (by simp at hl; omega)), e5]
    simp
/-- .. of those x alone that may come -/
theorem lcGo_mapM {β : Type} {set : T → SL → Option SL} {c e : SL → Option (T × SL)} {wp : SL → SL} {s0 : SL} {v w : β → T} : ∀ (xs : List β) (sl : SL) (acc : List T), (∀ x ∈ xs, ∃ s1 s2 s3, set (v x) s0 = some s1 ∧ c s1 = some (.bl true, s2) ∧ e s2 = some (w x, s3) ∧ wp s3 = s0) →
    wp sl = s0 → acc.length + xs.length < 10000000 → ∃ s', lcGo set c e wp (xs.map v) sl acc = some (acc ++ xs.map w, s') ∧ wp s' = s0
  | [], sl, acc, _, hs, _ => ⟨sl, by simp [lcGo], hs⟩
  | x :: xs, sl, acc, h, hs, hl => by
    obtain ⟨s1, s2, s3, e1, e2, e3, e4⟩ := h x List.mem_cons_self
    obtain ⟨s', e5, e6⟩ := lcGo_mapM xs s3 (acc ++ [w x]) (fun y hy => h y (List.mem_cons_of_mem _ hy)) e4 (by simp at hl ⊢; omega)
    refine ⟨s', ?_, e6⟩
    show lcGo set c e wp (v x :: xs.map v) sl acc = _
    unfold lcGo
    rw [hs, e1]
    show ((c s1).bind _) = _
    rw [e2]
    show ((e s2).bind _) = _
    rw [e3]
    show (if okN acc.length then lcGo set c e wp (xs.map v) s3 (acc ++ [w x]) else none) = _
    rw [if_pos (okN_of (by simp at hl; omega)), e5]
    simp
theorem frzs_map {β : Type} {v : β → T} (h : ∀ x, frz (v x) = v x) : ∀ xs : List β, frzs (xs.map v) = xs.map v
  | [] => rfl
  | x :: xs => by
    show frz (v x) :: frzs (xs.map v) = _
    rw [h, frzs_map h xs]; rfl
theorem isFs_map {β : Type} {v : β → T} (h : ∀ x, isF (v x) = true) : ∀ xs : List β, isFs (xs.map v) = true
  | [] => rfl
  | x :: xs => by
    show (isF (v x) && isFs (xs.map v)) = true
    rw [h, isFs_map h xs]; rfl
end Pv

/-! Defs that many laws share, by the places of what they call. Printed by mk25.py. -/
namespace Pv
open PySem
def kFrac  : Fn := { np := 2, ns := 3, st := [0, 1], body := (Ss.cons (S.iff (E.op2 O2.eq (E.var 1) (E.cst (T.int (Int.ofNat 0)))) (Ss.cons S.bad Ss.nil) Ss.nil) (Ss.cons (S.iff (E.op2 O2.lt (E.var 1) (E.cst (T.int (Int.ofNat 0)))) (Ss.cons (S.par [0, 1] (Es.cons (E.op1 O1.neg (E.var 0)) (Es.cons (E.op1 O1.neg (E.var 1)) Es.nil))) Ss.nil) Ss.nil) (Ss.cons (S.asg (G.one (G0.nm 2)) (E.op2 O2.gcd (E.var 0) (E.var 1))) (Ss.cons (S.ret (E.tup (Es.cons (E.op2 O2.fdiv (E.var 0) (E.var 2)) (Es.cons (E.op2 O2.fdiv (E.var 1) (E.var 2)) Es.nil)))) Ss.nil)))) }
-- kFrac: 
def kAdd (i_fraction : Nat) : Fn := { np := 2, ns := 2, st := [], body := (Ss.cons (S.ret (E.call i_fraction (Es.cons (E.op2 O2.add (E.op2 O2.mul (E.idx (E.var 0) (E.cst (T.int (Int.ofNat 0)))) (E.idx (E.var 1) (E.cst (T.int (Int.ofNat 1))))) (E.op2 O2.mul (E.idx (E.var 1) (E.cst (T.int (Int.ofNat 0)))) (E.idx (E.var 0) (E.cst (T.int (Int.ofNat 1)))))) (Es.cons (E.op2 O2.mul (E.idx (E.var 0) (E.cst (T.int (Int.ofNat 1)))) (E.idx (E.var 1) (E.cst (T.int (Int.ofNat 1))))) Es.nil)))) Ss.nil) }
-- kAdd: fraction
def kMinus (i_fraction : Nat) : Fn := { np := 2, ns := 2, st := [], body := (Ss.cons (S.ret (E.call i_fraction (Es.cons (E.op2 O2.sub (E.op2 O2.mul (E.idx (E.var 0) (E.cst (T.int (Int.ofNat 0)))) (E.idx (E.var 1) (E.cst (T.int (Int.ofNat 1))))) (E.op2 O2.mul (E.idx (E.var 1) (E.cst (T.int (Int.ofNat 0)))) (E.idx (E.var 0) (E.cst (T.int (Int.ofNat 1)))))) (Es.cons (E.op2 O2.mul (E.idx (E.var 0) (E.cst (T.int (Int.ofNat 1)))) (E.idx (E.var 1) (E.cst (T.int (Int.ofNat 1))))) Es.nil)))) Ss.nil) }
-- kMinus: fraction
def kTimes (i_fraction : Nat) : Fn := { np := 2, ns := 2, st := [], body := (Ss.cons (S.ret (E.call i_fraction (Es.cons (E.op2 O2.mul (E.idx (E.var 0) (E.cst (T.int (Int.ofNat 0)))) (E.idx (E.var 1) (E.cst (T.int (Int.ofNat 0))))) (Es.cons (E.op2 O2.mul (E.idx (E.var 0) (E.cst (T.int (Int.ofNat 1)))) (E.idx (E.var 1) (E.cst (T.int (Int.ofNat 1))))) Es.nil)))) Ss.nil) }
-- kTimes: fraction
def kLess  : Fn := { np := 2, ns := 2, st := [], body := (Ss.cons (S.ret (E.op2 O2.lt (E.op2 O2.mul (E.idx (E.var 0) (E.cst (T.int (Int.ofNat 0)))) (E.idx (E.var 1) (E.cst (T.int (Int.ofNat 1))))) (E.op2 O2.mul (E.idx (E.var 1) (E.cst (T.int (Int.ofNat 0)))) (E.idx (E.var 0) (E.cst (T.int (Int.ofNat 1))))))) Ss.nil) }
-- kLess: 
def kTotal_0 (i_add : Nat) : Ss := (Ss.cons (S.asg (G.one (G0.nm 1)) (E.call i_add (Es.cons (E.var 1) (Es.cons (E.var 2) Es.nil)))) Ss.nil)
def kTotal (i_add : Nat) : Fn := { np := 1, ns := 3, st := [], body := (Ss.cons (S.asg (G.one (G0.nm 1)) (E.glb (("ZERO" : PySem.Str)) (T.tup [(T.int (Int.ofNat 0)), (T.int (Int.ofNat 1))]))) (Ss.cons (S.forr (G.one (G0.nm 2)) (It.var 0) (kTotal_0 i_add)) (Ss.cons (S.ret (E.mov 1)) Ss.nil))) }
-- kTotal: add
def kShare (i_less : Nat) : Fn := { np := 1, ns := 1, st := [], body := (Ss.cons (S.iff (E.orr (E.call i_less (Es.cons (E.var 0) (Es.cons (E.glb (("ZERO" : PySem.Str)) (T.tup [(T.int (Int.ofNat 0)), (T.int (Int.ofNat 1))])) Es.nil))) (E.call i_less (Es.cons (E.glb (("ONE" : PySem.Str)) (T.tup [(T.int (Int.ofNat 1)), (T.int (Int.ofNat 1))])) (Es.cons (E.var 0) Es.nil)))) (Ss.cons S.bad Ss.nil) Ss.nil) Ss.nil) }
-- kShare: less
def kDraw  : Fn := { np := 2, ns := 6, st := [], body := (Ss.cons (S.iff (E.op2 O2.lt (E.idx (E.var 0) (E.cst (T.int (Int.ofNat 2)))) (E.var 1)) (Ss.cons (S.asg (G.one (G0.nm 2)) (E.frzp (E.idx (E.var 0) (E.cst (T.int (Int.ofNat 0)))) (E.idx (E.var 0) (E.cst (T.int (Int.ofNat 0)))))) (Ss.cons (S.asg (G.one (G0.nm 3)) (E.frzp (E.idx (E.var 0) (E.cst (T.int (Int.ofNat 1)))) (E.idx (E.var 0) (E.cst (T.int (Int.ofNat 1)))))) (Ss.cons (S.asg (G.one (G0.nm 4)) (E.cst (T.int (Int.ofNat 0)))) (Ss.cons (S.iff (E.op2 O2.lt (E.var 3) (E.op1 O1.len (E.var 2))) (Ss.cons (S.asg (G.one (G0.nm 4)) (E.frzp (E.idx (E.var 2) (E.var 3)) (E.idx (E.var 2) (E.var 3)))) Ss.nil) Ss.nil) (Ss.cons (S.iff (E.op2 O2.lt (E.var 4) (E.cst (T.int (Int.ofNat 0)))) (Ss.cons (S.asg (G.one (G0.nm 4)) (E.op2 O2.sub (E.op2 O2.mul (E.op1 O1.neg (E.cst (T.int (Int.ofNat 2)))) (E.var 4)) (E.cst (T.int (Int.ofNat 1))))) Ss.nil) Ss.nil) (Ss.cons (S.iff (E.op2 O2.lt (E.var 4) (E.op2 O2.pow (E.cst (T.int (Int.ofNat 10))) (E.cst (T.int (Int.ofNat 9))))) (Ss.cons (S.asg (G.one (G0.nm 4)) (E.op2 O2.mod (E.op1 O1.int (E.op2 O2.add (E.op2 O2.add (E.op2 O2.mul (E.var 4) (E.cst (T.int (Int.ofNat 48271)))) (E.op2 O2.mul (E.var 3) (E.cst (T.int (Int.ofNat 69621))))) (E.cst (T.int (Int.ofNat 12345))))) (E.cst (T.int (Int.ofNat 2147483647))))) (Ss.cons (S.asg (G.one (G0.nm 4)) (E.op2 O2.mod (E.op1 O1.int (E.op2 O2.add (E.op2 O2.add (E.op2 O2.mul (E.var 4) (E.cst (T.int (Int.ofNat 16807)))) (E.op2 O2.mul (E.var 3) (E.cst (T.int (Int.ofNat 39373))))) (E.cst (T.int (Int.ofNat 6789))))) (E.cst (T.int (Int.ofNat 2147483629))))) Ss.nil)) Ss.nil) (Ss.cons (S.pst (E.var 0) (E.cst (T.int (Int.ofNat 1))) (E.op2 O2.add (E.var 3) (E.cst (T.int (Int.ofNat 1))))) (Ss.cons (S.pst (E.var 0) (E.cst (T.int (Int.ofNat 2))) (E.var 4)) Ss.nil)))))))) Ss.nil) (Ss.cons (S.asg (G.one (G0.nm 5)) (E.op2 O2.mod (E.op1 O1.int (E.frzp (E.idx (E.var 0) (E.cst (T.int (Int.ofNat 2)))) (E.idx (E.var 0) (E.cst (T.int (Int.ofNat 2)))))) (E.var 1))) (Ss.cons (S.pst (E.var 0) (E.cst (T.int (Int.ofNat 2))) (E.op2 O2.fdiv (E.idx (E.var 0) (E.cst (T.int (Int.ofNat 2)))) (E.var 1))) (Ss.cons (S.ret (E.mov 5)) Ss.nil)))) }
-- kDraw: 
def kTape  : Fn := { np := 1, ns := 1, st := [], body := (Ss.cons (S.ret (E.lst (Es.cons (E.op1 O1.list (E.var 0)) (Es.cons (E.cst (T.int (Int.ofNat 0))) (Es.cons (E.cst (T.int (Int.ofNat 0))) Es.nil))))) Ss.nil) }
-- kTape: 
def kMod  : Fn := { np := 2, ns := 2, st := [], body := (Ss.cons (S.ret (E.op2 O2.sub (E.var 0) (E.op2 O2.mul (E.op2 O2.fdiv (E.var 0) (E.var 1)) (E.var 1)))) Ss.nil) }
-- kMod: 
def kGcd_0 (i__law_mod : Nat) : Ss := (Ss.cons (S.iff (E.op2 O2.ne (E.var 1) (E.cst (T.int (Int.ofNat 0)))) (Ss.cons (S.par [0, 1] (Es.cons (E.var 1) (Es.cons (E.call i__law_mod (Es.cons (E.var 0) (Es.cons (E.var 1) Es.nil))) Es.nil))) Ss.nil) Ss.nil) Ss.nil)
def kGcd (i__law_mod : Nat) : Fn := { np := 2, ns := 3, st := [0, 1], body := (Ss.cons (S.forr (G.one (G0.nm 2)) (It.rng1 (E.cst (T.int (Int.ofNat 200)))) (kGcd_0 i__law_mod)) (Ss.cons (S.ret (E.mov 0)) Ss.nil)) }
-- kGcd: _law_mod
def kLfrac (i__law_gcd : Nat) : Fn := { np := 2, ns := 3, st := [0, 1], body := (Ss.cons (S.iff (E.op2 O2.lt (E.var 1) (E.cst (T.int (Int.ofNat 0)))) (Ss.cons (S.par [0, 1] (Es.cons (E.op2 O2.sub (E.cst (T.int (Int.ofNat 0))) (E.var 0)) (Es.cons (E.op2 O2.sub (E.cst (T.int (Int.ofNat 0))) (E.var 1)) Es.nil))) Ss.nil) Ss.nil) (Ss.cons (S.asg (G.one (G0.nm 2)) (E.call i__law_gcd (Es.cons (E.op1 O1.abs (E.var 0)) (Es.cons (E.var 1) Es.nil)))) (Ss.cons (S.ret (E.tup (Es.cons (E.op2 O2.fdiv (E.var 0) (E.var 2)) (Es.cons (E.op2 O2.fdiv (E.var 1) (E.var 2)) Es.nil)))) Ss.nil))) }
-- kLfrac: _law_gcd
def kLlt  : Fn := { np := 2, ns := 2, st := [], body := (Ss.cons (S.ret (E.op2 O2.lt (E.op2 O2.mul (E.idx (E.var 0) (E.cst (T.int (Int.ofNat 0)))) (E.idx (E.var 1) (E.cst (T.int (Int.ofNat 1))))) (E.op2 O2.mul (E.idx (E.var 1) (E.cst (T.int (Int.ofNat 0)))) (E.idx (E.var 0) (E.cst (T.int (Int.ofNat 1))))))) Ss.nil) }
-- kLlt: 
def kUp_0 (i__law_lt : Nat) : Ss := (Ss.cons (S.iff (E.nt (E.call i__law_lt (Es.cons (E.var 2) (Es.cons (E.var 4) Es.nil)))) (Ss.cons (S.asg (G.one (G0.nm 3)) (E.op2 O2.add (E.var 3) (E.cst (T.int (Int.ofNat 1))))) Ss.nil) Ss.nil) Ss.nil)
def kUp_1 (i__law_lt : Nat) : Ss := (Ss.cons (S.asg (G.one (G0.nm 3)) (E.cst (T.int (Int.ofNat 0)))) (Ss.cons (S.forr (G.one (G0.nm 4)) (It.var 1) (kUp_0 i__law_lt)) (Ss.cons (S.asg (G.one (G0.nm 1)) (E.op2 O2.add (E.op2 O2.add (E.slc (E.var 1) (E.cst T.non) (E.var 3)) (E.lst (Es.cons (E.var 2) Es.nil))) (E.slc (E.var 1) (E.var 3) (E.cst T.non)))) Ss.nil)))
def kUp (i__law_lt : Nat) : Fn := { np := 1, ns := 5, st := [], body := (Ss.cons (S.asg (G.one (G0.nm 1)) (E.lst Es.nil)) (Ss.cons (S.forr (G.one (G0.nm 2)) (It.var 0) (kUp_1 i__law_lt)) (Ss.cons (S.ret (E.mov 1)) Ss.nil))) }
-- kUp: _law_lt
end Pv

/-! Fractions: what the shared defs give, over the rationals. -/
namespace Pv
open PySem
/-- a fraction as the program has it -/
abbrev fq (q : Rat) : T := .tup [.int q.num, .int (q.den : Nat)]
def bq (n : Nat) (q : Rat) : Prop := q.num.natAbs < 2 ^ n ∧ q.den < 2 ^ n
theorem small_of {i : Int} {n : Nat} (h : i.natAbs < 2 ^ n) (hn : n ≤ 400000) : smallI i = true := by
  unfold smallI
  refine decide_eq_true ?_
  by_cases z : i.natAbs = 0
  · rw [z]; decide
  · exact Nat.lt_of_lt_of_le ((Nat.log2_lt z).mpr h) hn
theorem mulOk_of {i j : Int} {n m : Nat} (h : i.natAbs < 2 ^ n) (h2 : j.natAbs < 2 ^ m) (hn : n ≤ 400000) (hm : m ≤ 400000) : mulOk i j = true := by
  simp [mulOk, small_of h hn, small_of h2 hm]
theorem log9 {i : Int} {n : Nat} (h : i.natAbs < 2 ^ n) (hn : n ≤ 9000) : i.natAbs.log2 < 9000 := by
  by_cases z : i.natAbs = 0
  · rw [z]; decide
  · exact Nat.lt_of_lt_of_le ((Nat.log2_lt z).mpr h) hn
theorem pow_add_lt {a b m n : Nat} (h1 : a < 2 ^ m) (h2 : b < 2 ^ n) : a * b < 2 ^ (m + n) := by
  rw [Nat.pow_add]; exact Nat.mul_lt_mul'' h1 h2
theorem mul_abs {a b : Int} {m n : Nat} (h1 : a.natAbs < 2 ^ m) (h2 : b.natAbs < 2 ^ n) : (a * b).natAbs < 2 ^ (m + n) := by
  rw [Int.natAbs_mul]; exact pow_add_lt h1 h2
theorem bq_mono {m n : Nat} {q : Rat} (h : bq m q) (hn : m ≤ n) : bq n q := ⟨Nat.lt_of_lt_of_le h.1 (Nat.pow_le_pow_right (by decide) hn), Nat.lt_of_lt_of_le h.2 (Nat.pow_le_pow_right (by decide) hn)⟩
theorem den_abs {q : Rat} : ((q.den : Nat) : Int).natAbs = q.den := Int.natAbs_natCast _
/-- a quotient of small whole numbers -/
theorem bq_div {a b : Int} {n : Nat} (hb : b ≠ 0) (h1 : a.natAbs < 2 ^ n) (h2 : b.natAbs < 2 ^ n) : bq n ((a : Rat) / (b : Rat)) := by
  rw [← Rat.divInt_eq_div]
  unfold bq
  rw [Rat.num_divInt, Rat.den_divInt, if_neg hb]
  have g0 : 0 < b.gcd a := Int.gcd_pos_of_ne_zero_left _ hb
  refine ⟨?_, Nat.lt_of_le_of_lt (Nat.div_le_self _ _) h2⟩
  have : (b.sign * a / (b.gcd a : Int)).natAbs ≤ a.natAbs := by
    have e : (b.sign * a).natAbs = a.natAbs := by rw [Int.natAbs_mul, Int.natAbs_sign_of_ne_zero hb, Nat.one_mul]
    rw [← e]
    exact Int.natAbs_ediv_le_natAbs _ _
  omega
theorem num_den (q : Rat) : q = (q.num : Rat) / ((q.den : Int) : Rat) := by
  rw [← Rat.divInt_eq_div, Rat.divInt_ofNat, Rat.mkRat_self]
theorem den_pos' (q : Rat) : (0 : Int) < (q.den : Nat) := by have := q.den_pos; omega
theorem den_ne' (q : Rat) : ((q.den : Int) : Rat) ≠ 0 := by
  have := q.den_nz
  intro h
  have : (q.den : Int) = 0 := by exact_mod_cast h
  omega
theorem add_eq (p q : Rat) : p + q = ((p.num * (q.den : Int) + q.num * (p.den : Int) : Int) : Rat) / (((p.den : Int) * (q.den : Int) : Int) : Rat) := by
  have h1 := num_den p
  have h2 := num_den q
  have n1 := den_ne' p
  have n2 := den_ne' q
  rw [Rat.intCast_add, Rat.intCast_mul, Rat.intCast_mul, Rat.intCast_mul]
  generalize ((p.den : Int) : Rat) = d at *
  generalize ((q.den : Int) : Rat) = e at *
  generalize (p.num : Rat) = x at *
  generalize (q.num : Rat) = y at *
  subst h1 h2
  grind
theorem sub_eq (p q : Rat) : p - q = ((p.num * (q.den : Int) - q.num * (p.den : Int) : Int) : Rat) / (((p.den : Int) * (q.den : Int) : Int) : Rat) := by
  have h1 := num_den p
  have h2 := num_den q
  have n1 := den_ne' p
  have n2 := den_ne' q
  rw [Rat.intCast_sub, Rat.intCast_mul, Rat.intCast_mul, Rat.intCast_mul]
  generalize ((p.den : Int) : Rat) = d at *
  generalize ((q.den : Int) : Rat) = e at *
  generalize (p.num : Rat) = x at *
  generalize (q.num : Rat) = y at *
  subst h1 h2
  grind
theorem mul_eq (p q : Rat) : p * q = ((p.num * q.num : Int) : Rat) / (((p.den : Int) * (q.den : Int) : Int) : Rat) := by
  have h1 := num_den p
  have h2 := num_den q
  have n1 := den_ne' p
  have n2 := den_ne' q
  rw [Rat.intCast_mul, Rat.intCast_mul]
  generalize ((p.den : Int) : Rat) = d at *
  generalize ((q.den : Int) : Rat) = e at *
  generalize (p.num : Rat) = x at *
  generalize (q.num : Rat) = y at *
  subst h1 h2
  grind
theorem num_ne {q : Rat} (h : q ≠ 0) : q.num ≠ 0 := fun z => h (Rat.num_eq_zero.mp z)
theorem div_eq (p q : Rat) (hq : q ≠ 0) : p / q = ((p.num * (q.den : Int) : Int) : Rat) / (((p.den : Int) * q.num : Int) : Rat) := by
  have h1 := num_den p
  have h2 := num_den q
  have n1 := den_ne' p
  have n2 := den_ne' q
  have n3 : (q.num : Rat) ≠ 0 := fun z => num_ne hq (by exact_mod_cast z)
  rw [Rat.intCast_mul, Rat.intCast_mul]
  generalize ((p.den : Int) : Rat) = d at *
  generalize ((q.den : Int) : Rat) = e at *
  generalize (p.num : Rat) = x at *
  generalize (q.num : Rat) = y at *
  subst h1 h2
  grind
theorem bq_add {m n : Nat} {p q : Rat} (hp : bq m p) (hq : bq n q) : bq (m + n + 1) (p + q) := by
  rw [add_eq]
  refine bq_div (Int.ne_of_gt (Int.mul_pos (den_pos' p) (den_pos' q))) ?_ ?_
  · have a := mul_abs (b := (q.den : Int)) hp.1 (by rw [den_abs]; exact hq.2)
    have b := mul_abs (b := (p.den : Int)) hq.1 (by rw [den_abs]; exact hp.2)
    rw [Nat.add_comm n m] at b
    have c := Int.natAbs_add_le (p.num * (q.den : Int)) (q.num * (p.den : Int))
    rw [Nat.pow_succ]; omega
  · have a := mul_abs (a := (p.den : Int)) (b := (q.den : Int)) (by rw [den_abs]; exact hp.2) (by rw [den_abs]; exact hq.2)
    rw [Nat.pow_succ]; omega
theorem bq_sub {m n : Nat} {p q : Rat} (hp : bq m p) (hq : bq n q) : bq (m + n + 1) (p - q) := by
  rw [sub_eq]
  refine bq_div (Int.ne_of_gt (Int.mul_pos (den_pos' p) (den_pos' q))) ?_ ?_
  · have a := mul_abs (b := (q.den : Int)) hp.1 (by rw [den_abs]; exact hq.2)
    have b := mul_abs (b := (p.den : Int)) hq.1 (by rw [den_abs]; exact hp.2)
    rw [Nat.add_comm n m] at b
    have c := Int.natAbs_sub_le (p.num * (q.den : Int)) (q.num * (p.den : Int))
    rw [Nat.pow_succ]; omega
  · have a := mul_abs (a := (p.den : Int)) (b := (q.den : Int)) (by rw [den_abs]; exact hp.2) (by rw [den_abs]; exact hq.2)
    rw [Nat.pow_succ]; omega
theorem bq_mul {m n : Nat} {p q : Rat} (hp : bq m p) (hq : bq n q) : bq (m + n) (p * q) := by
  rw [mul_eq]
  exact bq_div (Int.ne_of_gt (Int.mul_pos (den_pos' p) (den_pos' q))) (mul_abs hp.1 hq.1) (mul_abs (by rw [den_abs]; exact hp.2) (by rw [den_abs]; exact hq.2))
theorem bq_quot {m n : Nat} {p q : Rat} (hp : bq m p) (hq : bq n q) (h0 : q ≠ 0) : bq (m + n) (p / q) := by
  rw [div_eq p q h0]
  exact bq_div (Int.mul_ne_zero (Int.ne_of_gt (den_pos' p)) (num_ne h0)) (mul_abs hp.1 (by rw [den_abs]; exact hq.2)) (mul_abs (by rw [den_abs]; exact hp.2) hq.1)
theorem bq_neg {m : Nat} {p : Rat} (hp : bq m p) : bq m (-p) := ⟨by rw [Rat.neg_num, Int.natAbs_neg]; exact hp.1, by rw [Rat.neg_den]; exact hp.2⟩
theorem bq_int {i : Int} {n : Nat} (h : i.natAbs < 2 ^ n) (h1 : 0 < n) : bq n (i : Rat) := ⟨by rw [Rat.num_intCast]; exact h, by rw [Rat.den_intCast]; exact Nat.one_lt_two_pow (by omega)⟩
theorem bq_zero : bq 1 0 := ⟨by decide, by decide⟩
theorem bq_one : bq 1 1 := ⟨by decide, by decide⟩
/-! ### the shared defs -/
section
variable {R : Prg} {n i j : Nat}
theorem quot_num {a b : Int} (hb : 0 < b) : ((a : Rat) / (b : Rat)).num = a / (Nat.gcd a.natAbs b.natAbs : Nat) ∧ ((((a : Rat) / (b : Rat)).den : Nat) : Int) = b / (Nat.gcd a.natAbs b.natAbs : Nat) := by
  rw [← Rat.divInt_eq_div, Rat.num_divInt, Rat.den_divInt, if_neg (by omega)]
  have e : b.gcd a = Nat.gcd a.natAbs b.natAbs := Nat.gcd_comm _ _
  rw [e, Int.sign_eq_one_of_pos hb, Int.one_mul]
  refine ⟨rfl, ?_⟩
  rw [Int.natCast_ediv]
  congr 1
  omega
theorem cFrac (h : R.fns[i]? = some kFrac) {a b : Int} (hb : b ≠ 0) (hs : b.natAbs < 2 ^ 8999) : callF R (n + 1) i [.int a, .int b] = some (fq ((a : Rat) / (b : Rat)), [.hole, .hole]) := by
  have e1 : decide (b = 0) = false := decide_eq_false hb
  have hg : Nat.gcd a.natAbs b.natAbs < 2 ^ 8999 := Nat.lt_of_le_of_lt (Nat.le_of_dvd (by omega) (Nat.gcd_dvd_right _ _)) hs
  have g0 : (0 : Int) < (Nat.gcd a.natAbs b.natAbs : Nat) := by
    have := Nat.gcd_pos_of_pos_right a.natAbs (n := b.natAbs) (by omega)
    omega
  have g1 : ((Nat.gcd a.natAbs b.natAbs : Nat) : Int).natAbs.log2 < 9000 := log9 (by rw [Int.natAbs_natCast]; exact hg) (by decide)
  rw [callF_open h]
  by_cases hn : b < 0
  · have e2 : decide (b < 0) = true := decide_eq_true hn
    obtain ⟨q1, q2⟩ := quot_num (a := -a) (b := -b) (by omega)
    have eq : ((-a : Int) : Rat) / ((-b : Int) : Rat) = (a : Rat) / (b : Rat) := by
      rw [Rat.intCast_neg, Rat.intCast_neg]
      have : (b : Rat) ≠ 0 := fun z => hb (by exact_mod_cast z)
      grind
    rw [eq, Int.natAbs_neg, Int.natAbs_neg] at q1 q2
    simp [runF, kFrac, evSs, evS, ev, evL, setG, setG0, setNs, wipeS, over, isF, op2_fdiv g0 g1, okN_of, e1, e2, Option.map_some, q1, q2]
  · have e2 : decide (b < 0) = false := decide_eq_false hn
    obtain ⟨q1, q2⟩ := quot_num (a := a) (b := b) (by omega)
    simp [runF, kFrac, evSs, evS, ev, evL, setG, setG0, setNs, wipeS, over, isF, op2_fdiv g0 g1, okN_of, e1, e2, Option.map_some, q1, q2]
theorem cLess (h : R.fns[i]? = some kLess) {p q : Rat} {m k : Nat} (hp : bq m p) (hq : bq k q) (hm : m ≤ 400000) (hk : k ≤ 400000) : callF R (n + 1) i [fq p, fq q] = some (.bl (decide (p < q)), [fq p, fq q]) := by
  have m1 : mulOk p.num q.den = true := mulOk_of hp.1 (by rw [den_abs]; exact hq.2) hm hk
  have m2 : mulOk q.num p.den = true := mulOk_of hq.1 (by rw [den_abs]; exact hp.2) hk hm
  have e : decide (p < q) = decide (p.num * (q.den : Int) < q.num * (p.den : Int)) := decide_eq_decide.mpr (Rat.lt_iff p q)
  rw [callF_open h, e]
  simp [runF, kLess, evSs, evS, ev, evL, wipeS, over, isF, isFs, idxT, L2.atI, L2.ixN, op2_mul m1, op2_mul m2]
theorem cAdd (h : R.fns[i]? = some (kAdd j)) (hj : R.fns[j]? = some kFrac) {p q : Rat} {m k : Nat} (hp : bq m p) (hq : bq k q) (hm : m + k ≤ 8999) : callF R (n + 2) i [fq p, fq q] = some (fq (p + q), [fq p, fq q]) := by
  have m1 : mulOk p.num q.den = true := mulOk_of hp.1 (by rw [den_abs]; exact hq.2) (by omega) (by omega)
  have m2 : mulOk q.num p.den = true := mulOk_of hq.1 (by rw [den_abs]; exact hp.2) (by omega) (by omega)
  have m3 : mulOk p.den q.den = true := mulOk_of (by rw [den_abs]; exact hp.2) (by rw [den_abs]; exact hq.2) (n := m) (m := k) (by omega) (by omega)
  have z := cFrac (n := n) hj (a := p.num * q.den + q.num * p.den) (b := p.den * q.den) (Int.ne_of_gt (Int.mul_pos (den_pos' p) (den_pos' q)))
    (Nat.lt_of_lt_of_le (mul_abs (a := (p.den : Int)) (b := (q.den : Int)) (by rw [den_abs]; exact hp.2) (by rw [den_abs]; exact hq.2)) (Nat.pow_le_pow_right (by decide) hm))
  rw [← add_eq] at z
  rw [callF_open h]
  simp [runF, kAdd, evSs, evS, ev, evL, evA, wipeS, over, isF, isFs, idxT, L2.atI, L2.ixN, op2_mul m1, op2_mul m2, op2_mul m3, pgOf, z, back]
theorem cMinus (h : R.fns[i]? = some (kMinus j)) (hj : R.fns[j]? = some kFrac) {p q : Rat} {m k : Nat} (hp : bq m p) (hq : bq k q) (hm : m + k ≤ 8999) : callF R (n + 2) i [fq p, fq q] = some (fq (p - q), [fq p, fq q]) := by
  have m1 : mulOk p.num q.den = true := mulOk_of hp.1 (by rw [den_abs]; exact hq.2) (by omega) (by omega)
  have m2 : mulOk q.num p.den = true := mulOk_of hq.1 (by rw [den_abs]; exact hp.2) (by omega) (by omega)
  have m3 : mulOk p.den q.den = true := mulOk_of (by rw [den_abs]; exact hp.2) (by rw [den_abs]; exact hq.2) (n := m) (m := k) (by omega) (by omega)
  have z := cFrac (n := n) hj (a := p.num * q.den - q.num * p.den) (b := p.den * q.den) (Int.ne_of_gt (Int.mul_pos (den_pos' p) (den_pos' q)))
    (Nat.lt_of_lt_of_le (mul_abs (a := (p.den : Int)) (b := (q.den : Int)) (by rw [den_abs]; exact hp.2) (by rw [den_abs]; exact hq.2)) (Nat.pow_le_pow_right (by decide) hm))
  rw [← sub_eq] at z
  rw [callF_open h]
  simp [runF, kMinus, evSs, evS, ev, evL, evA, wipeS, over, isF, isFs, idxT, L2.atI, L2.ixN, op2_mul m1, op2_mul m2, op2_mul m3, pgOf, z, back]
theorem cTimes (h : R.fns[i]? = some (kTimes j)) (hj : R.fns[j]? = some kFrac) {p q : Rat} {m k : Nat} (hp : bq m p) (hq : bq k q) (hm : m + k ≤ 8999) : callF R (n + 2) i [fq p, fq q] = some (fq (p * q), [fq p, fq q]) := by
  have m1 : mulOk p.num q.num = true := mulOk_of hp.1 hq.1 (by omega) (by omega)
  have m3 : mulOk p.den q.den = true := mulOk_of (by rw [den_abs]; exact hp.2) (by rw [den_abs]; exact hq.2) (n := m) (m := k) (by omega) (by omega)
  have z := cFrac (n := n) hj (a := p.num * q.num) (b := p.den * q.den) (Int.ne_of_gt (Int.mul_pos (den_pos' p) (den_pos' q)))
    (Nat.lt_of_lt_of_le (mul_abs (a := (p.den : Int)) (b := (q.den : Int)) (by rw [den_abs]; exact hp.2) (by rw [den_abs]; exact hq.2)) (Nat.pow_le_pow_right (by decide) hm))
  rw [← mul_eq] at z
  rw [callF_open h]
  simp [runF, kTimes, evSs, evS, ev, evL, evA, wipeS, over, isF, isFs, idxT, L2.atI, L2.ixN, op2_mul m1, op2_mul m3, pgOf, z, back]
/-- sums, with room for the bits -/
theorem frz_fq (x : Rat) : frz (fq x) = fq x := rfl
theorem isF_fq (x : Rat) : isF (fq x) = true := rfl
def sumQ (xs : List Rat) : Rat := xs.foldl (· + ·) 0
theorem cTotal (h : R.fns[i]? = some (kTotal j)) {f : Nat} (hj : R.fns[j]? = some (kAdd f)) (hf : R.fns[f]? = some kFrac) {o : Bool} {xs : List Rat} {k : Nat} (hx : ∀ x ∈ xs, bq k x) (hm : (xs.length + 1) * (k + 1) ≤ 8999) :
    callF R (n + 3) i [.lst o (xs.map fq)] = some (fq (sumQ xs), [.lst false (xs.map fq)]) := by
  rw [callF_open h]
  obtain ⟨t', e⟩ := forGo_fold (set := setG (pgOf R (n + 2)) (.one (.nm 2))) (b := evSs (pgOf R (n + 2)) (kTotal_0 j))
    (S := fun (a : Rat) t => [.lst false (xs.map fq), fq a, t]) (f := (· + ·)) (v := fq) (fun a ys => ∃ m, bq m a ∧ m + (ys.length + 1) * (k + 1) ≤ 9000 ∧ ∀ y ∈ ys, bq k y) (fun a t x => rfl) (fun a x ys ⟨m, ha, hl, hy⟩ => by
      have hb := hy x List.mem_cons_self
      have hmk : m + k ≤ 8999 := by
        have : (ys.length + 1 + 1) * (k + 1) = (ys.length + 1) * (k + 1) + (k + 1) := Nat.succ_mul _ _
        simp only [List.length_cons] at hl
        omega
      refine ⟨?_, m + k + 1, bq_add ha hb, ?_, fun y m => hy y (List.mem_cons_of_mem _ m)⟩
      · simp [kTotal_0, evSs, evS, ev, evA, isF, isFs, pgOf, cAdd hj hf ha hb hmk, back, setG, setG0]
      · have : (ys.length + 1 + 1) * (k + 1) = (ys.length + 1) * (k + 1) + (k + 1) := Nat.succ_mul _ _
        simp only [List.length_cons] at hl
        omega) xs 0 .hole ⟨1, bq_zero, by omega, hx⟩
  have e0 : T.tup [.int 0, .int 1] = fq 0 := rfl
  have fz : frzs (xs.map fq) = xs.map fq := frzs_map frz_fq xs
  cases o <;> simp [runF, kTotal, evSs, evS, ev, evI, setG, setG0, items2, fz, wipeS, e0] at e ⊢ <;> simp [e, sumQ]
theorem bq_sum {k : Nat} : ∀ {xs : List Rat} {a : Rat} {m : Nat}, bq m a → (∀ x ∈ xs, bq k x) → bq (m + xs.length * (k + 1)) (xs.foldl (· + ·) a)
  | [], a, m, h, _ => by simpa using h
  | x :: xs, a, m, h, hx => by
    have z := bq_sum (k := k) (xs := xs) (bq_add h (hx x List.mem_cons_self)) fun y hy => hx y (List.mem_cons_of_mem _ hy)
    rw [List.foldl_cons]
    refine bq_mono z ?_
    rw [List.length_cons, Nat.succ_mul]; omega
theorem bq_sumQ {k : Nat} {xs : List Rat} (hx : ∀ x ∈ xs, bq k x) : bq (1 + xs.length * (k + 1)) (sumQ xs) := bq_sum bq_zero hx
theorem cShare (h : R.fns[i]? = some (kShare j)) (hj : R.fns[j]? = some kLess) {p : Rat} {m : Nat} (hp : bq m p) (hm : m ≤ 400000) (h0 : 0 ≤ p) (h1 : p ≤ 1) : callF R (n + 2) i [fq p] = some (.non, [fq p]) := by
  have z0 := cLess (n := n) hj hp bq_zero hm (by decide)
  have z1 := cLess (n := n) hj bq_one hp (by decide) hm
  have e0 : decide (p < 0) = false := decide_eq_false (by grind)
  have e1 : decide (1 < p) = false := decide_eq_false (by grind)
  rw [e0] at z0; rw [e1] at z1
  have c0 : T.tup [.int 0, .int 1] = fq 0 := rfl
  have c1 : T.tup [.int 1, .int 1] = fq 1 := rfl
  rw [callF_open h]
  simp [runF, kShare, evSs, evS, ev, evL, evA, wipeS, over, isF, isFs, pgOf, c0, c1, z0, z1, back]
end
end Pv

set_option exponentiation.threshold 10000
/-! More runs: comprehensions, places, draws, the laws' own helpers. -/
namespace Pv
open PySem
/-- a comprehension with a condition, the slots the same at each turn -/
theorem lcGo_fm {β : Type} {set : T → SL → Option SL} {c e : SL → Option (T × SL)} {wp : SL → SL} {s0 : SL} {v w : β → T} {q : β → Bool} : ∀ (xs : List β) (sl : SL) (acc : List T), (∀ x ∈ xs, ∃ s1 s2, set (v x) s0 = some s1 ∧ c s1 = some (.bl (q x), s2) ∧ (q x = false → wp s2 = s0) ∧ (q x = true → ∃ s3, e s2 = some (w x, s3) ∧ wp s3 = s0)) →
    wp sl = s0 → acc.length + xs.length < 10000000 → ∃ s', lcGo set c e wp (xs.map v) sl acc = some (acc ++ (xs.filter q).map w, s') ∧ wp s' = s0
  | [], sl, acc, _, hs, _ => ⟨sl, by simp [lcGo], hs⟩
  | x :: xs, sl, acc, h, hs, hl => by
    obtain ⟨s1, s2, e1, e2, e3, e4⟩ := h x List.mem_cons_self
    have hr := fun y hy => h y (List.mem_cons_of_mem _ hy)
    by_cases hq : q x = true
    · obtain ⟨s3, e5, e6⟩ := e4 hq
      obtain ⟨s', e7, e8⟩ := lcGo_fm (w := w) xs s3 (acc ++ [w x]) hr e6 (by simp at hl ⊢; omega)
      refine ⟨s', ?_, e8⟩
      show lcGo set c e wp (v x :: xs.map v) sl acc = _
      unfold lcGo
      rw [hs, e1]
      show ((c s1).bind _) = _
      rw [e2, hq]
      show ((e s2).bind _) = _
      rw [e5]
      show (if okN acc.length then lcGo set c e wp (xs.map v) s3 (acc ++ [w x]) else none) = _
      rw [if_pos (okN_of (by simp at hl; omega)), e7]
      simp [List.filter_cons, hq]
    · have hq : q x = false := by simpa using hq
      obtain ⟨s', e7, e8⟩ := lcGo_fm (w := w) xs s2 acc hr (e3 hq) (by simp at hl ⊢; omega)
      refine ⟨s', ?_, e8⟩
      show lcGo set c e wp (v x :: xs.map v) sl acc = _
      unfold lcGo
      rw [hs, e1]
      show ((c s1).bind _) = _
      rw [e2, hq]
      show lcGo set c e wp (xs.map v) s2 acc = _
      rw [e7]
      simp [List.filter_cons, hq]
/-- a comprehension, by an invariant of what is to come, the slots and what is gathered -/
theorem lcGo_inv {set : T → SL → Option SL} {c e : SL → Option (T × SL)} {wp : SL → SL} (I : List T → SL → List T → Prop)
    (h : ∀ x xs sl acc, I (x :: xs) sl acc → ∃ s1 b s2, set x (wp sl) = some s1 ∧ c s1 = some (.bl b, s2) ∧ (b = false → I xs s2 acc) ∧ (b = true → ∃ t s3, e s2 = some (t, s3) ∧ acc.length < 10000000 ∧ I xs s3 (acc ++ [t]))) :
    ∀ (xs : List T) (sl : SL) (acc : List T), I xs sl acc → ∃ r s', lcGo set c e wp xs sl acc = some (r, s') ∧ I [] s' r
  | [], sl, acc, i => ⟨acc, sl, rfl, i⟩
  | x :: xs, sl, acc, i => by
    obtain ⟨s1, b, s2, e1, e2, e3, e4⟩ := h x xs sl acc i
    cases b with
    | false =>
      obtain ⟨r, s', e5, q⟩ := lcGo_inv I h xs s2 acc (e3 rfl)
      exact ⟨r, s', by unfold lcGo; rw [e1]; show ((c s1).bind _) = _; rw [e2]; exact e5, q⟩
    | true =>
      obtain ⟨t, s3, e5, e6, e7⟩ := e4 rfl
      obtain ⟨r, s', e8, q⟩ := lcGo_inv I h xs s3 (acc ++ [t]) e7
      refine ⟨r, s', ?_, q⟩
      unfold lcGo; rw [e1]; show ((c s1).bind _) = _; rw [e2]; show ((e s2).bind _) = _; rw [e5]
      show (if okN acc.length then _ else none) = _
      rw [if_pos (okN_of e6)]; exact e8
theorem frzs_get : ∀ {sl : List T} {i : Nat}, (frzs sl)[i]? = (sl[i]?).map frz
  | [], _ => by simp [frzs]
  | t :: sl, 0 => by simp [frzs]
  | t :: sl, i + 1 => by simp only [frzs_cons, List.getElem?_cons_succ]; exact frzs_get
theorem look_get {sl : SL} {i : Nat} {t : T} (h : sl[i]? = some t) (hh : isHole t = false) : look sl i = some t := by
  unfold look; rw [h]; cases t <;> first | rfl | cases hh
theorem look_brw_int {sl : SL} {j : Nat} {i : Int} (h : look sl j = some (.int i)) : look (brw sl) j = some (.int i) := by
  obtain ⟨h1, _⟩ := look_some h
  exact look_get (by unfold brw; rw [frzs_get, h1]; simp) rfl
section
variable {P : Pg} {sl : SL} {k j : Nat} {o : Bool} {ts : List T} {i : Int} {u : T}
/-- xs[i], read -/
theorem ev_idx_vv (h1 : look sl k = some (.lst o ts)) (h2 : look sl j = some (.int i)) (h3 : L2.atI ts i = some u) : ev P .o (.idx (.var k) (.var j)) sl = some (u, sl) := by
  simp only [ev, h1, Option.bind_some, over, Bool.true_and]
  by_cases f : isF (.lst o ts) = true
  · simp [f, h2, idxT, h3]
  · simp [f, h2, look_brw_int h2, idxT, h3, atom]
theorem ev_idx_vc (h1 : look sl k = some (.lst o ts)) (h3 : L2.atI ts i = some u) : ev P .o (.idx (.var k) (.cst (.int i))) sl = some (u, sl) := by
  simp only [ev, h1, Option.bind_some, over, Bool.true_and]
  by_cases f : isF (.lst o ts) = true
  · simp [f, idxT, h3]
  · simp [f, idxT, h3, atom]
theorem atI_nat {n : Nat} (h : n < ts.length) : L2.atI ts (n : Int) = some ts[n] := by
  unfold L2.atI L2.ixN
  simp [h]
end
/-! ### draws -/
abbrev tape (o : Bool) (cs : List T) (k c : Int) : T := .lst true [.lst o cs, .int k, .int c]
section
variable {R : Prg} {n f : Nat}
theorem cTape (hf : R.fns[f]? = some kTape) {ns : List Int} : callF R (n + 1) f [.lst false (ns.map T.int)] = some (tape true (ns.map T.int) 0 0, [.lst false (ns.map T.int)]) := by
  have h : isFs (ns.map T.int) = true := isFs_map (fun _ => isF_int) ns
  rw [callF_open hf]
  simp [runF, kTape, evSs, evS, ev, evL, op1_list h, okN_of, wipeS]
theorem mulOk_r {i j : Int} (h : j.natAbs < 2 ^ 59) : mulOk i j = true := by
  have : j.natAbs.log2 < 60 := by
    by_cases z : j.natAbs = 0
    · rw [z]; decide
    · exact Nat.lt_of_lt_of_le ((Nat.log2_lt z).mpr h) (by decide)
  simp [mulOk, tinyI, this]
theorem at_nat {ns : List Int} {k : Nat} (h : k < ns.length) : L2.atI (ns.map T.int) (k : Int) = some (.int ns[k]) := by
  unfold L2.atI L2.ixN
  simp [h]
def cell1 (c : Int) : Int := if c < 0 then -2 * c - 1 else c
def cell2 (c : Int) (k : Nat) : Int := if c < 1000000000 then ((c * 48271 + k * 69621 + 12345) % 2147483647 * 16807 + k * 39373 + 6789) % 2147483629 else c
def cellOf (ns : List Int) (k : Nat) : Int := cell2 (cell1 (if h : k < ns.length then ns[k] else 0)) k
theorem p9 : op2 .pow (.int 10) (.int 9) = some (.int 1000000000) := rfl
theorem mul2 {c : Int} : op2 .mul (.int (-2)) (.int c) = some (.int (-2 * c)) := op2_mul (mulOk_tiny (by decide))
theorem mulc {c : Int} : op2 .mul (.int c) (.int 48271) = some (.int (c * 48271)) := op2_mul (mulOk_r (by decide))
theorem mulk {c : Int} : op2 .mul (.int c) (.int 69621) = some (.int (c * 69621)) := op2_mul (mulOk_r (by decide))
theorem muld {c : Int} : op2 .mul (.int c) (.int 16807) = some (.int (c * 16807)) := op2_mul (mulOk_r (by decide))
theorem mule {c : Int} : op2 .mul (.int c) (.int 39373) = some (.int (c * 39373)) := op2_mul (mulOk_r (by decide))
theorem modA {c : Int} : op2 .mod (.int c) (.int 2147483647) = some (.int (c % 2147483647)) := op2_mod (by decide)
theorem modB {c : Int} : op2 .mod (.int c) (.int 2147483629) = some (.int (c % 2147483629)) := op2_mod (by decide)
/-- one digit -/
theorem cDraw (hf : R.fns[f]? = some kDraw) {o : Bool} {ns : List Int} {k : Nat} {c m : Int} (hm : 0 < m) (hm2 : m < 1000000) : ∃ d c' o' k', callF R (n + 1) f [tape o (ns.map T.int) (k : Nat) c, .int m] = some (.int d, [tape o' (ns.map T.int) (k' : Nat) c', .int m]) ∧ 0 ≤ d ∧ d < m := by
  have hF : isFs (ns.map T.int) = true := isFs_map (fun _ => isF_int) ns
  have hZ : frzs (ns.map T.int) = ns.map T.int := frzs_map (fun _ => frz_int) ns
  have dv : ∀ c, op2 .fdiv (.int c) (.int m) = some (.int (c / m)) := fun c => op2_fdiv hm (log2_of (by omega))
  have md : ∀ c, op2 .mod (.int c) (.int m) = some (.int (c % m)) := fun c => op2_mod hm
  rw [callF_open hf]
  by_cases hc : c < m
  · refine ⟨cellOf ns k % m, cellOf ns k / m, false, k + 1, ?_, Int.emod_nonneg _ (by omega), Int.emod_lt_of_pos _ hm⟩
    by_cases hk : k < ns.length
    · have ha := at_nat hk
      by_cases h1 : ns[k] < 0
      · by_cases h2 : -2 * ns[k] - 1 < 1000000000
        · cases o <;> simp [runF, kDraw, evSs, evS, ev, setG, setG0, plc, brw, hF, hZ, idxT, L2.atI, L2.ixN, over, hc, dv, md, wipeS, atom, ha, hk, h1, h2, p9, mul2, mulc, mulk, muld, mule, modA, modB, cellOf, cell1, cell2]
        · cases o <;> simp [runF, kDraw, evSs, evS, ev, setG, setG0, plc, brw, hF, hZ, idxT, L2.atI, L2.ixN, over, hc, dv, md, wipeS, atom, ha, hk, h1, h2, p9, mul2, mulc, mulk, muld, mule, modA, modB, cellOf, cell1, cell2]
      · by_cases h2 : ns[k] < 1000000000
        · cases o <;> simp [runF, kDraw, evSs, evS, ev, setG, setG0, plc, brw, hF, hZ, idxT, L2.atI, L2.ixN, over, hc, dv, md, wipeS, atom, ha, hk, h1, h2, p9, mul2, mulc, mulk, muld, mule, modA, modB, cellOf, cell1, cell2]
        · cases o <;> simp [runF, kDraw, evSs, evS, ev, setG, setG0, plc, brw, hF, hZ, idxT, L2.atI, L2.ixN, over, hc, dv, md, wipeS, atom, ha, hk, h1, h2, p9, mul2, mulc, mulk, muld, mule, modA, modB, cellOf, cell1, cell2]
    · cases o <;> simp [runF, kDraw, evSs, evS, ev, setG, setG0, plc, brw, hF, hZ, idxT, L2.atI, L2.ixN, over, hc, dv, md, wipeS, atom, hk, p9, mul2, mulc, mulk, muld, mule, modA, modB, cellOf, cell1, cell2]
  · refine ⟨c % m, c / m, o, k, ?_, Int.emod_nonneg _ (by omega), Int.emod_lt_of_pos _ hm⟩
    cases o <;> simp [runF, kDraw, evSs, evS, ev, setG, setG0, plc, brw, hF, hZ, idxT, L2.atI, L2.ixN, over, hc, dv, md, wipeS, atom]
/-- the tape, whatever it holds -/
def IsTp (t : T) : Prop := ∃ (o : Bool) (ns : List Int) (k : Nat) (c : Int), t = tape o (ns.map T.int) (k : Nat) c
theorem IsTp.hole {t : T} (h : IsTp t) : isHole t = false := by obtain ⟨o, ns, k, c, rfl⟩ := h; rfl
theorem IsTp.isF {t : T} (h : IsTp t) : isF t = false := by obtain ⟨o, ns, k, c, rfl⟩ := h; simp
theorem tp_draw (hf : R.fns[f]? = some kDraw) {t : T} {m : Int} (h : IsTp t) (hm : 0 < m) (hm2 : m < 1000000) : ∃ d t', callF R (n + 1) f [t, .int m] = some (.int d, [t', .int m]) ∧ IsTp t' ∧ 0 ≤ d ∧ d < m := by
  obtain ⟨o, ns, k, c, rfl⟩ := h
  obtain ⟨d, c', o', k', e, h1, h2⟩ := cDraw (n := n) hf (o := o) (ns := ns) (k := k) (c := c) hm hm2
  exact ⟨d, _, e, ⟨o', ns, k', c', rfl⟩, h1, h2⟩
theorem tp_start (hf : R.fns[f]? = some kTape) {ns : List Int} : ∃ t, callF R (n + 1) f [.lst false (ns.map T.int)] = some (t, [.lst false (ns.map T.int)]) ∧ IsTp t := ⟨_, cTape hf, true, ns, 0, 0, rfl⟩
end
end Pv

set_option exponentiation.threshold 10000
/-! The laws' fractions: _law_mod, _law_gcd, _law_frac, _law_lt, _law_up. -/
namespace Pv
open PySem
/-- Euclid's steps -/
def euS (p : Nat × Nat) : Nat × Nat := if p.2 = 0 then p else (p.2, p.1 % p.2)
def euN : Nat → Nat × Nat → Nat × Nat
  | 0, p => p
  | n + 1, p => euN n (euS p)
theorem euN_zero {a : Nat} : ∀ n, euN n (a, 0) = (a, 0)
  | 0 => rfl
  | n + 1 => euN_zero n
theorem eu_gcd : ∀ (m a b n : Nat), b < 2 ^ m → 2 * m ≤ n → euN n (a, b) = (Nat.gcd a b, 0)
  | 0, a, b, n, hb, hn => by
    have : b = 0 := by simpa using hb
    subst this
    rw [euN_zero, Nat.gcd_zero_right]
  | m + 1, a, b, n, hb, hn => by
    obtain ⟨n, rfl⟩ : ∃ k, n = k + 2 := ⟨n - 2, by omega⟩
    by_cases h0 : b = 0
    · subst h0; rw [euN_zero, Nat.gcd_zero_right]
    · have e1 : euS (a, b) = (b, a % b) := if_neg h0
      show euN n (euS (euS (a, b))) = _
      rw [e1]
      have g1 : Nat.gcd a b = Nat.gcd b (a % b) := by rw [Nat.gcd_comm, Nat.gcd_rec, Nat.gcd_comm]
      by_cases h1 : a % b = 0
      · have : euS (b, a % b) = (b, a % b) := if_pos h1
        rw [this, g1, h1, euN_zero, Nat.gcd_zero_right]
      · have : euS (b, a % b) = (a % b, b % (a % b)) := if_neg h1
        rw [this]
        have g2 : Nat.gcd b (a % b) = Nat.gcd (a % b) (b % (a % b)) := by rw [Nat.gcd_comm, Nat.gcd_rec, Nat.gcd_comm]
        rw [g1, g2]
        refine eu_gcd m _ _ n ?_ (by omega)
        have l1 : a % b < b := Nat.mod_lt _ (by omega)
        have l2 : b % (a % b) < a % b := Nat.mod_lt _ (by omega)
        have l3 : b % (a % b) + (a % b) ≤ b := by
          have d := Nat.div_add_mod b (a % b)
          have q : 1 ≤ b / (a % b) := Nat.div_pos (by omega) (by omega)
          have := Nat.mul_le_mul_left (a % b) q
          omega
        rw [Nat.pow_succ] at hb
        omega
theorem rngU0 (n : Nat) : rngU 0 (n : Int) = (List.range n).map fun k : Nat => T.int (k : Int) := by
  unfold rngU; simp
section
variable {R : Prg} {n i j l : Nat}
theorem cMod (h : R.fns[i]? = some kMod) {a b : Int} (hb : 0 < b) (h2 : b.natAbs < 2 ^ 8999) (ha : a.natAbs < 2 ^ 8999) : callF R (n + 1) i [.int a, .int b] = some (.int (a % b), [.int a, .int b]) := by
  have d := op2_fdiv (i := a) hb (log9 h2 (by decide))
  have m : mulOk (a / b) b = true := mulOk_of (n := 8999) (m := 8999) (Nat.lt_of_le_of_lt (Int.natAbs_ediv_le_natAbs _ _) ha) h2 (by decide) (by decide)
  have e : a - a / b * b = a % b := by rw [Int.emod_def, Int.mul_comm]
  rw [callF_open h]
  simp [runF, kMod, evSs, evS, ev, wipeS, over, isF, d, op2_mul m, e]
theorem cGcd (h : R.fns[i]? = some (kGcd j)) (hj : R.fns[j]? = some kMod) {a b : Nat} (hb : b < 2 ^ 100) (ha : a < 2 ^ 8000) : callF R (n + 2) i [.int (a : Nat), .int (b : Nat)] = some (.int (Nat.gcd a b : Nat), [.hole, .hole]) := by
  rw [callF_open h]
  obtain ⟨t', e⟩ := forGo_fold (β := Nat) (set := setG (pgOf R (n + 1)) (.one (.nm 2))) (b := evSs (pgOf R (n + 1)) (kGcd_0 j))
    (S := fun (p : Nat × Nat) t => [.int (p.1 : Nat), .int (p.2 : Nat), t]) (f := fun p _ => euS p) (v := fun k => .int (k : Int)) (fun p ys => p.1 < 2 ^ 8000 ∧ p.2 < 2 ^ 8000) (fun a t x => rfl) (fun p x ys ⟨h1, h2⟩ => by
      have e : decide ((p.2 : Int) = 0) = decide (p.2 = 0) := decide_eq_decide.mpr (by omega)
      by_cases h0 : p.2 = 0
      · have eu : euS p = p := if_pos h0
        exact ⟨by simp [kGcd_0, evSs, evS, ev, e, h0, eu], by rw [eu]; exact ⟨h1, h2⟩⟩
      · have eu : euS p = (p.2, p.1 % p.2) := if_neg h0
        have z := cMod (n := n) hj (a := (p.1 : Int)) (b := (p.2 : Int)) (by omega) (by rw [Int.natAbs_natCast]; exact Nat.lt_of_lt_of_le h2 (Nat.pow_le_pow_right (by decide) (by decide))) (by rw [Int.natAbs_natCast]; exact Nat.lt_of_lt_of_le h1 (Nat.pow_le_pow_right (by decide) (by decide)))
        have lt : p.1 % p.2 < p.2 := Nat.mod_lt _ (by omega)
        refine ⟨by simp [kGcd_0, evSs, evS, ev, evL, evA, e, h0, eu, z, back, setNs], by rw [eu]; exact ⟨h2, Nat.lt_trans lt h2⟩⟩) (List.range 200) (a, b) .hole ⟨ha, Nat.lt_of_lt_of_le hb (Nat.pow_le_pow_right (by decide) (by decide))⟩
  have ef : ∀ (l : List Nat) (p : Nat × Nat), l.foldl (fun p _ => euS p) p = euN l.length p := fun l => by
    induction l with
    | nil => intro p; rfl
    | cons x xs ih => intro p; rw [List.foldl_cons, ih]; rfl
  rw [ef, List.length_range, eu_gcd 100 a b 200 hb (by decide)] at e
  simp only [Int.natCast_zero] at e
  have er : rngU 0 200 = (List.range 200).map fun k : Nat => T.int (k : Int) := rngU0 200
  simp [runF, kGcd, evSs, evS, ev, evI, rngOk, er, wipeS, e]
/-- a fraction of the law's -/
theorem cLfrac (h : R.fns[i]? = some (kLfrac j)) (hj : R.fns[j]? = some (kGcd l)) (hl : R.fns[l]? = some kMod) {a b : Int} (hb : 0 < b) (h2 : b < 2 ^ 100) (ha : a.natAbs < 2 ^ 8000) :
    callF R (n + 3) i [.int a, .int b] = some (fq ((a : Rat) / (b : Rat)), [.hole, .hole]) := by
  have e0 : decide (b < 0) = false := decide_eq_false (by omega)
  have z := cGcd (n := n) hj hl (a := a.natAbs) (b := b.natAbs) (by omega) ha
  obtain ⟨q1, q2⟩ := quot_num (a := a) hb
  have g0 : (0 : Int) < (Nat.gcd a.natAbs b.natAbs : Nat) := by
    have := Nat.gcd_pos_of_pos_right a.natAbs (n := b.natAbs) (by omega)
    omega
  have g1 : ((Nat.gcd a.natAbs b.natAbs : Nat) : Int).natAbs.log2 < 9000 := log9 (n := 100) (by
    rw [Int.natAbs_natCast]
    exact Nat.lt_of_le_of_lt (Nat.le_of_dvd (by omega) (Nat.gcd_dvd_right _ _)) (by omega)) (by decide)
  have eb : ((b.natAbs : Nat) : Int) = b := by omega
  have ea : (if a < 0 then -a else a) = ((a.natAbs : Nat) : Int) := by split <;> omega
  rw [eb] at z
  rw [callF_open h]
  simp [runF, kLfrac, evSs, evS, ev, evL, evA, setG, setG0, setNs, wipeS, over, isF, okN_of, e0, ea, z, back, op2_fdiv g0 g1, q1, q2]
theorem cLlt (h : R.fns[i]? = some kLlt) {p q : Rat} {m k : Nat} (hp : bq m p) (hq : bq k q) (hm : m ≤ 400000) (hk : k ≤ 400000) : callF R (n + 1) i [fq p, fq q] = some (.bl (decide (p < q)), [fq p, fq q]) := cLess h hp hq hm hk
end
end Pv

set_option exponentiation.threshold 10000
/-! _law_up: fractions put in their order. -/
namespace Pv
open PySem
def upK (a : Rat) (l : List Rat) : Nat := l.foldl (fun k b => if decide (a < b) then k else k + 1) 0
def upI (l : List Rat) (a : Rat) : List Rat := l.take (upK a l) ++ [a] ++ l.drop (upK a l)
def upV (l : List Rat) : List Rat := l.foldl upI []
theorem upK_le {a : Rat} : ∀ (l : List Rat) (k : Nat), l.foldl (fun k b => if decide (a < b) then k else k + 1) k ≤ k + l.length
  | [], k => by simp
  | b :: l, k => by
    rw [List.foldl_cons, List.length_cons]
    by_cases h : decide (a < b) = true
    · rw [if_pos h]; have := upK_le (a := a) l k; omega
    · rw [if_neg h]; have := upK_le (a := a) l (k + 1); omega
theorem upK_lt {a : Rat} (l : List Rat) : upK a l ≤ l.length := by
  have := upK_le (a := a) l 0
  unfold upK; omega
theorem upI_perm (l : List Rat) (a : Rat) : (upI l a).Perm (a :: l) := by
  unfold upI
  rw [List.append_assoc]
  refine List.perm_middle.trans (.cons a ?_)
  show (List.take (upK a l) l ++ List.drop (upK a l) l).Perm l
  rw [List.take_append_drop]
theorem upV_perm (l : List Rat) : (upV l).Perm l := by
  have : ∀ (l acc : List Rat), (l.foldl upI acc).Perm (l ++ acc) := fun l => by
    induction l with
    | nil => intro acc; exact .refl _
    | cons x xs ih => intro acc; exact (ih (upI acc x)).trans ((List.Perm.append_left xs (upI_perm acc x)).trans List.perm_middle)
  have z := this l []
  rwa [List.append_nil] at z
theorem sliceLo {ts : List T} {o : Bool} (h : isFs ts = true) {k : Nat} (hk : k ≤ ts.length) : sliceT (.lst o ts) none (some (k : Int)) = some (.lst true (ts.take k)) := by
  show (if isFs ts = true then _ else _) = _
  rw [if_pos h]
  unfold cutT
  rw [HT.sIx_nat, HT.sIx_none, Nat.min_eq_left hk]
  simp
theorem sliceHi {ts : List T} {o : Bool} (h : isFs ts = true) {k : Nat} (hk : k ≤ ts.length) : sliceT (.lst o ts) (some (k : Int)) none = some (.lst true (ts.drop k)) := by
  show (if isFs ts = true then _ else _) = _
  rw [if_pos h]
  unfold cutT
  rw [HT.sIx_nat, HT.sIx_none, Nat.min_eq_left hk, List.take_of_length_le (by simp)]
section
variable {R : Prg} {n i j l : Nat}
theorem op2_addL {o o2 : Bool} {ts us : List T} (h1 : isFs ts = true) (h2 : isFs us = true) (h3 : ts.length + us.length < 10000000) : op2 .add (.lst o ts) (.lst o2 us) = some (.lst true (ts ++ us)) := if_pos (by simp [h1, h2, h3])
theorem cUp (h : R.fns[i]? = some (kUp j)) (hj : R.fns[j]? = some kLlt) {o : Bool} {xs : List Rat} {m : Nat} (hx : ∀ x ∈ xs, bq m x) (hm : m ≤ 400000) (hl : xs.length < 1000000) :
    ∃ o', callF R (n + 2) i [.lst o (xs.map fq)] = some (.lst true ((upV xs).map fq), [.lst o' (xs.map fq)]) := by
  have fz : ∀ ys : List Rat, frzs (ys.map fq) = ys.map fq := frzs_map frz_fq
  have fs : ∀ ys : List Rat, isFs (ys.map fq) = true := isFs_map isF_fq
  rw [callF_open h]
  have inner : ∀ (a : Rat) (found : List Rat) (t : T), bq m a → (∀ x ∈ found, bq m x) → ∃ t', forGo (setG (pgOf R (n + 1)) (.one (.nm 4))) (evSs (pgOf R (n + 1)) (kUp_0 j)) (found.map fq) [.lst false (xs.map fq), .lst false (found.map fq), fq a, .int 0, t] = some (.nx, [.lst false (xs.map fq), .lst false (found.map fq), fq a, .int (upK a found : Nat), t']) := fun a found t ha hfd => by
    obtain ⟨t', e⟩ := forGo_fold (set := setG (pgOf R (n + 1)) (.one (.nm 4))) (b := evSs (pgOf R (n + 1)) (kUp_0 j))
      (S := fun (k : Nat) t => [.lst false (xs.map fq), .lst false (found.map fq), fq a, .int (k : Nat), t]) (f := fun k b => if decide (a < b) then k else k + 1) (v := fq) (fun _ ys => ∀ y ∈ ys, bq m y) (fun a t x => rfl) (fun k b ys hy => by
        refine ⟨?_, fun y hy' => hy y (List.mem_cons_of_mem _ hy')⟩
        have z := cLlt (n := n) hj ha (hy b List.mem_cons_self) hm hm
        by_cases c : a < b
        · simp [kUp_0, evSs, evS, ev, evA, isF, isFs, z, c, back]
        · simp [kUp_0, evSs, evS, ev, evA, isF, isFs, z, c, back, setG, setG0]) found 0 t hfd
    exact ⟨t', e⟩
  obtain ⟨fl, sl', e, rfl, t3, t4, t5, rfl⟩ := forGo_inv (set := setG (pgOf R (n + 1)) (.one (.nm 2))) (b := evSs (pgOf R (n + 1)) (kUp_1 j))
    (fun ts sl => ∃ ys found t3 t4 t5, ts = ys.map fq ∧ sl = [.lst false (xs.map fq), .lst true (found.map fq), t3, t4, t5] ∧ (∀ y ∈ ys, bq m y) ∧ (∀ y ∈ found, bq m y) ∧ ys.length + found.length = xs.length ∧ ys.foldl upI found = upV xs)
    (fun fl sl => fl = .nx ∧ ∃ t3 t4 t5, sl = [.lst false (xs.map fq), .lst true ((upV xs).map fq), t3, t4, t5])
    (fun x ts sl ⟨ys, found, t3, t4, t5, h1, h2, h3, h4, h5, h6⟩ => by
      cases ys with
      | nil => cases h1
      | cons y ys =>
        cases h1; subst h2
        have hy := h3 y List.mem_cons_self
        obtain ⟨t', e1⟩ := inner y found t5 hy h4
        have kl := upK_lt (a := y) found
        have kl' : upK y found ≤ (found.map fq).length := by simpa using kl
        have nl : found.length < 1000000 := by simp only [List.length_cons] at h5; omega
        have tk := sliceLo (o := false) (fs found) kl'
        have dr := sliceHi (o := false) (fs found) kl'
        refine ⟨_, .nx, [.lst false (xs.map fq), .lst true ((upI found y).map fq), fq y, .int (upK y found : Nat), t'], rfl, ?_, ys, upI found y, _, _, _, rfl, rfl, fun z hz => h3 z (List.mem_cons_of_mem _ hz), fun z hz => ?_, ?_, ?_⟩
        · have ft : isFs ((found.map fq).take (upK y found)) = true := by rw [← List.map_take]; exact fs _
          have fd : isFs ((found.map fq).drop (upK y found)) = true := by rw [← List.map_drop]; exact fs _
          have f1 : isFs ((found.map fq).take (upK y found) ++ [fq y]) = true := by rw [isFs_app, ft]; rfl
          have a1 := op2_addL (o := true) (o2 := true) ft (us := [fq y]) rfl (by simp; omega)
          have a2 := op2_addL (o := true) (o2 := true) f1 fd (by simp; omega)
          have e2 : List.map fq (upI found y) = (found.map fq).take (upK y found) ++ [fq y] ++ (found.map fq).drop (upK y found) := by simp [upI]
          rw [e2]
          simp [kUp_1, evSs, evS, ev, evI, evL, setG, setG0, items2, fz, fs, e1, brw, partE, over, okN_of, isF, isFs, tk, dr, a1, a2] <;> simp at e1 tk dr a1 a2 ⊢ <;> simp [e1, tk, dr, a1, a2]
        · rcases List.mem_cons.mp ((upI_perm found y).mem_iff.mp hz) with rfl | hz
          · exact hy
          · exact h4 z hz
        · have := (upI_perm found y).length_eq
          simp only [List.length_cons] at this h5 ⊢
          omega
        · exact h6)
    (fun sl ⟨ys, found, t3, t4, t5, h1, h2, h3, h4, h5, h6⟩ => by
      cases ys with
      | cons => cases h1
      | nil => subst h2; exact ⟨rfl, t3, t4, t5, by rw [← h6]; rfl⟩)
    (xs.map fq) [.lst false (xs.map fq), .lst true [], .hole, .hole, .hole] ⟨xs, [], _, _, _, rfl, rfl, hx, fun _ hy => (nomatch hy), by simp, rfl⟩
  refine ⟨false, ?_⟩
  cases o <;> simp [runF, kUp, evSs, evS, ev, evI, evL, setG, setG0, items2, fz, wipeS, okN_of, e]
end
end Pv

/-! Comparing, searching and sorting of plain data. -/
namespace Pv
open PySem
abbrev intsL (o : Bool) (ns : List Int) : T := .lst o (ns.map T.int)
theorem pds_ints : ∀ ns : List Int, pds (ns.map T.int) = some (ns.map PyData.int)
  | [] => rfl
  | n :: ns => by
    show (match pd (.int n), pds (ns.map T.int) with
      | some d, some ds => some (d :: ds)
      | _, _ => none) = _
    rw [pds_ints ns]; rfl
theorem canLay_ints : ∀ ns : List Int, PyData.canLayAll0 (ns.map PyData.int) = true
  | [] => rfl
  | n :: ns => by
    show (PyData.canLay0 (.int n) && PyData.canLayAll0 (ns.map PyData.int)) = true
    rw [canLay_ints ns]; rfl
theorem depth_ints : ∀ ns : List Int, PyData.depthAll (ns.map PyData.int) = 0
  | [] => rfl
  | n :: ns => by
    show max (PyData.depth (.int n)) (PyData.depthAll (ns.map PyData.int)) = 0
    rw [depth_ints ns]; rfl
theorem eqv_ints : ∀ ns ms : List Int, PyData.eqvAll (ns.map PyData.int) (ms.map PyData.int) = decide (ns = ms)
  | [], [] => by simp [PyData.eqvAll]
  | [], _ :: _ => by simp [PyData.eqvAll]
  | _ :: _, [] => by simp [PyData.eqvAll]
  | n :: ns, m :: ms => by
    show (PyData.eqv (.int n) (.int m) && PyData.eqvAll (ns.map PyData.int) (ms.map PyData.int)) = _
    rw [eqv_ints ns ms]
    have : PyData.eqv (.int n) (.int m) = decide (n = m) := by unfold PyData.eqv; rfl
    rw [this]
    by_cases h : n = m <;> by_cases h2 : ns = ms <;> simp [h, h2]
theorem eqT_ints {o o2 : Bool} {ns ms : List Int} : eqT (intsL o ns) (intsL o2 ms) = some (decide (ns = ms)) := by
  unfold eqT
  have e : ∀ o ns, pd (intsL o ns) = some (.list (ns.map .int)) := fun o ns => by
    show (pds (ns.map T.int)).map PyData.list = _
    rw [pds_ints]; rfl
  have s : ∀ ns : List Int, SeqAt.shaped (.list (ns.map .int)) = true := fun ns => by
    unfold SeqAt.shaped
    have h1 : PyData.canLay0 (.list (ns.map .int)) = true := canLay_ints ns
    have h2 : PyData.depth (.list (ns.map .int)) = 1 := by show PyData.depthAll _ + 1 = 1; rw [depth_ints]
    rw [h1, h2]; rfl
  rw [e, e]
  simp only [s, Bool.and_self, if_true]
  congr 1
  exact eqv_ints ns ms
theorem eqT_pair {a b c d : Int} : eqT (.tup [.int a, .int b]) (.tup [.int c, .int d]) = some (decide (a = c ∧ b = d)) := by
  have s : ∀ a b : Int, SeqAt.shaped (.tuple [.int a, .int b]) = true := fun a b => rfl
  have e : ∀ a b : Int, pd (.tup [.int a, .int b]) = some (.tuple [.int a, .int b]) := fun a b => rfl
  unfold eqT
  rw [e, e]
  simp only [s, Bool.and_self, if_true]
  congr 1
  show ((a == c) && ((b == d) && true)) = _
  by_cases h : a = c <;> by_cases h2 : b = d <;> simp [h, h2]
theorem rat_eq {p q : Rat} : (p.num = q.num ∧ (p.den : Int) = (q.den : Int)) ↔ p = q := ⟨fun ⟨h1, h2⟩ => Rat.ext h1 (by omega), fun h => by subst h; exact ⟨rfl, rfl⟩⟩
theorem eqT_fq {p q : Rat} : eqT (fq p) (fq q) = some (decide (p = q)) := by
  rw [eqT_pair]
  congr 1
  exact decide_eq_decide.mpr rat_eq
/-! ### pairs of whole numbers -/
abbrev prT (p : Nat × Nat) : T := .tup [.int (p.1 : Nat), .int (p.2 : Nat)]
def prD (p : Nat × Nat) : PyData := .tuple [.int (p.1 : Nat), .int (p.2 : Nat)]
theorem pd_pr (p : Nat × Nat) : pd (prT p) = some (prD p) := rfl
theorem pds_prs : ∀ ps : List (Nat × Nat), pds (ps.map prT) = some (ps.map prD)
  | [] => rfl
  | n :: ns => by
    show (match pd (prT n), pds (ns.map prT) with
      | some d, some ds => some (d :: ds)
      | _, _ => none) = _
    rw [pds_prs ns]; rfl
theorem canLay_prs : ∀ ns : List (Nat × Nat), PyData.canLayAll0 (ns.map prD) = true
  | [] => rfl
  | n :: ns => by
    show (PyData.canLay0 (prD n) && PyData.canLayAll0 (ns.map prD)) = true
    rw [canLay_prs ns]; rfl
theorem depth_prs : ∀ ns : List (Nat × Nat), PyData.depthAll (ns.map prD) ≤ 1
  | [] => by show 0 ≤ 1; omega
  | n :: ns => by
    show max (PyData.depth (prD n)) (PyData.depthAll (ns.map prD)) ≤ 1
    have := depth_prs ns
    have e : PyData.depth (prD n) = 1 := rfl
    rw [e]; omega
theorem eqv_pr (p q : Nat × Nat) : PyData.eqv (prD p) (prD q) = decide (p = q) := by
  show (((p.1 : Int) == (q.1 : Int)) && (((p.2 : Int) == (q.2 : Int)) && true)) = _
  obtain ⟨a, b⟩ := p
  obtain ⟨c, d⟩ := q
  rw [Bool.eq_iff_iff]
  simp
  omega
theorem inT_pr {p : Nat × Nat} {ts : List T} : inT (prT p) ts = none := rfl
theorem inL_pr {p : Nat × Nat} {ps : List (Nat × Nat)} : inL (prT p) (ps.map prT) = some (decide (p ∈ ps)) := by
  unfold inL
  rw [inT_pr]
  simp only [pd_pr, pds_prs]
  have s : SeqAt.shaped (prD p) = true := rfl
  have s2 : SeqAt.shaped (.list (ps.map prD)) = true := by
    unfold SeqAt.shaped
    have h1 : PyData.canLay0 (.list (ps.map prD)) = true := canLay_prs ps
    have h2 : PyData.depth (.list (ps.map prD)) ≤ 64 := by
      show PyData.depthAll _ + 1 ≤ 64
      have := depth_prs ps
      omega
    rw [h1, decide_eq_true h2]; rfl
  simp only [s, s2, Bool.and_self, if_true]
  congr 1
  rw [Bool.eq_iff_iff]
  simp only [List.any_map, List.any_eq_true, Function.comp, decide_eq_true_eq, eqv_pr]
  exact ⟨fun ⟨x, h, e⟩ => e ▸ h, fun h => ⟨p, h, rfl⟩⟩
theorem alike_pr (p q : Nat × Nat) : W.alike (prD p) (prD q) = true := rfl
/-- sorted pairs: the same pairs -/
theorem sorted_prs {o : Bool} {ps : List (Nat × Nat)} (hl : ps.length < 10000000) : ∃ qs : List (Nat × Nat), op1 .sorted (.lst o (ps.map prT)) = some (.lst true (qs.map prT)) ∧ qs.Perm ps := by
  cases ps with
  | nil => exact ⟨[], rfl, .refl _⟩
  | cons p ps =>
    have e1 : sortT ((p :: ps).map prT) = none := rfl
    have e2 : sortD ((p :: ps).map prT) = some (((p :: ps).map prT).mergeSort leD) := by
      unfold sortD
      rw [pds_prs]
      have h1 : isFs ((p :: ps).map prT) = true := isFs_map (fun q => rfl) _
      have h2 : allAlikeB ((p :: ps).map prD) = true := by
        unfold allAlikeB
        simp only [List.all_map, List.all_eq_true, Function.comp]
        exact fun x _ y _ => alike_pr x y
      have h3 : ((p :: ps).map prD).all tupB = true := by
        rw [List.all_map, List.all_eq_true]
        exact fun x _ => rfl
      have h4 : ((p :: ps).map prD).all (fun d => decide (d.depth ≤ 20)) = true := by
        rw [List.all_map, List.all_eq_true]
        exact fun x _ => rfl
      have h5 : decide (((p :: ps).map prT).length < 10000000) = true := decide_eq_true (by simpa using hl)
      show (if isFs ((p :: ps).map prT) && allAlikeB ((p :: ps).map prD) && (((p :: ps).map prD).all tupB || ((p :: ps).map prD).all othB) && ((p :: ps).map prD).all (fun d => decide (d.depth ≤ 20)) && decide (((p :: ps).map prT).length < 10000000) then some (((p :: ps).map prT).mergeSort leD) else none) = _
      rw [h1, h2, h3, h4, h5]; rfl
    have pm := List.mergeSort_perm ((p :: ps).map prT) leD
    have ex : ∀ ts : List T, (∀ t ∈ ts, ∃ q, t = prT q) → ∃ qs : List (Nat × Nat), ts = qs.map prT := fun ts => by
      induction ts with
      | nil => intro _; exact ⟨[], rfl⟩
      | cons t ts ih =>
        intro h
        obtain ⟨q, rfl⟩ := h t List.mem_cons_self
        obtain ⟨qs, rfl⟩ := ih fun t ht => h t (List.mem_cons_of_mem _ ht)
        exact ⟨q :: qs, rfl⟩
    obtain ⟨qs, hq⟩ := ex (((p :: ps).map prT).mergeSort leD) fun t ht => by
      obtain ⟨q, _, e⟩ := List.mem_map.mp (pm.mem_iff.mp ht)
      exact ⟨q, e.symm⟩
    refine ⟨qs, ?_, ?_⟩
    · show (((sortT ((p :: ps).map prT)).orElse fun _ => sortD ((p :: ps).map prT)).map (T.lst true)) = _
      rw [e1, e2, hq]; rfl
    · rw [hq] at pm
      have inj : ∀ a b : Nat × Nat, prT a = prT b → a = b := fun a b h => by
        obtain ⟨a1, a2⟩ := a
        obtain ⟨b1, b2⟩ := b
        simp only [prT, T.tup.injEq, List.cons.injEq, T.int.injEq, and_true] at h
        obtain ⟨h1, h2⟩ := h
        have : a1 = b1 := by omega
        have : a2 = b2 := by omega
        simp [*]
      have un : ∃ g : T → Nat × Nat, ∀ p, g (prT p) = p := ⟨fun t => match t with
        | .tup [.int a, .int b] => (a.toNat, b.toNat)
        | _ => (0, 0), fun p => by simp⟩
      obtain ⟨g, hg⟩ := un
      have z := pm.map g
      have e : ∀ l : List (Nat × Nat), (l.map prT).map g = l := fun l => by
        rw [List.map_map]
        have : g ∘ prT = id := funext hg
        rw [this, List.map_id]
      rwa [e, e] at z
end Pv

/-! Running by single steps. -/
namespace Pv
open PySem
section
variable {P : Pg} {sl sl1 sl2 : SL} {r ts us : List T} {t u : T} {m : Md}
theorem runF_go {f : Fn} (h1 : ts.length = f.np) (h : evSs P f.body (ts ++ List.replicate (f.ns - f.np) .hole) = some (.rt t, sl)) : runF P f ts = some (t, (wipeS f.st sl).take f.np) := by
  unfold runF
  rw [if_pos h1, h]; rfl
theorem runF_go0 {f : Fn} (h1 : ts.length = f.np) (h : evSs P f.body (ts ++ List.replicate (f.ns - f.np) .hole) = some (.nx, sl)) : runF P f ts = some (.non, (wipeS f.st sl).take f.np) := by
  unfold runF
  rw [if_pos h1, h]; rfl
theorem evSs_nx {s : S} {ss : Ss} (h : evS P s sl = some (.nx, sl2)) : evSs P (Ss.cons s ss) sl = evSs P ss sl2 := by
  simp only [evSs, h, Option.bind_some]
theorem evSs_rt {s : S} {ss : Ss} (h : evS P s sl = some (.rt t, sl2)) : evSs P (Ss.cons s ss) sl = some (.rt t, sl2) := by
  simp only [evSs, h, Option.bind_some]
theorem go_nil : evSs P .nil sl = some (.nx, sl) := by simp only [evSs]
theorem go_lc {own : List Nat} {g : G} {it : It} {c elt : E} (hi : evI P it sl = some (ts, sl1)) (ho : ownOk own sl1 = true) (hl : lcGo (setG P g) (ev P .t c) (ev P .e elt) (wipeS own) ts sl1 [] = some (r, sl2)) (hm : m ≠ .t) : ev P m (.lc own g it c elt) sl = some (.lst true r, restS sl1 own (wipeS own sl2)) := by
  simp only [ev]
  rw [hi]
  show (if ownOk own sl1 = true then _ else none) = _
  rw [if_pos ho, hl]
  cases m <;> first | rfl | exact absurd rfl hm
theorem evI_rng1' {a : E} {m : Int} (h : ev P .e a sl = some (.int m, sl1)) (ok : rngOk 0 m = true) : evI P (.rng1 a) sl = some (rngU 0 m, sl1) := by
  simp only [evI]
  rw [h]
  simp only [Option.bind_some, ok, if_true]
theorem rngOk_nat {n : Nat} (ok : n ≤ 1000000) : rngOk 0 (n : Int) = true := by
  unfold rngOk
  simp only [Bool.and_eq_true, decide_eq_true_eq]
  omega
theorem evI_rng1 {a : E} {n : Nat} (h : ev P .e a sl = some (.int (n : Int), sl1)) (ok : n ≤ 1000000) : evI P (.rng1 a) sl = some ((List.range n).map fun k : Nat => .int (k : Int), sl1) := by
  rw [evI_rng1' h (rngOk_nat ok), rngU0]
theorem evI_rng2 {a b : E} {n k : Int} (h : ev P .e a sl = some (.int n, sl1)) (h2 : ev P .e b sl1 = some (.int k, sl2)) (ok : rngOk n k = true) : evI P (.rng2 a b) sl = some (rngU n k, sl2) := by
  simp only [evI]
  rw [h]
  simp only [Option.bind_some]
  rw [h2]
  simp only [Option.bind_some, ok, if_true]
theorem evI_seq {e : E} (h : ev P .e e sl = some (t, sl1)) (h2 : items2 t = some ts) : evI P (.seq e) sl = some (ts, sl1) := by
  simp only [evI]
  rw [h]
  simp only [Option.bind_some]
  rw [h2]; rfl
theorem evS_asg {e : E} {g : G} (h : ev P .e e sl = some (t, sl1)) (h2 : setG P g t sl1 = some sl2) : evS P (.asg g e) sl = some (.nx, sl2) := by
  simp only [evS]
  rw [h]
  simp only [Option.bind_some]
  rw [h2]; rfl
theorem evS_asg1 {e : E} {i : Nat} (h : ev P .e e sl = some (t, sl1)) : evS P (.asg (.one (.nm i)) e) sl = some (.nx, sl1.set i t) := evS_asg h rfl
theorem evS_ret {e : E} (h : ev P .e e sl = some (t, sl1)) : evS P (.ret e) sl = some (.rt t, sl1) := by
  simp only [evS]
  rw [h]; rfl
theorem evS_exp {e : E} (h : ev P .e e sl = some (t, sl1)) : evS P (.exp e) sl = some (.nx, sl1) := by
  simp only [evS]
  rw [h]; rfl
theorem evS_for {g : G} {it : It} {b : Ss} {fl : Fl} (hi : evI P it sl = some (ts, sl1)) (hf : forGo (setG P g) (evSs P b) ts sl1 = some (fl, sl2)) : evS P (.forr g it b) sl = some (fl, sl2) := by
  simp only [evS]
  rw [hi]
  exact hf
theorem evS_if {c : E} {a b : Ss} {k : Bool} (h : ev P .t c sl = some (.bl k, sl1)) : evS P (.iff c a b) sl = evSs P (if k then a else b) sl1 := by
  simp only [evS]
  rw [h]
  cases k <;> rfl
theorem go_call {f : Nat} {es : Es} {bk : List (Option Nat)} (ha : evA P es sl = some (ts, bk, sl1)) (hc : P.cf f ts = some (t, us)) (hm : m ≠ .t) : ev P m (.call f es) sl = some (t, back bk us sl1) := by
  simp only [ev]
  rw [ha]
  simp only [Option.bind_some]
  rw [hc]
  cases m <;> first | rfl | exact absurd rfl hm
theorem go_callB {f : Nat} {es : Es} {bk : List (Option Nat)} {b : Bool} (ha : evA P es sl = some (ts, bk, sl1)) (hc : P.cf f ts = some (.bl b, us)) : ev P m (.call f es) sl = some (.bl b, back bk us sl1) := by
  simp only [ev]
  rw [ha]
  simp only [Option.bind_some]
  rw [hc]
  cases m <;> rfl
end
end Pv

/-! The program of this law, as the layer sees it. Printed by gen.py. -/
namespace W96
open PySem L2 PyProof.Rows Pv
abbrev pg : Program := PySem.Challenge.pw_fairmarks_k96_whole_suspicions
def top (i : Nat) : Stmt := pg.main.body.getD i (.Pass ⟨0, 0, 0, 0⟩)
def inn (i j : Nat) : Stmt := match top i with
  | .ClassDef _ _ _ b _ _ _ _ _ _ _ => b.getD j (.Pass ⟨0, 0, 0, 0⟩)
  | s => s
def d0 : DefT × He.DefD := defOf (top 7) ("fraction", none) "fraction" []
def d1 : DefT × He.DefD := defOf (top 8) ("add", none) "add" []
def d2 : DefT × He.DefD := defOf (top 9) ("minus", none) "minus" []
def d3 : DefT × He.DefD := defOf (top 10) ("times", none) "times" []
def d4 : DefT × He.DefD := defOf (top 11) ("less", none) "less" []
def d5 : DefT × He.DefD := defOf (top 12) ("total_of", none) "total_of" []
def d6 : DefT × He.DefD := defOf (top 14) ("check_share", none) "check_share" []
def d7 : DefT × He.DefD := defOf (top 15) ("sums", none) "sums" ["k"]
def d8 : DefT × He.DefD := defOf (top 16) ("hits_of", none) "hits_of" []
def d9 : DefT × He.DefD := defOf (top 18) ("check_answers", none) "check_answers" []
def d10 : DefT × He.DefD := defOf (top 19) ("both_wrong", none) "both_wrong" ["k"]
def d11 : DefT × He.DefD := defOf (top 20) ("alike_wrong", none) "alike_wrong" ["k"]
def d12 : DefT × He.DefD := defOf (top 21) ("shares_wrong", none) "shares_wrong" ["sheet", "answer"]
def d13 : DefT × He.DefD := defOf (top 22) ("chance_by_sheets", none) "chance_by_sheets" ["share"]
def d14 : DefT × He.DefD := defOf (top 23) ("suspicious", none) "suspicious" []
def d15 : DefT × He.DefD := defOf (top 24) ("score", none) "score" ["k"]
def d16 : DefT × He.DefD := defOf (top 26) ("_law_draw", none) "_law_draw" []
def d17 : DefT × He.DefD := defOf (top 27) ("_law_tape", none) "_law_tape" []
def d18 : DefT × He.DefD := defOf (top 28) ("_law_mod", none) "_law_mod" []
def d19 : DefT × He.DefD := defOf (top 29) ("_law_gcd", none) "_law_gcd" []
def d20 : DefT × He.DefD := defOf (top 30) ("_law_frac", none) "_law_frac" []
def d21 : DefT × He.DefD := defOf (top 31) ("_law_lt", none) "_law_lt" []
def d22 : DefT × He.DefD := defOf (top 32) ("_law_up", none) "_law_up" []
def d23 : DefT × He.DefD := defOf (top 33) ("law", none) "law" ["k", "pair"]
def cs : List (Str × T) := [("ZERO", .tup [.int (0), .int (1)]), ("ONE", .tup [.int (1), .int (1)])]
def fs : List (Str × Nat) := [("fraction", 0), ("add", 1), ("minus", 2), ("times", 3), ("less", 4), ("total_of", 5), ("check_share", 6), ("sums", 7), ("hits_of", 8), ("check_answers", 9), ("both_wrong", 10), ("alike_wrong", 11), ("shares_wrong", 12), ("chance_by_sheets", 13), ("suspicious", 14), ("score", 15), ("_law_draw", 16), ("_law_tape", 17), ("_law_mod", 18), ("_law_gcd", 19), ("_law_frac", 20), ("_law_lt", 21), ("_law_up", 22), ("law", 23)]
def cl : List (Str × Nat) := []
def im : List (Str × String) := [("gcd", "math.gcd")]
def bl : List Str := ["abs", "enumerate", "int", "isinstance", "len", "list", "range", "set", "sorted"]
def G : Gm := { N := [], sc := default, fnc := fun _ => true, cs := cs, fs := fs, cl := cl, im := im, bl := bl, mv := [] }
def mt : List ((Str × Str) × Nat) := []
def fd : List (Str × Str) := []
def S : Src := ⟨[d0, d1, d2, d3, d4, d5, d6, d7, d8, d9, d10, d11, d12, d13, d14, d15, d16, d17, d18, d19, d20, d21, d22, d23], G, mt, fd⟩
theorem ok : S.ok = true := by decide +kernel
theorem b0 : BindsTo_ d0.1 := fun _ _ _ _ _ _ us hl => match us, hl with
  | [_, _], _ => rfl
theorem b1 : BindsTo_ d1.1 := fun _ _ _ _ _ _ us hl => match us, hl with
  | [_, _], _ => rfl
theorem b2 : BindsTo_ d2.1 := fun _ _ _ _ _ _ us hl => match us, hl with
  | [_, _], _ => rfl
theorem b3 : BindsTo_ d3.1 := fun _ _ _ _ _ _ us hl => match us, hl with
  | [_, _], _ => rfl
theorem b4 : BindsTo_ d4.1 := fun _ _ _ _ _ _ us hl => match us, hl with
  | [_, _], _ => rfl
theorem b5 : BindsTo_ d5.1 := fun _ _ _ _ _ _ us hl => match us, hl with
  | [_], _ => rfl
theorem b6 : BindsTo_ d6.1 := fun _ _ _ _ _ _ us hl => match us, hl with
  | [_], _ => rfl
theorem b7 : BindsTo_ d7.1 := fun _ _ _ _ _ _ us hl => match us, hl with
  | [_, _], _ => rfl
theorem b8 : BindsTo_ d8.1 := fun _ _ _ _ _ _ us hl => match us, hl with
  | [_], _ => rfl
theorem b9 : BindsTo_ d9.1 := fun _ _ _ _ _ _ us hl => match us, hl with
  | [_, _, _], _ => rfl
theorem b10 : BindsTo_ d10.1 := fun _ _ _ _ _ _ us hl => match us, hl with
  | [_, _, _], _ => rfl
theorem b11 : BindsTo_ d11.1 := fun _ _ _ _ _ _ us hl => match us, hl with
  | [_, _, _], _ => rfl
theorem b12 : BindsTo_ d12.1 := fun _ _ _ _ _ _ us hl => match us, hl with
  | [_, _, _], _ => rfl
theorem b13 : BindsTo_ d13.1 := fun _ _ _ _ _ _ us hl => match us, hl with
  | [_, _, _, _], _ => rfl
theorem b14 : BindsTo_ d14.1 := fun _ _ _ _ _ _ us hl => match us, hl with
  | [_, _, _], _ => rfl
theorem b15 : BindsTo_ d15.1 := fun _ _ _ _ _ _ us hl => match us, hl with
  | [_, _], _ => rfl
theorem b16 : BindsTo_ d16.1 := fun _ _ _ _ _ _ us hl => match us, hl with
  | [_, _], _ => rfl
theorem b17 : BindsTo_ d17.1 := fun _ _ _ _ _ _ us hl => match us, hl with
  | [_], _ => rfl
theorem b18 : BindsTo_ d18.1 := fun _ _ _ _ _ _ us hl => match us, hl with
  | [_, _], _ => rfl
theorem b19 : BindsTo_ d19.1 := fun _ _ _ _ _ _ us hl => match us, hl with
  | [_, _], _ => rfl
theorem b20 : BindsTo_ d20.1 := fun _ _ _ _ _ _ us hl => match us, hl with
  | [_, _], _ => rfl
theorem b21 : BindsTo_ d21.1 := fun _ _ _ _ _ _ us hl => match us, hl with
  | [_, _], _ => rfl
theorem b22 : BindsTo_ d22.1 := fun _ _ _ _ _ _ us hl => match us, hl with
  | [_], _ => rfl
theorem b23 : BindsTo_ d23.1 := fun _ _ _ _ _ _ us hl => match us, hl with
  | [_], _ => rfl
theorem sames : ∀ d ∈ S.ds, same d ∧ BindsTo_ d.1 := by
  intro d hd
  unfold S at hd
  simp only [List.mem_cons, List.not_mem_nil, or_false] at hd
  rcases hd with rfl | rfl | rfl | rfl | rfl | rfl | rfl | rfl | rfl | rfl | rfl | rfl | rfl | rfl | rfl | rfl | rfl | rfl | rfl | rfl | rfl | rfl | rfl | rfl
  · exact ⟨same_def, b0⟩
  · exact ⟨same_def, b1⟩
  · exact ⟨same_def, b2⟩
  · exact ⟨same_def, b3⟩
  · exact ⟨same_def, b4⟩
  · exact ⟨same_def, b5⟩
  · exact ⟨same_def, b6⟩
  · exact ⟨same_def, b7⟩
  · exact ⟨same_def, b8⟩
  · exact ⟨same_def, b9⟩
  · exact ⟨same_def, b10⟩
  · exact ⟨same_def, b11⟩
  · exact ⟨same_def, b12⟩
  · exact ⟨same_def, b13⟩
  · exact ⟨same_def, b14⟩
  · exact ⟨same_def, b15⟩
  · exact ⟨same_def, b16⟩
  · exact ⟨same_def, b17⟩
  · exact ⟨same_def, b18⟩
  · exact ⟨same_def, b19⟩
  · exact ⟨same_def, b20⟩
  · exact ⟨same_def, b21⟩
  · exact ⟨same_def, b22⟩
  · exact ⟨same_def, b23⟩
abbrev R : PySem.W.OpenRow := PySem.W.OpenLaw.row PySem.Challenge.rw_fairmarks_k96_whole_suspicions
abbrev vw : Program := PySem.W.view R.prog [0, 33]
def lo0 : List Str := ["__name__", "MarkError", "BadNumber", "ZERO", "ONE", "fraction", "add", "minus", "times", "less", "total_of", "check_share", "sums", "hits_of", "check_answers", "both_wrong", "alike_wrong", "shares_wrong", "chance_by_sheets", "suspicious", "score", "_law_draw", "_law_tape", "_law_mod", "_law_gcd", "_law_frac", "_law_lt", "_law_up"]
abbrev loose : List Str := lo0
abbrev nh : Nat := 5
abbrev hk : PySem.W.Hook := hookV nh S.fa S.fn (exB S.Γ)
def lawI : Nat := 23
end W96

namespace W96
open PySem L2 PyProof.Rows Pv
theorem run (w : World) : HandSHeadRun.RunEqI R vw hk (obV nh S.fa S.fn (exB S.Γ)) 3000 loose w := by
  unfold HandSHeadRun.RunEqI
  kernel_rfl
end W96

/-! The small language's text of each def, as Lean printed it. -/
namespace W96
open Pv
def f0 : Fn := { np := 2, ns := 3, st := [0, 1], body := (Ss.cons (S.iff (E.op2 O2.eq (E.var 1) (E.cst (T.int (Int.ofNat 0)))) (Ss.cons S.bad Ss.nil) Ss.nil) (Ss.cons (S.iff (E.op2 O2.lt (E.var 1) (E.cst (T.int (Int.ofNat 0)))) (Ss.cons (S.par [0, 1] (Es.cons (E.op1 O1.neg (E.var 0)) (Es.cons (E.op1 O1.neg (E.var 1)) Es.nil))) Ss.nil) Ss.nil) (Ss.cons (S.asg (G.one (G0.nm 2)) (E.op2 O2.gcd (E.var 0) (E.var 1))) (Ss.cons (S.ret (E.tup (Es.cons (E.op2 O2.fdiv (E.var 0) (E.var 2)) (Es.cons (E.op2 O2.fdiv (E.var 1) (E.var 2)) Es.nil)))) Ss.nil)))) }
def f1 : Fn := { np := 2, ns := 2, st := [], body := (Ss.cons (S.ret (E.call 0 (Es.cons (E.op2 O2.add (E.op2 O2.mul (E.idx (E.var 0) (E.cst (T.int (Int.ofNat 0)))) (E.idx (E.var 1) (E.cst (T.int (Int.ofNat 1))))) (E.op2 O2.mul (E.idx (E.var 1) (E.cst (T.int (Int.ofNat 0)))) (E.idx (E.var 0) (E.cst (T.int (Int.ofNat 1)))))) (Es.cons (E.op2 O2.mul (E.idx (E.var 0) (E.cst (T.int (Int.ofNat 1)))) (E.idx (E.var 1) (E.cst (T.int (Int.ofNat 1))))) Es.nil)))) Ss.nil) }
def f2 : Fn := { np := 2, ns := 2, st := [], body := (Ss.cons (S.ret (E.call 0 (Es.cons (E.op2 O2.sub (E.op2 O2.mul (E.idx (E.var 0) (E.cst (T.int (Int.ofNat 0)))) (E.idx (E.var 1) (E.cst (T.int (Int.ofNat 1))))) (E.op2 O2.mul (E.idx (E.var 1) (E.cst (T.int (Int.ofNat 0)))) (E.idx (E.var 0) (E.cst (T.int (Int.ofNat 1)))))) (Es.cons (E.op2 O2.mul (E.idx (E.var 0) (E.cst (T.int (Int.ofNat 1)))) (E.idx (E.var 1) (E.cst (T.int (Int.ofNat 1))))) Es.nil)))) Ss.nil) }
def f3 : Fn := { np := 2, ns := 2, st := [], body := (Ss.cons (S.ret (E.call 0 (Es.cons (E.op2 O2.mul (E.idx (E.var 0) (E.cst (T.int (Int.ofNat 0)))) (E.idx (E.var 1) (E.cst (T.int (Int.ofNat 0))))) (Es.cons (E.op2 O2.mul (E.idx (E.var 0) (E.cst (T.int (Int.ofNat 1)))) (E.idx (E.var 1) (E.cst (T.int (Int.ofNat 1))))) Es.nil)))) Ss.nil) }
def f4 : Fn := { np := 2, ns := 2, st := [], body := (Ss.cons (S.ret (E.op2 O2.lt (E.op2 O2.mul (E.idx (E.var 0) (E.cst (T.int (Int.ofNat 0)))) (E.idx (E.var 1) (E.cst (T.int (Int.ofNat 1))))) (E.op2 O2.mul (E.idx (E.var 1) (E.cst (T.int (Int.ofNat 0)))) (E.idx (E.var 0) (E.cst (T.int (Int.ofNat 1))))))) Ss.nil) }
def f5_0 : Ss := (Ss.cons (S.asg (G.one (G0.nm 1)) (E.call 1 (Es.cons (E.var 1) (Es.cons (E.var 2) Es.nil)))) Ss.nil)
def f5 : Fn := { np := 1, ns := 3, st := [], body := (Ss.cons (S.asg (G.one (G0.nm 1)) (E.glb (("ZERO" : PySem.Str)) (T.tup [(T.int (Int.ofNat 0)), (T.int (Int.ofNat 1))]))) (Ss.cons (S.forr (G.one (G0.nm 2)) (It.var 0) f5_0) (Ss.cons (S.ret (E.mov 1)) Ss.nil))) }
def f6 : Fn := { np := 1, ns := 1, st := [], body := (Ss.cons (S.iff (E.orr (E.call 4 (Es.cons (E.var 0) (Es.cons (E.glb (("ZERO" : PySem.Str)) (T.tup [(T.int (Int.ofNat 0)), (T.int (Int.ofNat 1))])) Es.nil))) (E.call 4 (Es.cons (E.glb (("ONE" : PySem.Str)) (T.tup [(T.int (Int.ofNat 1)), (T.int (Int.ofNat 1))])) (Es.cons (E.var 0) Es.nil)))) (Ss.cons S.bad Ss.nil) Ss.nil) Ss.nil) }
def f7_0 : E := (E.cst (T.bl true))
def f7_1 : E := (E.glb (("ZERO" : PySem.Str)) (T.tup [(T.int (Int.ofNat 0)), (T.int (Int.ofNat 1))]))
def f7_2 : Ss := (Ss.cons (S.pst (E.var 2) (E.op2 O2.add (E.var 3) (E.var 5)) (E.call 1 (Es.cons (E.frzp (E.idx (E.var 2) (E.op2 O2.add (E.var 3) (E.var 5))) (E.idx (E.var 2) (E.op2 O2.add (E.var 3) (E.var 5)))) (Es.cons (E.call 3 (Es.cons (E.var 4) (Es.cons (E.var 6) Es.nil))) Es.nil)))) Ss.nil)
def f7_3 : Ss := (Ss.cons (S.forr (G.tp [(G0.nm 5), (G0.nm 6)]) (It.enum (E.var 1)) f7_2) Ss.nil)
def f7 : Fn := { np := 2, ns := 8, st := [], body := (Ss.cons (S.asg (G.one (G0.nm 2)) (E.lc [7] (G.one (G0.nm 7)) (It.rng1 (E.op2 O2.sub (E.op2 O2.add (E.op1 O1.len (E.var 0)) (E.op1 O1.len (E.var 1))) (E.cst (T.int (Int.ofNat 1))))) f7_0 f7_1)) (Ss.cons (S.forr (G.tp [(G0.nm 3), (G0.nm 4)]) (It.enum (E.var 0)) f7_3) (Ss.cons (S.ret (E.mov 2)) Ss.nil))) }
def f8_0 : Ss := (Ss.cons (S.exp (E.call 6 (Es.cons (E.var 2) Es.nil))) (Ss.cons (S.asg (G.one (G0.nm 1)) (E.call 7 (Es.cons (E.var 1) (Es.cons (E.lst (Es.cons (E.call 2 (Es.cons (E.glb (("ONE" : PySem.Str)) (T.tup [(T.int (Int.ofNat 1)), (T.int (Int.ofNat 1))])) (Es.cons (E.var 2) Es.nil))) (Es.cons (E.var 2) Es.nil))) Es.nil)))) Ss.nil))
def f8 : Fn := { np := 1, ns := 3, st := [], body := (Ss.cons (S.asg (G.one (G0.nm 1)) (E.lst (Es.cons (E.glb (("ONE" : PySem.Str)) (T.tup [(T.int (Int.ofNat 1)), (T.int (Int.ofNat 1))])) Es.nil))) (Ss.cons (S.forr (G.one (G0.nm 2)) (It.var 0) f8_0) (Ss.cons (S.ret (E.mov 1)) Ss.nil))) }
def f9 : Fn := { np := 3, ns := 3, st := [], body := (Ss.cons (S.iff (E.orr (E.op2 O2.ne (E.op1 O1.len (E.var 0)) (E.op1 O1.len (E.var 2))) (E.op2 O2.ne (E.op1 O1.len (E.var 1)) (E.op1 O1.len (E.var 2)))) (Ss.cons S.bad Ss.nil) Ss.nil) Ss.nil) }
def f10_0 : E := (E.an (E.op2 O2.ne (E.idx (E.var 0) (E.var 3)) (E.idx (E.var 2) (E.var 3))) (E.op2 O2.ne (E.idx (E.var 1) (E.var 3)) (E.idx (E.var 2) (E.var 3))))
def f10_1 : E := (E.var 3)
def f10 : Fn := { np := 3, ns := 4, st := [], body := (Ss.cons (S.exp (E.call 9 (Es.cons (E.var 0) (Es.cons (E.var 1) (Es.cons (E.var 2) Es.nil))))) (Ss.cons (S.ret (E.lc [3] (G.one (G0.nm 3)) (It.rng1 (E.op1 O1.len (E.var 2))) f10_0 f10_1)) Ss.nil)) }
def f11_0 : E := (E.op2 O2.eq (E.idx (E.var 0) (E.var 3)) (E.idx (E.var 1) (E.var 3)))
def f11_1 : E := (E.var 3)
def f11 : Fn := { np := 3, ns := 4, st := [], body := (Ss.cons (S.ret (E.lc [3] (G.one (G0.nm 3)) (It.seq (E.call 10 (Es.cons (E.var 0) (Es.cons (E.var 1) (Es.cons (E.var 2) Es.nil))))) f11_0 f11_1)) Ss.nil) }
def f12_0 : E := (E.op2 O2.ne (E.idx (E.var 4) (E.var 2)) (E.idx (E.var 1) (E.var 2)))
def f12_1 : E := (E.frzp (E.idx (E.var 4) (E.var 2)) (E.idx (E.var 4) (E.var 2)))
def f12 : Fn := { np := 3, ns := 6, st := [], body := (Ss.cons (S.asg (G.one (G0.nm 3)) (E.lc [4] (G.one (G0.nm 4)) (It.var 0) f12_0 f12_1)) (Ss.cons (S.ret (E.dc [5] (G.one (G0.nm 5)) (It.seq (E.op1 O1.sortset (E.var 3))) (E.cst (T.bl true)) (E.var 5) (E.call 0 (Es.cons (E.op2 O2.lcount (E.var 3) (E.var 5)) (Es.cons (E.op1 O1.len (E.var 3)) Es.nil))))) Ss.nil)) }
def f13_0 : E := (E.cst (T.bl true))
def f13_1 : E := (E.tup (Es.cons (E.op2 O2.mul (E.idx (E.var 10) (E.cst (T.int (Int.ofNat 0)))) (E.idx (E.var 10) (E.cst (T.int (Int.ofNat 0))))) (Es.cons (E.op2 O2.mul (E.idx (E.var 10) (E.cst (T.int (Int.ofNat 1)))) (E.idx (E.var 10) (E.cst (T.int (Int.ofNat 1))))) Es.nil)))
def f13_2 : Ss := (Ss.cons (S.asg (G.one (G0.nm 8)) (E.call 12 (Es.cons (E.var 0) (Es.cons (E.var 3) (Es.cons (E.var 7) Es.nil))))) (Ss.cons (S.exp (E.mut 6 MK.append (Es.cons (E.call 5 (Es.cons (E.lc [10] (G.one (G0.nm 10)) (It.valsv 8) f13_0 f13_1) Es.nil)) Es.nil))) Ss.nil))
def f13 : Fn := { np := 4, ns := 11, st := [], body := (Ss.cons (S.par [4, 5] (Es.cons (E.frzp (E.idx (E.var 0) (E.var 1)) (E.idx (E.var 0) (E.var 1))) (Es.cons (E.frzp (E.idx (E.var 0) (E.var 2)) (E.idx (E.var 0) (E.var 2))) Es.nil))) (Ss.cons (S.asg (G.one (G0.nm 6)) (E.lst Es.nil)) (Ss.cons (S.forr (G.one (G0.nm 7)) (It.seq (E.call 10 (Es.cons (E.var 4) (Es.cons (E.var 5) (Es.cons (E.var 3) Es.nil))))) f13_2) (Ss.cons (S.asg (G.one (G0.nm 9)) (E.call 8 (Es.cons (E.var 6) Es.nil))) (Ss.cons (S.ret (E.call 5 (Es.cons (E.slc (E.var 9) (E.op1 O1.len (E.call 11 (Es.cons (E.var 4) (Es.cons (E.var 5) (Es.cons (E.var 3) Es.nil))))) (E.cst T.non)) Es.nil))) Ss.nil))))) }
def f14_0 : Ss := (Ss.cons (S.iff (E.nt (E.call 4 (Es.cons (E.var 2) (Es.cons (E.call 13 (Es.cons (E.var 0) (Es.cons (E.var 5) (Es.cons (E.var 4) (Es.cons (E.var 1) Es.nil))))) Es.nil)))) (Ss.cons (S.exp (E.mut 3 MK.append (Es.cons (E.tup (Es.cons (E.var 5) (Es.cons (E.var 4) Es.nil))) Es.nil))) Ss.nil) Ss.nil) Ss.nil)
def f14_1 : Ss := (Ss.cons (S.forr (G.one (G0.nm 5)) (It.rng1 (E.var 4)) f14_0) Ss.nil)
def f14 : Fn := { np := 3, ns := 6, st := [], body := (Ss.cons (S.asg (G.one (G0.nm 3)) (E.lst Es.nil)) (Ss.cons (S.forr (G.one (G0.nm 4)) (It.rng1 (E.op1 O1.len (E.var 0))) f14_1) (Ss.cons (S.ret (E.op1 O1.sorted (E.var 3))) Ss.nil))) }
def f15_0 : E := (E.op2 O2.eq (E.idx (E.var 0) (E.var 2)) (E.idx (E.var 1) (E.var 2)))
def f15_1 : E := (E.var 2)
def f15 : Fn := { np := 2, ns := 3, st := [], body := (Ss.cons (S.exp (E.call 9 (Es.cons (E.var 0) (Es.cons (E.var 0) (Es.cons (E.var 1) Es.nil))))) (Ss.cons (S.ret (E.op1 O1.len (E.lc [2] (G.one (G0.nm 2)) (It.rng1 (E.op1 O1.len (E.var 1))) f15_0 f15_1))) Ss.nil)) }
def f16 : Fn := { np := 2, ns := 6, st := [], body := (Ss.cons (S.iff (E.op2 O2.lt (E.idx (E.var 0) (E.cst (T.int (Int.ofNat 2)))) (E.var 1)) (Ss.cons (S.asg (G.one (G0.nm 2)) (E.frzp (E.idx (E.var 0) (E.cst (T.int (Int.ofNat 0)))) (E.idx (E.var 0) (E.cst (T.int (Int.ofNat 0)))))) (Ss.cons (S.asg (G.one (G0.nm 3)) (E.frzp (E.idx (E.var 0) (E.cst (T.int (Int.ofNat 1)))) (E.idx (E.var 0) (E.cst (T.int (Int.ofNat 1)))))) (Ss.cons (S.asg (G.one (G0.nm 4)) (E.cst (T.int (Int.ofNat 0)))) (Ss.cons (S.iff (E.op2 O2.lt (E.var 3) (E.op1 O1.len (E.var 2))) (Ss.cons (S.asg (G.one (G0.nm 4)) (E.frzp (E.idx (E.var 2) (E.var 3)) (E.idx (E.var 2) (E.var 3)))) Ss.nil) Ss.nil) (Ss.cons (S.iff (E.op2 O2.lt (E.var 4) (E.cst (T.int (Int.ofNat 0)))) (Ss.cons (S.asg (G.one (G0.nm 4)) (E.op2 O2.sub (E.op2 O2.mul (E.op1 O1.neg (E.cst (T.int (Int.ofNat 2)))) (E.var 4)) (E.cst (T.int (Int.ofNat 1))))) Ss.nil) Ss.nil) (Ss.cons (S.iff (E.op2 O2.lt (E.var 4) (E.op2 O2.pow (E.cst (T.int (Int.ofNat 10))) (E.cst (T.int (Int.ofNat 9))))) (Ss.cons (S.asg (G.one (G0.nm 4)) (E.op2 O2.mod (E.op1 O1.int (E.op2 O2.add (E.op2 O2.add (E.op2 O2.mul (E.var 4) (E.cst (T.int (Int.ofNat 48271)))) (E.op2 O2.mul (E.var 3) (E.cst (T.int (Int.ofNat 69621))))) (E.cst (T.int (Int.ofNat 12345))))) (E.cst (T.int (Int.ofNat 2147483647))))) (Ss.cons (S.asg (G.one (G0.nm 4)) (E.op2 O2.mod (E.op1 O1.int (E.op2 O2.add (E.op2 O2.add (E.op2 O2.mul (E.var 4) (E.cst (T.int (Int.ofNat 16807)))) (E.op2 O2.mul (E.var 3) (E.cst (T.int (Int.ofNat 39373))))) (E.cst (T.int (Int.ofNat 6789))))) (E.cst (T.int (Int.ofNat 2147483629))))) Ss.nil)) Ss.nil) (Ss.cons (S.pst (E.var 0) (E.cst (T.int (Int.ofNat 1))) (E.op2 O2.add (E.var 3) (E.cst (T.int (Int.ofNat 1))))) (Ss.cons (S.pst (E.var 0) (E.cst (T.int (Int.ofNat 2))) (E.var 4)) Ss.nil)))))))) Ss.nil) (Ss.cons (S.asg (G.one (G0.nm 5)) (E.op2 O2.mod (E.op1 O1.int (E.frzp (E.idx (E.var 0) (E.cst (T.int (Int.ofNat 2)))) (E.idx (E.var 0) (E.cst (T.int (Int.ofNat 2)))))) (E.var 1))) (Ss.cons (S.pst (E.var 0) (E.cst (T.int (Int.ofNat 2))) (E.op2 O2.fdiv (E.idx (E.var 0) (E.cst (T.int (Int.ofNat 2)))) (E.var 1))) (Ss.cons (S.ret (E.mov 5)) Ss.nil)))) }
def f17 : Fn := { np := 1, ns := 1, st := [], body := (Ss.cons (S.ret (E.lst (Es.cons (E.op1 O1.list (E.var 0)) (Es.cons (E.cst (T.int (Int.ofNat 0))) (Es.cons (E.cst (T.int (Int.ofNat 0))) Es.nil))))) Ss.nil) }
def f18 : Fn := { np := 2, ns := 2, st := [], body := (Ss.cons (S.ret (E.op2 O2.sub (E.var 0) (E.op2 O2.mul (E.op2 O2.fdiv (E.var 0) (E.var 1)) (E.var 1)))) Ss.nil) }
def f19_0 : Ss := (Ss.cons (S.iff (E.op2 O2.ne (E.var 1) (E.cst (T.int (Int.ofNat 0)))) (Ss.cons (S.par [0, 1] (Es.cons (E.var 1) (Es.cons (E.call 18 (Es.cons (E.var 0) (Es.cons (E.var 1) Es.nil))) Es.nil))) Ss.nil) Ss.nil) Ss.nil)
def f19 : Fn := { np := 2, ns := 3, st := [0, 1], body := (Ss.cons (S.forr (G.one (G0.nm 2)) (It.rng1 (E.cst (T.int (Int.ofNat 200)))) f19_0) (Ss.cons (S.ret (E.mov 0)) Ss.nil)) }
def f20 : Fn := { np := 2, ns := 3, st := [0, 1], body := (Ss.cons (S.iff (E.op2 O2.lt (E.var 1) (E.cst (T.int (Int.ofNat 0)))) (Ss.cons (S.par [0, 1] (Es.cons (E.op2 O2.sub (E.cst (T.int (Int.ofNat 0))) (E.var 0)) (Es.cons (E.op2 O2.sub (E.cst (T.int (Int.ofNat 0))) (E.var 1)) Es.nil))) Ss.nil) Ss.nil) (Ss.cons (S.asg (G.one (G0.nm 2)) (E.call 19 (Es.cons (E.op1 O1.abs (E.var 0)) (Es.cons (E.var 1) Es.nil)))) (Ss.cons (S.ret (E.tup (Es.cons (E.op2 O2.fdiv (E.var 0) (E.var 2)) (Es.cons (E.op2 O2.fdiv (E.var 1) (E.var 2)) Es.nil)))) Ss.nil))) }
def f21 : Fn := { np := 2, ns := 2, st := [], body := (Ss.cons (S.ret (E.op2 O2.lt (E.op2 O2.mul (E.idx (E.var 0) (E.cst (T.int (Int.ofNat 0)))) (E.idx (E.var 1) (E.cst (T.int (Int.ofNat 1))))) (E.op2 O2.mul (E.idx (E.var 1) (E.cst (T.int (Int.ofNat 0)))) (E.idx (E.var 0) (E.cst (T.int (Int.ofNat 1))))))) Ss.nil) }
def f22_0 : Ss := (Ss.cons (S.iff (E.nt (E.call 21 (Es.cons (E.var 2) (Es.cons (E.var 4) Es.nil)))) (Ss.cons (S.asg (G.one (G0.nm 3)) (E.op2 O2.add (E.var 3) (E.cst (T.int (Int.ofNat 1))))) Ss.nil) Ss.nil) Ss.nil)
def f22_1 : Ss := (Ss.cons (S.asg (G.one (G0.nm 3)) (E.cst (T.int (Int.ofNat 0)))) (Ss.cons (S.forr (G.one (G0.nm 4)) (It.var 1) f22_0) (Ss.cons (S.asg (G.one (G0.nm 1)) (E.op2 O2.add (E.op2 O2.add (E.slc (E.var 1) (E.cst T.non) (E.var 3)) (E.lst (Es.cons (E.var 2) Es.nil))) (E.slc (E.var 1) (E.var 3) (E.cst T.non)))) Ss.nil)))
def f22 : Fn := { np := 1, ns := 5, st := [], body := (Ss.cons (S.asg (G.one (G0.nm 1)) (E.lst Es.nil)) (Ss.cons (S.forr (G.one (G0.nm 2)) (It.var 0) f22_1) (Ss.cons (S.ret (E.mov 1)) Ss.nil))) }
def f23_0 : E := (E.cst (T.bl true))
def f23_1 : E := (E.frzp (E.idx (E.lst (Es.cons (E.cst (T.str (("a" : PySem.Str)))) (Es.cons (E.cst (T.str (("b" : PySem.Str)))) (Es.cons (E.cst (T.str (("c" : PySem.Str)))) Es.nil)))) (E.call 16 (Es.cons (E.var 1) (Es.cons (E.cst (T.int (Int.ofNat 3))) Es.nil)))) (E.idx E.bad (E.call 16 (Es.cons (E.var 1) (Es.cons (E.cst (T.int (Int.ofNat 3))) Es.nil)))))
def f23_2 : E := (E.cst (T.bl true))
def f23_3 : E := (E.frzp (E.idx (E.lst (Es.cons (E.cst (T.str (("a" : PySem.Str)))) (Es.cons (E.cst (T.str (("b" : PySem.Str)))) (Es.cons (E.cst (T.str (("c" : PySem.Str)))) Es.nil)))) (E.call 16 (Es.cons (E.var 1) (Es.cons (E.cst (T.int (Int.ofNat 3))) Es.nil)))) (E.idx E.bad (E.call 16 (Es.cons (E.var 1) (Es.cons (E.cst (T.int (Int.ofNat 3))) Es.nil)))))
def f23_4 : Ss := (Ss.cons (S.exp (E.mut 5 MK.append (Es.cons (E.lc [3] (G.one (G0.nm 3)) (It.rng1 (E.var 2)) f23_2 f23_3) Es.nil))) Ss.nil)
def f23_5 : E := (E.cst (T.bl true))
def f23_6 : E := (E.op2 O2.isin (E.var 16) (E.var 11))
def f23_7 : Ss := (Ss.cons (S.asg (G.one (G0.nm 14)) (E.call 13 (Es.cons (E.var 5) (Es.cons (E.var 13) (Es.cons (E.var 12) (Es.cons (E.var 4) Es.nil)))))) (Ss.cons (S.iff (E.orr (E.nt (E.call 21 (Es.cons (E.tup (Es.cons (E.cst (T.int (Int.ofNat 0))) (Es.cons (E.cst (T.int (Int.ofNat 1))) Es.nil))) (Es.cons (E.var 14) Es.nil)))) (E.call 21 (Es.cons (E.tup (Es.cons (E.cst (T.int (Int.ofNat 1))) (Es.cons (E.cst (T.int (Int.ofNat 1))) Es.nil))) (Es.cons (E.var 14) Es.nil)))) (Ss.cons (S.ret (E.cst (T.bl false))) Ss.nil) Ss.nil) (Ss.cons (S.iff (E.an (E.op2 O2.eq (E.op1 O1.len (E.call 11 (Es.cons (E.frzp (E.idx (E.var 5) (E.var 13)) (E.idx (E.var 5) (E.var 13))) (Es.cons (E.frzp (E.idx (E.var 5) (E.var 12)) (E.idx (E.var 5) (E.var 12))) (Es.cons (E.var 4) Es.nil))))) (E.cst (T.int (Int.ofNat 0)))) (E.op2 O2.ne (E.var 14) (E.tup (Es.cons (E.cst (T.int (Int.ofNat 1))) (Es.cons (E.cst (T.int (Int.ofNat 1))) Es.nil))))) (Ss.cons (S.ret (E.cst (T.bl false))) Ss.nil) Ss.nil) (Ss.cons (S.iff (E.op2 O2.ne (E.op2 O2.isin (E.tup (Es.cons (E.var 13) (Es.cons (E.var 12) Es.nil))) (E.var 11)) (E.nt (E.call 21 (Es.cons (E.var 9) (Es.cons (E.var 14) Es.nil))))) (Ss.cons (S.ret (E.cst (T.bl false))) Ss.nil) Ss.nil) Ss.nil))))
def f23_8 : Ss := (Ss.cons (S.forr (G.one (G0.nm 13)) (It.rng1 (E.var 12)) f23_7) Ss.nil)
def f23_9 : Ss := (Ss.cons (S.iff (E.op2 O2.eq (E.call 10 (Es.cons (E.frzp (E.idx (E.var 5) (E.cst (T.int (Int.ofNat 0)))) (E.idx (E.var 5) (E.cst (T.int (Int.ofNat 0))))) (Es.cons (E.frzp (E.idx (E.var 5) (E.var 3)) (E.idx (E.var 5) (E.var 3))) (Es.cons (E.var 4) Es.nil)))) (E.call 10 (Es.cons (E.frzp (E.idx (E.var 5) (E.cst (T.int (Int.ofNat 0)))) (E.idx (E.var 5) (E.cst (T.int (Int.ofNat 0))))) (Es.cons (E.frzp (E.idx (E.var 5) (E.var 7)) (E.idx (E.var 5) (E.var 7))) (Es.cons (E.var 4) Es.nil))))) (Ss.cons (S.iff (E.call 21 (Es.cons (E.call 13 (Es.cons (E.var 5) (Es.cons (E.cst (T.int (Int.ofNat 0))) (Es.cons (E.var 3) (Es.cons (E.var 4) Es.nil))))) (Es.cons (E.var 15) Es.nil))) (Ss.cons (S.ret (E.cst (T.bl false))) Ss.nil) Ss.nil) Ss.nil) Ss.nil) Ss.nil)
def f23 : Fn := { np := 1, ns := 17, st := [], body := (Ss.cons (S.asg (G.one (G0.nm 1)) (E.call 17 (Es.cons (E.var 0) Es.nil))) (Ss.cons (S.asg (G.one (G0.nm 2)) (E.op2 O2.add (E.cst (T.int (Int.ofNat 1))) (E.call 16 (Es.cons (E.var 1) (Es.cons (E.cst (T.int (Int.ofNat 6))) Es.nil))))) (Ss.cons (S.asg (G.one (G0.nm 4)) (E.lc [3] (G.one (G0.nm 3)) (It.rng1 (E.var 2)) f23_0 f23_1)) (Ss.cons (S.asg (G.one (G0.nm 5)) (E.lst Es.nil)) (Ss.cons (S.forr (G.one (G0.nm 6)) (It.rng1 (E.op2 O2.add (E.cst (T.int (Int.ofNat 2))) (E.call 16 (Es.cons (E.var 1) (Es.cons (E.cst (T.int (Int.ofNat 4))) Es.nil))))) f23_4) (Ss.cons (S.exp (E.mut 5 MK.append (Es.cons (E.op1 O1.list (E.frzp (E.idx (E.var 5) (E.cst (T.int (Int.ofNat 0)))) (E.idx (E.var 5) (E.cst (T.int (Int.ofNat 0)))))) Es.nil))) (Ss.cons (S.asg (G.one (G0.nm 7)) (E.op2 O2.sub (E.op1 O1.len (E.var 5)) (E.cst (T.int (Int.ofNat 1))))) (Ss.cons (S.asg (G.tp [(G0.nm 8), (G0.nm 9)]) (E.call 22 (Es.cons (E.lst (Es.cons (E.call 20 (Es.cons (E.call 16 (Es.cons (E.var 1) (Es.cons (E.cst (T.int (Int.ofNat 21))) Es.nil))) (Es.cons (E.cst (T.int (Int.ofNat 20))) Es.nil))) (Es.cons (E.call 20 (Es.cons (E.call 16 (Es.cons (E.var 1) (Es.cons (E.cst (T.int (Int.ofNat 21))) Es.nil))) (Es.cons (E.cst (T.int (Int.ofNat 20))) Es.nil))) Es.nil))) Es.nil))) (Ss.cons (S.asg (G.tp [(G0.nm 10), (G0.nm 11)]) (E.tup (Es.cons (E.call 14 (Es.cons (E.var 5) (Es.cons (E.var 4) (Es.cons (E.var 8) Es.nil)))) (Es.cons (E.call 14 (Es.cons (E.var 5) (Es.cons (E.var 4) (Es.cons (E.var 9) Es.nil)))) Es.nil)))) (Ss.cons (S.iff (E.orr (E.op2 O2.isin (E.cst (T.bl false)) (E.lc [16] (G.one (G0.nm 16)) (It.var 10) f23_5 f23_6)) (E.nt (E.op1 (O1.isi 4) (E.var 10)))) (Ss.cons (S.ret (E.cst (T.bl false))) Ss.nil) Ss.nil) (Ss.cons (S.forr (G.one (G0.nm 12)) (It.rng1 (E.op1 O1.len (E.var 5))) f23_8) (Ss.cons (S.iff (E.op2 O2.ne (E.call 15 (Es.cons (E.frzp (E.idx (E.var 5) (E.var 7)) (E.idx (E.var 5) (E.var 7))) (Es.cons (E.var 4) Es.nil))) (E.call 15 (Es.cons (E.frzp (E.idx (E.var 5) (E.cst (T.int (Int.ofNat 0)))) (E.idx (E.var 5) (E.cst (T.int (Int.ofNat 0))))) (Es.cons (E.var 4) Es.nil)))) (Ss.cons (S.ret (E.cst (T.bl false))) Ss.nil) Ss.nil) (Ss.cons (S.asg (G.one (G0.nm 15)) (E.call 13 (Es.cons (E.var 5) (Es.cons (E.cst (T.int (Int.ofNat 0))) (Es.cons (E.var 7) (Es.cons (E.var 4) Es.nil)))))) (Ss.cons (S.forr (G.one (G0.nm 3)) (It.rng2 (E.cst (T.int (Int.ofNat 1))) (E.var 7)) f23_9) (Ss.cons (S.ret (E.op2 O2.eq (E.op1 O1.len (E.call 14 (Es.cons (E.var 5) (Es.cons (E.var 4) (Es.cons (E.tup (Es.cons (E.cst (T.int (Int.ofNat 1))) (Es.cons (E.cst (T.int (Int.ofNat 1))) Es.nil))) Es.nil))))) (E.op2 O2.fdiv (E.op2 O2.mul (E.op1 O1.len (E.var 5)) (E.var 7)) (E.cst (T.int (Int.ofNat 2)))))) Ss.nil))))))))))))))) }
def fns : List Fn := [f0, f1, f2, f3, f4, f5, f6, f7, f8, f9, f10, f11, f12, f13, f14, f15, f16, f17, f18, f19, f20, f21, f22, f23]
theorem fns_eq : S.R.fns = fns := by kernel_rfl
end W96

/-! The plain law of chances. -/
namespace W96
open Pv
theorem foldl_add : ∀ (xs : List Rat) (a : Rat), xs.foldl (· + ·) a = a + sumQ xs
  | [], a => by show a = a + 0; grind
  | x :: xs, a => by
    show xs.foldl (· + ·) (a + x) = a + xs.foldl (· + ·) (0 + x)
    rw [foldl_add xs (a + x), foldl_add xs (0 + x)]; grind
theorem sumQ_nil : sumQ [] = 0 := rfl
theorem sumQ_cons (x : Rat) (xs : List Rat) : sumQ (x :: xs) = x + sumQ xs := by
  show xs.foldl (· + ·) (0 + x) = _
  rw [foldl_add]; grind
def nn (l : List Rat) : Prop := ∀ x ∈ l, 0 ≤ x
theorem nn_cons {x : Rat} {l : List Rat} (h : nn (x :: l)) : 0 ≤ x ∧ nn l := ⟨h x List.mem_cons_self, fun y hy => h y (List.mem_cons_of_mem _ hy)⟩
theorem sumQ_nn : ∀ {l : List Rat}, nn l → 0 ≤ sumQ l
  | [], _ => by rw [sumQ_nil]; grind
  | x :: l, h => by
    have := sumQ_nn (nn_cons h).2
    have := (nn_cons h).1
    rw [sumQ_cons]; grind
theorem mem_le_sumQ : ∀ {l : List Rat} {x : Rat}, nn l → x ∈ l → x ≤ sumQ l
  | y :: l, x, h, hx => by
    have a := sumQ_nn (nn_cons h).2
    have b := (nn_cons h).1
    rw [sumQ_cons]
    rcases List.mem_cons.mp hx with rfl | hx
    · grind
    · have := mem_le_sumQ (nn_cons h).2 hx; grind
theorem nn_drop {l : List Rat} {k : Nat} (h : nn l) : nn (l.drop k) := fun x hx => h x (List.mem_of_mem_drop hx)
theorem sumQ_drop_le : ∀ {l : List Rat} (k : Nat), nn l → sumQ (l.drop k) ≤ sumQ l
  | [], k, _ => by simp
  | x :: l, 0, _ => by simp
  | x :: l, k + 1, h => by
    have a := sumQ_drop_le k (nn_cons h).2
    have b := (nn_cons h).1
    rw [sumQ_cons, List.drop_succ_cons]; grind
theorem sumQ_drop_mono {l : List Rat} {a b : Nat} (h : nn l) (hab : a ≤ b) : sumQ (l.drop b) ≤ sumQ (l.drop a) := by
  have e : l.drop b = (l.drop a).drop (b - a) := by rw [List.drop_drop]; congr 1; omega
  rw [e]
  exact sumQ_drop_le _ (nn_drop h)
def updS (F : List Rat) (k : Nat) (x : Rat) : List Rat := F.set k (F.getD k 0 + x)
theorem updS_len {F : List Rat} {k : Nat} {x : Rat} : (updS F k x).length = F.length := List.length_set
theorem sumQ_set : ∀ {F : List Rat} {k : Nat} {y : Rat}, k < F.length → sumQ (F.set k y) = sumQ F - F.getD k 0 + y
  | f :: F, 0, y, _ => by simp only [List.set_cons_zero, sumQ_cons, List.getD_cons_zero]; grind
  | f :: F, k + 1, y, h => by
    simp only [List.set_cons_succ, sumQ_cons, List.getD_cons_succ]
    rw [sumQ_set (by simpa using h)]; grind
theorem sumQ_upd {F : List Rat} {k : Nat} {x : Rat} (h : k < F.length) : sumQ (updS F k x) = sumQ F + x := by
  unfold updS; rw [sumQ_set h]; grind
theorem upd_get {F : List Rat} {k j : Nat} {x : Rat} (h : k < F.length) : (updS F k x).getD j 0 = if j = k then F.getD k 0 + x else F.getD j 0 := by
  unfold updS
  simp only [List.getD_eq_getElem?_getD]
  by_cases e : j = k
  · subst e; rw [if_pos rfl, List.getElem?_set_self h]; rfl
  · rw [if_neg e, List.getElem?_set_ne (by omega)]
/-- what all entries are -/
def al0 (P : Rat → Prop) (F : List Rat) : Prop := ∀ x ∈ F, P x
theorem al0_get {P : Rat → Prop} {F : List Rat} {k : Nat} (h : al0 P F) (hk : k < F.length) : P (F.getD k 0) := by
  rw [List.getD_eq_getElem?_getD, List.getElem?_eq_getElem hk]
  exact h _ (List.getElem_mem hk)
theorem al0_upd {P : Rat → Prop} {F : List Rat} {k : Nat} {x : Rat} (h : al0 P F) (hp : P (F.getD k 0 + x)) : al0 P (updS F k x) := fun y hy => by
  rcases List.mem_or_eq_of_mem_set hy with h1 | rfl
  · exact h y h1
  · exact hp
/-- x in parts of D -/
def gd (D : Nat) (x : Rat) : Prop := ∃ z : Int, x * ((D : Int) : Rat) = (z : Rat)
theorem gd_zero {D : Nat} : gd D 0 := ⟨0, by simp⟩
theorem gd_add {D : Nat} {x y : Rat} (hx : gd D x) (hy : gd D y) : gd D (x + y) := by
  obtain ⟨a, ha⟩ := hx
  obtain ⟨b, hb⟩ := hy
  exact ⟨a + b, by rw [Rat.intCast_add]; grind⟩
theorem gd_mul {D E : Nat} {x y : Rat} (hx : gd D x) (hy : gd E y) : gd (D * E) (x * y) := by
  obtain ⟨a, ha⟩ := hx
  obtain ⟨b, hb⟩ := hy
  exact ⟨a * b, by rw [Int.natCast_mul, Rat.intCast_mul, Rat.intCast_mul]; grind⟩
theorem gd_sub1 {D : Nat} {x : Rat} (hx : gd D x) : gd D (1 - x) := by
  obtain ⟨a, ha⟩ := hx
  exact ⟨(D : Int) - a, by rw [Rat.intCast_sub]; grind⟩
theorem gd_bq {D n : Nat} {x : Rat} (hx : gd D x) (h0 : 0 ≤ x) (h1 : x ≤ 1) (hD : 0 < D) (hn : D < 2 ^ n) : bq n x := by
  obtain ⟨z, hz⟩ := hx
  have dn : ((D : Int) : Rat) ≠ 0 := fun e => by
    have : (D : Int) = 0 := by exact_mod_cast e
    omega
  have dp : (0 : Rat) < ((D : Int) : Rat) := by
    have : (0 : Int) < (D : Int) := by omega
    exact_mod_cast this
  have e : x = (z : Rat) / ((D : Int) : Rat) := by grind
  have z0 : (0 : Rat) ≤ (z : Rat) := by rw [← hz]; exact Rat.mul_nonneg h0 (Rat.le_of_lt dp)
  have z1 : (z : Rat) ≤ ((D : Int) : Rat) := by
    rw [← hz]
    have := Rat.mul_le_mul_of_nonneg_right h1 (Rat.le_of_lt dp)
    rwa [Rat.one_mul] at this
  have z0' : 0 ≤ z := by exact_mod_cast z0
  have z1' : z ≤ (D : Int) := by exact_mod_cast z1
  rw [e]
  exact bq_div (by omega) (by omega) (by omega)
/-- one row of chances and one more place -/
def sumsG (u v : Rat) : Nat → List Rat → List Rat → List Rat
  | _, [], F => F
  | i, a :: f, F => sumsG u v (i + 1) f (updS (updS F i (a * u)) (i + 1) (a * v))
structure SI (u v : Rat) (D m : Nat) (i : Nat) (f F : List Rat) : Prop where
  im : i + f.length = m
  len : F.length = m + 1
  nf : nn f
  nF : nn F
  gf : al0 (fun a => gd D (a * u) ∧ gd D (a * v)) f
  gF : al0 (gd D) F
  su : sumQ F + sumQ f * (u + v) = 1
  last : (f = [] → 0 < F.getD i 0) ∧ (∀ h : f ≠ [], 0 < f.getLast h)
  up : ∀ j, i < j → F.getD j 0 = 0
theorem SI.le1 {u v : Rat} {D m i : Nat} {f F : List Rat} (h : SI u v D m i f F) (huv : u + v = 1) : ∀ x ∈ F, 0 ≤ x ∧ x ≤ 1 := fun x hx => by
  have a := mem_le_sumQ h.nF hx
  have b := sumQ_nn h.nf
  have c := h.su
  rw [huv] at c
  exact ⟨h.nF x hx, by grind⟩
theorem SI.step {u v a : Rat} {D m i : Nat} {f F : List Rat} (h : SI u v D m i (a :: f) F) (hu : 0 ≤ u) (hv : 0 < v) : SI u v D m (i + 1) f (updS (updS F i (a * u)) (i + 1) (a * v)) := by
  have li : i < F.length := by rw [h.len]; have := h.im; simp only [List.length_cons] at this; omega
  have li1 : i + 1 < (updS F i (a * u)).length := by rw [updS_len, h.len]; have := h.im; simp only [List.length_cons] at this; omega
  have a0 := (nn_cons h.nf).1
  have g := h.gf a List.mem_cons_self
  have au : 0 ≤ a * u := Rat.mul_nonneg a0 hu
  have av : 0 ≤ a * v := Rat.mul_nonneg a0 (Rat.le_of_lt hv)
  have n1 : nn (updS F i (a * u)) := al0_upd (P := fun x => 0 ≤ x) h.nF (by have := al0_get (P := fun x => 0 ≤ x) h.nF li; grind)
  have g1 : al0 (gd D) (updS F i (a * u)) := al0_upd h.gF (gd_add (al0_get h.gF li) g.1)
  refine ⟨by have := h.im; simp only [List.length_cons] at this; omega, by rw [updS_len, updS_len, h.len], (nn_cons h.nf).2, al0_upd (P := fun x => 0 ≤ x) n1 (by have := al0_get (P := fun x => 0 ≤ x) n1 li1; grind), fun x hx => h.gf x (List.mem_cons_of_mem _ hx), al0_upd g1 (gd_add (al0_get g1 li1) g.2), ?_, ⟨fun hf => ?_, fun hf => ?_⟩, fun j hj => ?_⟩
  · rw [sumQ_upd li1, sumQ_upd li]
    have := h.su
    rw [sumQ_cons] at this
    grind
  · subst hf
    rw [upd_get li1, if_pos rfl, upd_get li, if_neg (by omega), h.up (i + 1) (by omega)]
    have := h.last.2 (by simp)
    simp only [List.getLast_singleton] at this
    have := Rat.mul_pos this hv
    grind
  · have := h.last.2 (by simp)
    rwa [List.getLast_cons hf] at this
  · rw [upd_get li1, if_neg (by omega), upd_get li, if_neg (by omega), h.up j (by omega)]
theorem SI.fin {u v : Rat} {D m : Nat} (hu : 0 ≤ u) (hv : 0 < v) : ∀ {f F : List Rat} {i : Nat}, SI u v D m i f F → SI u v D m m [] (sumsG u v i f F)
  | [], F, i, h => by
    have : i = m := by have := h.im; simpa using this
    subst this
    exact h
  | a :: f, F, i, h => by
    have z := h.step hu hv
    exact SI.fin hu hv (f := f) (i := i + 1) z
def sumsV (f : List Rat) (u v : Rat) : List Rat := sumsG u v 0 f (List.replicate (f.length + 1) 0)
/-- what a row of chances is -/
structure Hits (m D : Nat) (f : List Rat) : Prop where
  len : f.length = m + 1
  nn : nn f
  gd : al0 (gd D) f
  one : sumQ f = 1
  last : 0 < f.getD m 0
theorem sumQ_zeros : ∀ n, sumQ (List.replicate n (0 : Rat)) = 0
  | 0 => rfl
  | n + 1 => by rw [List.replicate_succ, sumQ_cons, sumQ_zeros n]; grind
theorem getLast_getD {f : List Rat} {m : Nat} (hl : f.length = m + 1) (h : f ≠ []) : f.getLast h = f.getD m 0 := by
  rw [List.getLast_eq_getElem, List.getD_eq_getElem?_getD]
  simp [hl]
theorem Hits.si {m D E : Nat} {f : List Rat} {s : Rat} (h : Hits m D f) (h0 : 0 < s) (h1 : s ≤ 1) (hE : W96.gd E s) : SI (1 - s) s (D * E) (m + 1) 0 f (List.replicate (f.length + 1) 0) := by
  refine ⟨by rw [h.len]; omega, by rw [List.length_replicate, h.len], h.nn, fun x hx => by rw [List.eq_of_mem_replicate hx]; exact Rat.le_refl, fun x hx => ⟨gd_mul (h.gd x hx) (gd_sub1 hE), gd_mul (h.gd x hx) hE⟩, fun x hx => by rw [List.eq_of_mem_replicate hx]; exact gd_zero, ?_, ⟨fun hf => by rw [hf] at h; have := h.len; simp at this, fun hf => ?_⟩, fun j hj => ?_⟩
  · rw [sumQ_zeros, h.one]; grind
  · rw [getLast_getD h.len]; exact h.last
  · simp only [List.getD_eq_getElem?_getD, List.getElem?_replicate]
    split <;> rfl
theorem Hits.next {m D E : Nat} {f : List Rat} {s : Rat} (h : Hits m D f) (h0 : 0 < s) (h1 : s ≤ 1) (hE : W96.gd E s) : Hits (m + 1) (D * E) (sumsV f (1 - s) s) := by
  have z := SI.fin (by grind) h0 (h.si h0 h1 hE)
  exact ⟨z.len, z.nF, z.gF, by have := z.su; rw [sumQ_nil] at this; unfold sumsV; grind, z.last.1 rfl⟩
theorem hits_one : Hits 0 1 [1] := ⟨rfl, fun x hx => by simp at hx; subst hx; grind, fun x hx => by simp at hx; subst hx; exact ⟨1, by simp⟩, by rw [sumQ_cons, sumQ_nil]; grind, by show (0 : Rat) < 1; grind⟩
def hitsV (ss : List Rat) : List Rat := ss.foldl (fun f s => sumsV f (1 - s) s) [1]
def okSh (s : Rat) : Prop := 0 < s ∧ s ≤ 1 ∧ ∃ E, 0 < E ∧ E ≤ 36 ∧ gd E s
theorem hits_go : ∀ {ss : List Rat} {f : List Rat} {m D : Nat}, Hits m D f → 0 < D → D ≤ 36 ^ m → (∀ s ∈ ss, okSh s) → ∃ D', 0 < D' ∧ D' ≤ 36 ^ (m + ss.length) ∧ Hits (m + ss.length) D' (ss.foldl (fun f s => sumsV f (1 - s) s) f)
  | [], f, m, D, h, d0, d1, _ => ⟨D, d0, d1, h⟩
  | s :: ss, f, m, D, h, d0, d1, hs => by
    obtain ⟨h0, h1, E, e0, e1, e2⟩ := hs s List.mem_cons_self
    obtain ⟨D', a, b, c⟩ := hits_go (ss := ss) (h.next h0 h1 e2) (Nat.mul_pos d0 e0) (by rw [Nat.pow_succ]; exact Nat.mul_le_mul d1 e1) fun t ht => hs t (List.mem_cons_of_mem _ ht)
    refine ⟨D', a, ?_, ?_⟩
    · rw [List.length_cons, show m + (ss.length + 1) = m + 1 + ss.length by omega]; exact b
    · rw [List.length_cons, show m + (ss.length + 1) = m + 1 + ss.length by omega]; exact c
theorem hits_ok {ss : List Rat} (hs : ∀ s ∈ ss, okSh s) : ∃ D, 0 < D ∧ D ≤ 36 ^ ss.length ∧ Hits ss.length D (hitsV ss) := by
  obtain ⟨D, a, b, c⟩ := hits_go hits_one (by decide) (by decide) hs
  rw [Nat.zero_add] at b c
  exact ⟨D, a, b, c⟩
/-- the tail -/
def tailV (ss : List Rat) (k : Nat) : Rat := sumQ ((hitsV ss).drop k)
theorem tail_le {ss : List Rat} {k : Nat} (hs : ∀ s ∈ ss, okSh s) : tailV ss k ≤ 1 := by
  obtain ⟨D, _, _, h⟩ := hits_ok hs
  unfold tailV
  have := sumQ_drop_le k h.nn
  rw [h.one] at this
  exact this
theorem tail_mono {ss : List Rat} {a b : Nat} (hs : ∀ s ∈ ss, okSh s) (hab : a ≤ b) : tailV ss b ≤ tailV ss a := by
  obtain ⟨D, _, _, h⟩ := hits_ok hs
  exact sumQ_drop_mono h.nn hab
theorem tail_zero {ss : List Rat} (hs : ∀ s ∈ ss, okSh s) : tailV ss 0 = 1 := by
  obtain ⟨D, _, _, h⟩ := hits_ok hs
  unfold tailV
  rw [List.drop_zero, h.one]
theorem tail_pos {ss : List Rat} {k : Nat} (hs : ∀ s ∈ ss, okSh s) (hk : k ≤ ss.length) : 0 < tailV ss k := by
  obtain ⟨D, _, _, h⟩ := hits_ok hs
  have a : 0 < (hitsV ss).getD ss.length 0 := h.last
  have b : (hitsV ss).getD ss.length 0 ∈ (hitsV ss).drop k := by
    rw [List.getD_eq_getElem?_getD, List.getElem?_eq_getElem (by rw [h.len]; omega)]
    have e : (hitsV ss)[ss.length]'(by rw [h.len]; omega) = ((hitsV ss).drop k)[ss.length - k]'(by rw [List.length_drop, h.len]; omega) := by
      rw [List.getElem_drop]; congr 1; omega
    show (hitsV ss)[ss.length]'(by rw [h.len]; omega) ∈ _
    rw [e]
    exact List.getElem_mem _
  have := mem_le_sumQ (nn_drop h.nn) b
  unfold tailV
  grind
end W96

/-! Answers, shares, the pairs. -/
namespace W96
open Pv PySem
abbrev Row := List (Fin 3)
def lt3 : Fin 3 → Str
  | 0 => "a"
  | 1 => "b"
  | 2 => "c"
def gs (a : Row) (i : Nat) : Fin 3 := a.getD i 0
def bw (a b k : Row) : List Nat := (List.range k.length).filter fun i => !decide (gs a i = gs k i) && !decide (gs b i = gs k i)
def al (a b k : Row) : List Nat := (bw a b k).filter fun i => decide (gs a i = gs b i)
def wr (S : List Row) (k : Row) (p : Nat) : Row := (S.filter fun r => !decide (gs r p = gs k p)).map fun r => gs r p
def ord (W : Row) : Row := [0, 1, 2].filter fun x => decide (x ∈ W)
def frq (W : Row) (x : Fin 3) : Rat := ((W.count x : Int) : Rat) / ((W.length : Int) : Rat)
def sv (W : Row) : Rat := sumQ ((ord W).map fun x => frq W x * frq W x)
theorem count_sum : ∀ W : Row, W.count 0 + W.count 1 + W.count 2 = W.length
  | [] => rfl
  | x :: W => by
    have := count_sum W
    simp only [List.count_cons, List.length_cons]
    match x with
    | 0 => simp; omega
    | 1 => simp; omega
    | 2 => simp; omega
theorem sum_ord {W : Row} {f : Fin 3 → Rat} (h : ∀ x, x ∉ W → f x = 0) : sumQ ((ord W).map f) = f 0 + f 1 + f 2 := by
  unfold ord
  by_cases h0 : (0 : Fin 3) ∈ W <;> by_cases h1 : (1 : Fin 3) ∈ W <;> by_cases h2 : (2 : Fin 3) ∈ W <;>
    simp only [List.filter, h0, h1, h2, decide_true, decide_false, List.map_cons, List.map_nil, sumQ_cons, sumQ_nil] <;>
    (try rw [h 0 h0]) <;> (try rw [h 1 h1]) <;> (try rw [h 2 h2]) <;> grind
theorem sq_ok {a b c n : Nat} (hn : 0 < n) (h6 : n ≤ 6) (e : a + b + c = n) {s : Rat} (hs : s = ((a : Int) : Rat) / ((n : Int) : Rat) * (((a : Int) : Rat) / ((n : Int) : Rat)) + ((b : Int) : Rat) / ((n : Int) : Rat) * (((b : Int) : Rat) / ((n : Int) : Rat)) + ((c : Int) : Rat) / ((n : Int) : Rat) * (((c : Int) : Rat) / ((n : Int) : Rat))) : okSh s := by
  have n0 : ((n : Int) : Rat) ≠ 0 := fun z => by
    have : (n : Int) = 0 := by exact_mod_cast z
    omega
  have ez : s * (((n * n : Nat) : Int) : Rat) = ((a * a + b * b + c * c : Nat) : Int) := by
    rw [Int.natCast_mul, Rat.intCast_mul, Int.natCast_add, Int.natCast_add, Rat.intCast_add, Rat.intCast_add, Int.natCast_mul, Int.natCast_mul, Int.natCast_mul, Rat.intCast_mul, Rat.intCast_mul, Rat.intCast_mul, hs]
    generalize ((n : Int) : Rat) = N at *
    grind
  have N0 : (0 : Rat) < (((n * n : Nat) : Int) : Rat) := by
    have : (0 : Int) < ((n * n : Nat) : Int) := by have := Nat.mul_pos hn hn; omega
    exact_mod_cast this
  have z0 : 0 < a * a + b * b + c * c := by
    have h : 0 < a ∨ 0 < b ∨ 0 < c := by omega
    rcases h with h | h | h
    · have := Nat.mul_pos h h; omega
    · have := Nat.mul_pos h h; omega
    · have := Nat.mul_pos h h; omega
  have z1 : a * a + b * b + c * c ≤ n * n := by
    subst e
    simp only [Nat.add_mul, Nat.mul_add]
    omega
  refine ⟨?_, ?_, n * n, Nat.mul_pos hn hn, Nat.mul_le_mul h6 h6, _, ez⟩
  · have zp : (0 : Rat) < (((a * a + b * b + c * c : Nat) : Int) : Rat) := by
      have : (0 : Int) < ((a * a + b * b + c * c : Nat) : Int) := by omega
      exact_mod_cast this
    rw [← ez] at zp
    by_cases h : 0 < s
    · exact h
    · have : s ≤ 0 := by grind
      have := Rat.mul_nonneg (show 0 ≤ -s by grind) (Rat.le_of_lt N0)
      grind
  · have zp : (((a * a + b * b + c * c : Nat) : Int) : Rat) ≤ (((n * n : Nat) : Int) : Rat) := by
      have : ((a * a + b * b + c * c : Nat) : Int) ≤ ((n * n : Nat) : Int) := by omega
      exact_mod_cast this
    rw [← ez] at zp
    by_cases h : s ≤ 1
    · exact h
    · have := Rat.mul_pos (show 0 < s - 1 by grind) N0
      grind
theorem sv_ok {W : Row} (h : W ≠ []) (h6 : W.length ≤ 6) : okSh (sv W) := by
  have hn : 0 < W.length := List.length_pos_iff.mpr h
  refine sq_ok hn h6 (count_sum W) ?_
  unfold sv
  rw [sum_ord fun x hx => by
    unfold frq
    rw [List.count_eq_zero.mpr hx]
    show (0 : Rat) / _ * (0 / _) = 0
    grind]
  rfl
/-! ### the chance of a pair -/
def shs (S : List Row) (k a b : Row) : List Rat := (bw a b k).map fun p => sv (wr S k p)
def chV (S : List Row) (k a b : Row) : Rat := tailV (shs S k a b) (al a b k).length
theorem wr_ne {S : List Row} {k a b : Row} {p : Nat} (ha : a ∈ S) (hp : p ∈ bw a b k) : wr S k p ≠ [] := fun e => by
  unfold wr at e
  rw [List.map_eq_nil_iff, List.filter_eq_nil_iff] at e
  have := e a ha
  have z := (List.mem_filter.mp hp).2
  simp only [Bool.and_eq_true] at z
  exact this z.1
theorem wr_len {S : List Row} {k : Row} {p : Nat} : (wr S k p).length ≤ S.length := by
  unfold wr
  rw [List.length_map]
  exact List.length_filter_le _ _
theorem shs_ok {S : List Row} {k a b : Row} (hS : S.length ≤ 6) (ha : a ∈ S) : ∀ s ∈ shs S k a b, okSh s := fun s hs => by
  obtain ⟨p, hp, rfl⟩ := List.mem_map.mp hs
  exact sv_ok (wr_ne ha hp) (Nat.le_trans wr_len hS)
theorem al_le {a b k : Row} : (al a b k).length ≤ (bw a b k).length := List.length_filter_le _ _
theorem ch_pos {S : List Row} {k a b : Row} (hS : S.length ≤ 6) (ha : a ∈ S) : 0 < chV S k a b := tail_pos (shs_ok hS ha) (by unfold shs; rw [List.length_map]; exact al_le)
theorem ch_le {S : List Row} {k a b : Row} (hS : S.length ≤ 6) (ha : a ∈ S) : chV S k a b ≤ 1 := tail_le (shs_ok hS ha)
theorem ch_one {S : List Row} {k a b : Row} (hS : S.length ≤ 6) (ha : a ∈ S) (h : (al a b k).length = 0) : chV S k a b = 1 := by
  unfold chV; rw [h]; exact tail_zero (shs_ok hS ha)
theorem al_self {a k : Row} : al a a k = bw a a k := by
  unfold al
  rw [List.filter_eq_self]
  exact fun _ _ => by simp
/-- a copy is the least likely -/
theorem ch_copy {S : List Row} {k a b : Row} (hS : S.length ≤ 6) (ha : a ∈ S) (h : bw a b k = bw a a k) : chV S k a a ≤ chV S k a b := by
  have e : shs S k a b = shs S k a a := by unfold shs; rw [h]
  unfold chV
  rw [e]
  refine tail_mono (shs_ok hS ha) ?_
  rw [al_self, ← h]
  exact al_le
/-! ### the pairs -/
def rowAt (S : List Row) (i : Nat) : Row := S.getD i []
def susJ (S : List Row) (k : Row) (r : Rat) (j : Nat) : List (Nat × Nat) := ((List.range j).filter fun i => !decide (r < chV S k (rowAt S i) (rowAt S j))).map fun i => (i, j)
def susV (S : List Row) (k : Row) (r : Rat) : List (Nat × Nat) := (List.range S.length).flatMap (susJ S k r)
theorem sus_mem {S : List Row} {k : Row} {r : Rat} {i j : Nat} : (i, j) ∈ susV S k r ↔ j < S.length ∧ i < j ∧ ¬ r < chV S k (rowAt S i) (rowAt S j) := by
  unfold susV susJ
  rw [List.mem_flatMap]
  constructor
  · rintro ⟨j', h1, h2⟩
    obtain ⟨i', h3, h4⟩ := List.mem_map.mp h2
    cases h4
    obtain ⟨h5, h6⟩ := List.mem_filter.mp h3
    exact ⟨List.mem_range.mp h1, List.mem_range.mp h5, by simpa using h6⟩
  · rintro ⟨h1, h2, h3⟩
    exact ⟨j, List.mem_range.mpr h1, List.mem_map.mpr ⟨i, List.mem_filter.mpr ⟨List.mem_range.mpr h2, by simpa using h3⟩, rfl⟩⟩
theorem rowAt_mem {S : List Row} {i : Nat} (h : i < S.length) : rowAt S i ∈ S := by
  unfold rowAt
  rw [List.getD_eq_getElem?_getD, List.getElem?_eq_getElem h]
  exact List.getElem_mem h
theorem sus_one {S : List Row} {k : Row} (hS : S.length ≤ 6) : (susV S k 1).length * 2 = S.length * (S.length - 1) := by
  have e : ∀ j ∈ List.range S.length, (susJ S k 1 j).length = j := fun j hj => by
    unfold susJ
    rw [List.length_map, List.filter_eq_self.mpr fun i hi => ?_, List.length_range]
    have := ch_le (k := k) (b := rowAt S j) hS (rowAt_mem (S := S) (i := i) (by have := List.mem_range.mp hi; have := List.mem_range.mp hj; omega))
    simp only [Bool.not_eq_true', decide_eq_false_iff_not]
    grind
  unfold susV
  rw [List.length_flatMap, List.map_congr_left e, List.map_id']
  have s : ∀ n, (List.range n).sum * 2 = n * (n - 1) := fun n => by
    induction n with
    | zero => rfl
    | succ n ih =>
      rw [List.range_succ, List.sum_append, Nat.add_mul, ih]
      cases n with
      | zero => rfl
      | succ n => simp only [List.sum_singleton, Nat.add_sub_cancel, Nat.mul_add, Nat.add_mul]; omega
  exact s _
end W96

namespace W96
open Pv PySem
def R' : Prg := ⟨fns, mt, fd⟩
theorem R_eq : S.R = R' := by
  show Prg.mk S.R.fns mt fd = Prg.mk fns mt fd
  rw [fns_eq]
theorem i0 : R'.fns[0]? = some kFrac := rfl
theorem i1 : R'.fns[1]? = some (kAdd 0) := rfl
theorem i2 : R'.fns[2]? = some (kMinus 0) := rfl
theorem i3 : R'.fns[3]? = some (kTimes 0) := rfl
theorem i4 : R'.fns[4]? = some kLess := rfl
theorem i5 : R'.fns[5]? = some (kTotal 1) := rfl
theorem i6 : R'.fns[6]? = some (kShare 4) := rfl
theorem i16 : R'.fns[16]? = some kDraw := rfl
theorem i17 : R'.fns[17]? = some kTape := rfl
theorem i18 : R'.fns[18]? = some kMod := rfl
theorem i19 : R'.fns[19]? = some (kGcd 18) := rfl
theorem i20 : R'.fns[20]? = some (kLfrac 19) := rfl
theorem i21 : R'.fns[21]? = some kLlt := rfl
theorem i22 : R'.fns[22]? = some (kUp 21) := rfl
theorem fz (xs : List Rat) : frzs (xs.map fq) = xs.map fq := frzs_map frz_fq xs
theorem fsQ (xs : List Rat) : isFs (xs.map fq) = true := isFs_map isF_fq xs
theorem getD_map {F : List Rat} {k : Nat} (h : k < F.length) : L2.atI (F.map fq) (k : Int) = some (fq (F.getD k 0)) := by
  rw [atI_nat (by simpa using h)]
  simp [List.getD_eq_getElem?_getD, h]
/-- found[i + j] = add(found[i + j], times(a, b)) -/
theorem p7 {n : Nat} {L0 L1 : T} {F : List Rat} {i j k : Nat} {a b : Rat} {p q r : Nat} (hk : i + j = k) (h0 : isF L0 = true) (h1 : isF L1 = true) (hh0 : isHole L0 = false) (hh1 : isHole L1 = false) (hij : k < F.length) (hF : bq p (F.getD k 0)) (ha : bq q a) (hb : bq r b) (hl : p + (q + r) ≤ 8999) :
    evSs (pgOf R' (n + 3)) f7_2 [L0, L1, .lst true (F.map fq), .int (i : Nat), fq a, .int (j : Nat), fq b, .hole] = some (.nx, [L0, L1, .lst true ((updS F k (a * b)).map fq), .int (i : Nat), fq a, .int (j : Nat), fq b, .hole]) := by
  have z3 := cTimes (n := n + 1) i3 i0 ha hb (by omega)
  have z1 := cAdd (n := n + 1) i1 i0 hF (bq_mul ha hb) hl
  have e : (i : Int) + (j : Int) = (k : Int) := by omega
  have g := getD_map hij
  have ix : L2.ixN F.length (k : Int) = some k := by
    unfold L2.ixN
    rw [if_pos (by omega), if_pos (by omega), Int.toNat_natCast]
  have up : (updS F k (a * b)).map fq = (F.map fq).set k (fq (F.getD k 0 + a * b)) := by unfold updS; rw [List.map_set]
  rw [up]
  generalize F.getD k 0 = y at *
  generalize a * b = ab at *
  generalize y + ab = w at *
  simp [f7_2, evSs, evS, ev, evA, plc, over, brw, idxT, e, g, z3, z1, back, atom, fz, fsQ, frz_fq, ix, h0, h1]
def enumL : Nat → List Rat → List T
  | _, [] => []
  | i, a :: f => .tup [.int (i : Nat), fq a] :: enumL (i + 1) f
theorem enumL_ge : ∀ (f : List Rat) (i : Nat), (f.map fq).mapIdx (fun k t => T.tup [.int ((i + k : Nat) : Int), t]) = enumL i f
  | [], i => by simp [enumL]
  | a :: f, i => by
    simp only [List.map_cons, List.mapIdx_cons, enumL]
    rw [← enumL_ge f (i + 1)]
    congr 1
    congr 1
    funext k t
    have : i + (k + 1) = i + 1 + k := by omega
    rw [this]
theorem enumL_eq (f : List Rat) : (f.map fq).mapIdx (fun k t => T.tup [.int (k : Nat), t]) = enumL 0 f := by
  rw [← enumL_ge f 0]
  congr 1
  funext k t
  rw [Nat.zero_add]
theorem s7 {n : Nat} {o1 o2 : Bool} {f : List Rat} {s : Rat} {m D E : Nat} (h : Hits m D f) (h0 : 0 < s) (h1 : s ≤ 1) (hE : gd E s) (d0 : 0 < D) (e0 : 0 < E) (e1 : E ≤ 36) (hD : D ≤ 36 ^ 5) (hm : m ≤ 5) :
    callF R' (n + 4) 7 [.lst o1 (f.map fq), .lst o2 [fq (1 - s), fq s]] = some (.lst true ((sumsV f (1 - s) s).map fq), [.lst false (f.map fq), .lst false [fq (1 - s), fq s]]) := by
  have hDE : D * E < 2 ^ 32 := Nat.lt_of_le_of_lt (Nat.mul_le_mul hD e1) (by decide)
  have de0 := Nat.mul_pos d0 e0
  have bs : bq 6 s := gd_bq hE (Rat.le_of_lt h0) h1 e0 (by omega)
  have bu : bq 6 (1 - s) := gd_bq (gd_sub1 hE) (by grind) (by grind) e0 (by omega)
  have hu : (0 : Rat) ≤ 1 - s := by grind
  have huv : (1 - s) + s = 1 := by grind
  have bf : ∀ a ∈ f, bq 32 a := fun a ha => gd_bq (h.gd a ha) (h.nn a ha) (by have := mem_le_sumQ h.nn ha; rw [h.one] at this; exact this) d0 (Nat.lt_of_le_of_lt hD (by decide))
  rw [callF_open (fn := f7) rfl]
  obtain ⟨M, hM⟩ : ∃ M, M = m + 2 := ⟨_, rfl⟩
  obtain ⟨sc, ec, ew⟩ := lcGo_map (β := Nat) (set := setG (pgOf R' (n + 3)) (.one (.nm 7))) (c := ev (pgOf R' (n + 3)) .t f7_0) (e := ev (pgOf R' (n + 3)) .e f7_1) (wp := fun x => List.set x 7 .hole) (s0 := [.lst o1 (f.map fq), .lst o2 [fq (1 - s), fq s], .hole, .hole, .hole, .hole, .hole, .hole])
    (v := fun k => .int (k : Int)) (w := fun _ => fq 0) (fun x => ⟨_, _, _, rfl, rfl, rfl, rfl⟩) (List.range M) [.lst o1 (f.map fq), .lst o2 [fq (1 - s), fq s], .hole, .hole, .hole, .hole, .hole, .hole] [] rfl (by simp; omega)
  have er := rngU0 M
  obtain ⟨fl, sl', e, rfl, t3, t4, t5, t6, o, rfl, rfl⟩ := forGo_inv (set := setG (pgOf R' (n + 3)) (.tp [.nm 3, .nm 4])) (b := evSs (pgOf R' (n + 3)) f7_3)
    (fun ts sl => ∃ i g F t3 t4 t5 t6 o, ts = enumL i g ∧ sl = [.lst false (f.map fq), .lst o [fq (1 - s), fq s], .lst true (F.map fq), t3, t4, t5, t6, .hole] ∧ (∀ a ∈ g, bq 32 a) ∧ SI (1 - s) s (D * E) (m + 1) i g F ∧ sumsG (1 - s) s i g F = sumsV f (1 - s) s ∧ (o = false ∨ i = 0))
    (fun fl sl => fl = .nx ∧ ∃ t3 t4 t5 t6 o, sl = [.lst false (f.map fq), .lst o [fq (1 - s), fq s], .lst true ((sumsV f (1 - s) s).map fq), t3, t4, t5, t6, .hole] ∧ o = false)
    (fun x ts sl ⟨i, g, F, t3, t4, t5, t6, o, q1, q2, q3, q4, q5, q6⟩ => by
      cases g with
      | nil => cases q1
      | cons a g =>
        cases q1; subst q2
        have ba := q3 a List.mem_cons_self
        have li : i < F.length := by rw [q4.len]; have := q4.im; simp only [List.length_cons] at this; omega
        have li1 : i + 1 < (updS F i (a * (1 - s))).length := by rw [updS_len, q4.len]; have := q4.im; simp only [List.length_cons] at this; omega
        have bF : ∀ x ∈ F, bq 32 x := fun x hx => by
          obtain ⟨x0, x1⟩ := q4.le1 huv x hx
          exact gd_bq (q4.gF x hx) x0 x1 de0 hDE
        have b1 : bq 32 (F.getD i 0) := al0_get bF li
        have b2 : bq 73 ((updS F i (a * (1 - s))).getD (i + 1) 0) := by
          rw [upd_get li, if_neg (by omega)]
          exact bq_mono (al0_get bF (by rw [updS_len] at li1; exact li1)) (by decide)
        have st1 := p7 (n := n) (L0 := .lst false (f.map fq)) (L1 := .lst false [fq (1 - s), fq s]) (i := i) (j := 0) (k := i) (Nat.add_zero i) (by simp [fsQ]) (by simp) rfl rfl li b1 ba bu (by omega)
        have st2 := p7 (n := n) (L0 := .lst false (f.map fq)) (L1 := .lst false [fq (1 - s), fq s]) (i := i) (j := 1) (k := i + 1) rfl (by simp [fsQ]) (by simp) rfl rfl li1 b2 ba bs (by omega)
        have nx := q4.step hu h0
        refine ⟨_, .nx, [.lst false (f.map fq), .lst false [fq (1 - s), fq s], .lst true ((updS (updS F i (a * (1 - s))) (i + 1) (a * s)).map fq), .int (i : Nat), fq a, .int (1 : Nat), fq s, .hole], rfl, ?_, i + 1, g, _, _, _, _, _, false, rfl, rfl, fun x hx => q3 x (List.mem_cons_of_mem _ hx), nx, q5, .inl rfl⟩
        simp only [Int.natCast_zero, Int.natCast_one] at st1 st2 ⊢
        cases o <;> simp [f7_3, evSs, evS, evI, ev, setG, setGs, setG0, forGo, frz_fq, List.mapIdx_cons, st1, st2])
    (fun sl ⟨i, g, F, t3, t4, t5, t6, o, q1, q2, q3, q4, q5, q6⟩ => by
      cases g with
      | cons => cases q1
      | nil =>
        subst q2
        have : i = m + 1 := by have := q4.im; simpa using this
        exact ⟨rfl, t3, t4, t5, t6, o, by rw [← q5]; rfl, q6.resolve_right (by omega)⟩)
    (enumL 0 f) [.lst false (f.map fq), .lst o2 [fq (1 - s), fq s], .lst true ((List.replicate (f.length + 1) (0 : Rat)).map fq), .hole, .hole, .hole, .hole, .hole] ⟨0, f, _, _, _, _, _, o2, rfl, rfl, bf, h.si h0 h1 hE, rfl, .inr rfl⟩
  have rp : (List.range M).map (fun _ : Nat => fq 0) = (List.replicate (f.length + 1) (0 : Rat)).map fq := by
    rw [h.len, hM]; simp [List.map_const', List.length_range]
  have ln : ((f.length : Int) + 2 - 1) = (M : Int) := by rw [h.len]; omega
  rw [rp] at ec
  rw [List.map_replicate] at e ec
  have hA : evS (pgOf R' (n + 3)) (S.asg (G.one (G0.nm 2)) (Pv.E.lc [7] (G.one (G0.nm 7)) (It.rng1 (Pv.E.op2 O2.sub (Pv.E.op2 O2.add (Pv.E.op1 O1.len (Pv.E.var 0)) (Pv.E.op1 O1.len (Pv.E.var 1))) (Pv.E.cst (T.int (Int.ofNat 1))))) f7_0 f7_1)) [.lst o1 (f.map fq), .lst o2 [fq (1 - s), fq s], .hole, .hole, .hole, .hole, .hole, .hole] = some (.nx, [.lst o1 (f.map fq), .lst o2 [fq (1 - s), fq s], .lst true (List.replicate (f.length + 1) (fq 0)), .hole, .hole, .hole, .hole, .hole]) := by
    have hr : ev (pgOf R' (n + 3)) .e (Pv.E.op2 O2.sub (Pv.E.op2 O2.add (Pv.E.op1 O1.len (Pv.E.var 0)) (Pv.E.op1 O1.len (Pv.E.var 1))) (Pv.E.cst (T.int (Int.ofNat 1)))) [.lst o1 (f.map fq), .lst o2 [fq (1 - s), fq s], .hole, .hole, .hole, .hole, .hole, .hole] = some (.int (M : Int), [.lst o1 (f.map fq), .lst o2 [fq (1 - s), fq s], .hole, .hole, .hole, .hole, .hole, .hole]) := by
      simp [ev, over]
      exact ln
    have hL := go_lc (own := [7]) (evI_rng1 hr (by omega)) rfl ec (m := .e) (by decide)
    rw [evS_asg1 hL]
    show some (Fl.nx, ((List.set (List.set sc 7 .hole) 7 .hole)).set 2 _) = _
    rw [ew]; rfl
  have hB : evS (pgOf R' (n + 3)) (S.forr (G.tp [(G0.nm 3), (G0.nm 4)]) (It.enum (Pv.E.var 0)) f7_3) [.lst o1 (f.map fq), .lst o2 [fq (1 - s), fq s], .lst true (List.replicate (f.length + 1) (fq 0)), .hole, .hole, .hole, .hole, .hole] = some (.nx, [T.lst false (List.map fq f), T.lst false [fq (1 - s), fq s], T.lst true (List.map fq (sumsV f (1 - s) s)), t3, t4, t5, t6, T.hole]) := by
    cases o1 <;> simp [evS, evI, ev, fz, enumL_eq, e]
  have hC : evSs (pgOf R' (n + 3)) f7.body ([.lst o1 (f.map fq), .lst o2 [fq (1 - s), fq s]] ++ List.replicate (f7.ns - f7.np) .hole) = some (.rt (.lst true ((sumsV f (1 - s) s).map fq)), [T.lst false (List.map fq f), T.lst false [fq (1 - s), fq s], .hole, t3, t4, t5, t6, T.hole]) := by
    show evSs _ (Ss.cons _ (Ss.cons _ (Ss.cons (S.ret (Pv.E.mov 2)) Ss.nil))) [.lst o1 (f.map fq), .lst o2 [fq (1 - s), fq s], .hole, .hole, .hole, .hole, .hole, .hole] = _
    rw [evSs_nx hA, evSs_nx hB]
    simp [evSs, evS, ev]
  rw [runF_go rfl hC]
  rfl
end W96

namespace W96
open Pv PySem
theorem s8 {n : Nat} {ss : List Rat} {o : Bool} (hs : ∀ s ∈ ss, okSh s) (hl : ss.length ≤ 6) : callF R' (n + 5) 8 [.lst o (ss.map fq)] = some (.lst true ((hitsV ss).map fq), [.lst false (ss.map fq)]) := by
  rw [callF_open (fn := f8) rfl]
  have c1 : T.tup [.int 1, .int 1] = fq 1 := rfl
  obtain ⟨fl, sl', e, rfl, t, rfl⟩ := forGo_inv (set := setG (pgOf R' (n + 4)) (.one (.nm 2))) (b := evSs (pgOf R' (n + 4)) f8_0)
    (fun ts sl => ∃ rs f t m D, ts = rs.map fq ∧ sl = [.lst false (ss.map fq), .lst true (f.map fq), t] ∧ Hits m D f ∧ 0 < D ∧ D ≤ 36 ^ m ∧ m + rs.length ≤ 6 ∧ (∀ s ∈ rs, okSh s) ∧ rs.foldl (fun f s => sumsV f (1 - s) s) f = hitsV ss)
    (fun fl sl => fl = .nx ∧ ∃ t, sl = [.lst false (ss.map fq), .lst true ((hitsV ss).map fq), t])
    (fun x ts sl ⟨rs, f, t, m, D, q1, q2, q3, q4, q5, q6, q7, q8⟩ => by
      cases rs with
      | nil => cases q1
      | cons s rs =>
        cases q1; subst q2
        obtain ⟨h0, h1, E, e0, e1, e2⟩ := q7 s List.mem_cons_self
        simp only [List.length_cons] at q6
        have bs : bq 6 s := gd_bq e2 (Rat.le_of_lt h0) h1 e0 (by omega)
        have z6 := cShare (n := n + 2) i6 i4 bs (by decide) (Rat.le_of_lt h0) h1
        have z2 := cMinus (n := n + 2) i2 i0 bq_one bs (by decide)
        have z7 := s7 (n := n) (o1 := true) (o2 := true) q3 h0 h1 e2 q4 e0 e1 (Nat.le_trans q5 (Nat.pow_le_pow_right (by decide) (by omega))) (by omega)
        refine ⟨_, .nx, [.lst false (ss.map fq), .lst true ((sumsV f (1 - s) s).map fq), fq s], rfl, ?_, rs, _, _, m + 1, D * E, rfl, rfl, q3.next h0 h1 e2, Nat.mul_pos q4 e0, by rw [Nat.pow_succ]; exact Nat.mul_le_mul q5 e1, by omega, fun s hs => q7 s (List.mem_cons_of_mem _ hs), q8⟩
        simp [f8_0, evSs, evS, ev, evA, evL, c1, z6, z2, z7, back, setG, setG0, frz_fq, isF_fq, okN_of])
    (fun sl ⟨rs, f, t, m, D, q1, q2, q3, q4, q5, q6, q7, q8⟩ => by
      cases rs with
      | cons => cases q1
      | nil => subst q2; exact ⟨rfl, t, by rw [← q8]; rfl⟩)
    (ss.map fq) [.lst false (ss.map fq), .lst true (([1] : List Rat).map fq), .hole] ⟨ss, [1], _, 0, 1, rfl, rfl, hits_one, by decide, by decide, by omega, hs, rfl⟩
  cases o <;> simp [runF, f8, evSs, evS, evI, ev, evL, c1, okN_of, setG, setG0, items2, fz, wipeS] at e ⊢ <;> simp [e]
/-! ### reading -/
section
variable {P : Pg} {sl : SL} {A B : E} {t u w : T} {m : Md} {a b : Bool}
theorem ev_op2_ff {o : O2} (hA : ev P .o A sl = some (t, sl)) (ft : isF t = true) (hB : ev P .o B sl = some (u, sl)) (h : op2 o t u = some w) : ev P m (.op2 o A B) sl = fin m false w sl := by
  simp [ev, hA, ft, hB, h]
theorem ev_an_t (hA : ev P .t A sl = some (.bl a, sl)) (hB : ev P .t B sl = some (.bl b, sl)) : ev P .t (.an A B) sl = some (.bl (a && b), sl) := by
  cases a <;> simp [ev, hA, hB]
theorem ev_frzp_F (hA : ev P .o A sl = some (t, sl)) (ft : isF t = true) : ev P .e (.frzp A B) sl = some (t, sl) := by
  simp [ev, hA, ft]
end
abbrev strOf (x : Fin 3) : T := .str (lt3 x)
abbrev rowT (o : Bool) (a : Row) : T := .lst o (a.map strOf)
theorem fzr (a : Row) : frzs (a.map strOf) = a.map strOf := frzs_map (fun _ => frz_str) a
theorem fsr (a : Row) : isFs (a.map strOf) = true := isFs_map (fun _ => isF_str) a
theorem eqT_let (x y : Fin 3) : eqT (strOf x) (strOf y) = some (decide (x = y)) := by revert x y; decide +kernel
theorem at_row {a : Row} {i : Nat} (h : i < a.length) : L2.atI (a.map strOf) (i : Int) = some (strOf (gs a i)) := by
  rw [atI_nat (by simpa using h)]
  simp [gs, List.getD_eq_getElem?_getD, h]
/-- x[i] and y[i], compared -/
theorem ev_ne_row {P : Pg} {sl : SL} {x y j : Nat} {o o2 : Bool} {a b : Row} {i : Nat} (h1 : look sl x = some (rowT o a)) (h2 : look sl y = some (rowT o2 b)) (hj : look sl j = some (.int (i : Nat))) (ha : i < a.length) (hb : i < b.length) :
    ev P .t (.op2 .ne (.idx (.var x) (.var j)) (.idx (.var y) (.var j))) sl = some (.bl (!decide (gs a i = gs b i)), sl) := by
  rw [ev_op2_ff (ev_idx_vv h1 hj (at_row ha)) isF_str (ev_idx_vv h2 hj (at_row hb)) (w := .bl (!decide (gs a i = gs b i))) (by rw [op2_neT, eqT_let]; rfl)]
  rfl
theorem ev_eq_row {P : Pg} {sl : SL} {x y j : Nat} {o o2 : Bool} {a b : Row} {i : Nat} (h1 : look sl x = some (rowT o a)) (h2 : look sl y = some (rowT o2 b)) (hj : look sl j = some (.int (i : Nat))) (ha : i < a.length) (hb : i < b.length) :
    ev P .t (.op2 .eq (.idx (.var x) (.var j)) (.idx (.var y) (.var j))) sl = some (.bl (decide (gs a i = gs b i)), sl) := by
  rw [ev_op2_ff (ev_idx_vv h1 hj (at_row ha)) isF_str (ev_idx_vv h2 hj (at_row hb)) (w := .bl (decide (gs a i = gs b i))) (by rw [op2_eqT, eqT_let]; rfl)]
  rfl
/-! ### the defs on answers -/
section
variable {n : Nat} {a b k : Row} {o1 o2 o3 : Bool}
theorem s9 (ha : a.length = k.length) (hb : b.length = k.length) : callF R' (n + 1) 9 [rowT o1 a, rowT o2 b, rowT o3 k] = some (.non, [rowT o1 a, rowT o2 b, rowT o3 k]) := by
  rw [callF_open (fn := f9) rfl]
  cases o1 <;> cases o2 <;> cases o3 <;> simp [runF, f9, evSs, evS, ev, over, fsr, ha, hb, wipeS, brw, fzr, atom]
abbrev natsT (ns : List Nat) : List T := ns.map fun i => .int (i : Nat)
theorem frz_nats (ns : List Nat) : frzs (natsT ns) = natsT ns := frzs_map (fun _ => frz_int) ns
theorem len10 {o : Bool} {sl : SL} {P : Pg} : ev P .e (E.op1 O1.len (E.var 2)) (.lst o1 (a.map strOf) :: .lst o2 (b.map strOf) :: .lst o (k.map strOf) :: sl) = some (.int (k.length : Nat), .lst o1 (a.map strOf) :: .lst o2 (b.map strOf) :: .lst o (k.map strOf) :: sl) := by
  simp [ev]
theorem s10 (ha : a.length = k.length) (hb : b.length = k.length) (hk : k.length ≤ 1000) : callF R' (n + 2) 10 [rowT o1 a, rowT o2 b, rowT o3 k] = some (.lst true (natsT (bw a b k)), [rowT o1 a, rowT o2 b, rowT o3 k]) := by
  rw [callF_open (fn := f10) rfl]
  have z9 := s9 (n := n) (o1 := o1) (o2 := o2) (o3 := o3) ha hb
  obtain ⟨s', e, w⟩ := lcGo_fm (β := Nat) (set := setG (pgOf R' (n + 1)) (.one (.nm 3))) (c := ev (pgOf R' (n + 1)) .t f10_0) (e := ev (pgOf R' (n + 1)) .e f10_1) (wp := wipeS [3]) (s0 := [rowT o1 a, rowT o2 b, rowT o3 k, .hole])
    (v := fun k => .int (k : Int)) (w := fun k => .int (k : Int)) (q := fun i => !decide (gs a i = gs k i) && !decide (gs b i = gs k i)) (List.range k.length) [rowT o1 a, rowT o2 b, rowT o3 k, .hole] [] (fun i hi => by
      have hi := List.mem_range.mp hi
      refine ⟨[rowT o1 a, rowT o2 b, rowT o3 k, .int (i : Nat)], _, rfl, ev_an_t (ev_ne_row rfl rfl rfl (by omega) hi) (ev_ne_row rfl rfl rfl (by omega) hi), fun _ => rfl, fun _ => ⟨_, rfl, rfl⟩⟩) rfl (by simp; omega)
  have hE : evS (pgOf R' (n + 1)) (Pv.S.exp (E.call 9 (Es.cons (E.var 0) (Es.cons (E.var 1) (Es.cons (E.var 2) Es.nil))))) [rowT o1 a, rowT o2 b, rowT o3 k, .hole] = some (.nx, [rowT o1 a, rowT o2 b, rowT o3 k, .hole]) := by
    cases o1 <;> cases o2 <;> cases o3 <;> simp [evS, ev, evA, fsr, z9, back]
  have hL := go_lc (evI_rng1 (len10 (sl := [.hole]) (P := pgOf R' (n + 1)) (a := a) (b := b) (k := k) (o1 := o1) (o2 := o2) (o := o3)) (by omega)) rfl e (m := .e) (by decide)
  refine runF_go (f := f10) (sl := [rowT o1 a, rowT o2 b, rowT o3 k, .hole]) rfl ?_
  show evSs _ (Ss.cons _ (Ss.cons _ Ss.nil)) [rowT o1 a, rowT o2 b, rowT o3 k, .hole] = _
  rw [evSs_nx hE, evSs_rt (evS_ret hL)]
  show some (Fl.rt _, List.set (wipeS [3] s') 3 _) = _
  rw [w]; rfl
theorem s11 (ha : a.length = k.length) (hb : b.length = k.length) (hk : k.length ≤ 1000) : callF R' (n + 3) 11 [rowT o1 a, rowT o2 b, rowT o3 k] = some (.lst true (natsT (al a b k)), [rowT o1 a, rowT o2 b, rowT o3 k]) := by
  rw [callF_open (fn := f11) rfl]
  have z10 := s10 (n := n) (o1 := o1) (o2 := o2) (o3 := o3) ha hb hk
  obtain ⟨s', e, w⟩ := lcGo_fm (β := Nat) (set := setG (pgOf R' (n + 2)) (.one (.nm 3))) (c := ev (pgOf R' (n + 2)) .t f11_0) (e := ev (pgOf R' (n + 2)) .e f11_1) (wp := wipeS [3]) (s0 := [rowT o1 a, rowT o2 b, rowT o3 k, .hole])
    (v := fun k => .int (k : Int)) (w := fun k => .int (k : Int)) (q := fun i => decide (gs a i = gs b i)) (bw a b k) [rowT o1 a, rowT o2 b, rowT o3 k, .hole] [] (fun i hi => by
      have hi := List.mem_range.mp (List.mem_filter.mp hi).1
      refine ⟨[rowT o1 a, rowT o2 b, rowT o3 k, .int (i : Nat)], _, rfl, ev_eq_row rfl rfl rfl (by omega) (by omega), fun _ => rfl, fun _ => ⟨_, rfl, rfl⟩⟩) rfl (by
        have := List.length_filter_le (fun i => !decide (gs a i = gs k i) && !decide (gs b i = gs k i)) (List.range k.length)
        rw [List.length_range] at this
        unfold bw
        simp only [List.length_nil]
        omega)
  have hC : ev (pgOf R' (n + 2)) .e (E.call 10 (Es.cons (E.var 0) (Es.cons (E.var 1) (Es.cons (E.var 2) Es.nil)))) [rowT o1 a, rowT o2 b, rowT o3 k, .hole] = some (.lst true (natsT (bw a b k)), [rowT o1 a, rowT o2 b, rowT o3 k, .hole]) := by
    cases o1 <;> cases o2 <;> cases o3 <;> simp [ev, evA, fsr, z10, back]
  have hL := go_lc (evI_seq hC (show items2 _ = some (frzs _) from rfl)) rfl (by rw [frz_nats]; exact e) (m := .e) (by decide)
  refine runF_go (f := f11) (sl := [rowT o1 a, rowT o2 b, rowT o3 k, .hole]) rfl ?_
  show evSs _ (Ss.cons _ Ss.nil) [rowT o1 a, rowT o2 b, rowT o3 k, .hole] = _
  rw [evSs_rt (evS_ret hL)]
  show some (Fl.rt _, List.set (wipeS [3] s') 3 _) = _
  rw [w]; rfl
end
end W96

namespace W96
open Pv PySem
/-- a dict comprehension, its keys all different -/
theorem dcGo_map {β : Type} {set : T → SL → Option SL} {c ke e : SL → Option (T × SL)} {wp : SL → SL} {s0 : SL} {v w : β → T} {κ : β → L2.Key} : ∀ (xs : List β) (sl : SL) (ks : List (List L2.Key)) (ts : List T), (∀ x ∈ xs, ∃ s1 s2 s3 s4 tk, set (v x) s0 = some s1 ∧ c s1 = some (.bl true, s2) ∧ ke s2 = some (tk, s3) ∧ keyT tk = some (κ x) ∧ e s3 = some (w x, s4) ∧ wp s4 = s0) →
    wp sl = s0 → (ks ++ xs.map fun x => [κ x]).Nodup → ks.length + xs.length < 10000000 → ∃ s', dcGo set c ke e wp (xs.map v) sl (ks, ts) = some ((ks ++ xs.map fun x => [κ x], ts ++ xs.map w), s') ∧ wp s' = s0
  | [], sl, ks, ts, _, hs, _, _ => ⟨sl, by simp [dcGo], hs⟩
  | x :: xs, sl, ks, ts, h, hs, nd, hl => by
    obtain ⟨s1, s2, s3, s4, tk, e1, e2, e3, e4, e5, e6⟩ := h x List.mem_cons_self
    have nk : [κ x] ∉ ks := fun m => by
      have := (List.nodup_append.mp nd).2.2 _ m [κ x] (by simp)
      exact this rfl
    have pt : putD ks ts [κ x] (w x) = (ks ++ [[κ x]], ts ++ [w x]) := by
      unfold putD
      rw [List.idxOf?_eq_none_iff.mpr nk]
    obtain ⟨s', e7, e8⟩ := dcGo_map xs s4 (ks ++ [[κ x]]) (ts ++ [w x]) (fun y hy => h y (List.mem_cons_of_mem _ hy)) e6 (by simpa using nd) (by simp at hl ⊢; omega)
    refine ⟨s', ?_, e8⟩
    show dcGo set c ke e wp (v x :: xs.map v) sl (ks, ts) = _
    unfold dcGo
    rw [hs, e1]
    show ((c s1).bind _) = _
    rw [e2]
    show ((ke s2).bind _) = _
    rw [e3]
    show ((keyT tk).bind _) = _
    rw [e4]
    show ((e s3).bind _) = _
    rw [e5]
    show (if okN ks.length then dcGo set c ke e wp (xs.map v) s4 (putD ks ts [κ x] (w x)) else none) = _
    rw [if_pos (okN_of (by simp at hl; omega)), pt, e7]
    simp
/-! ### sorted(set(..)) of letters -/
def kap (x : Fin 3) : L2.Key := .inr (lt3 x)
theorem lt3_inj : ∀ {x y : Fin 3}, lt3 x = lt3 y → x = y := by decide +kernel
theorem kap_inj {x y : Fin 3} (h : kap x = kap y) : x = y := lt3_inj (by simpa [kap] using h)
def addF (l : Row) (x : Fin 3) : Row := if x ∈ l then l else l ++ [x]
def ded (W : Row) : Row := W.foldl addF []
theorem keys_row : ∀ W : Row, keysT (W.map strOf) = some (W.map kap)
  | [] => rfl
  | x :: W => by
    show ((keyT (strOf x)).bind fun k => (keysT (W.map strOf)).bind fun ks => some (k :: ks)) = _
    rw [keys_row W]; rfl
theorem ded_map : ∀ (W E : Row), (W.map kap).foldl addQ (E.map kap) = (W.foldl addF E).map kap
  | [], E => rfl
  | x :: W, E => by
    rw [List.map_cons, List.foldl_cons, List.foldl_cons, ← ded_map W]
    congr 1
    unfold addQ addF
    have : kap x ∈ E.map kap ↔ x ∈ E := ⟨fun h => by obtain ⟨y, h1, h2⟩ := List.mem_map.mp h; rw [← kap_inj h2]; exact h1, fun h => List.mem_map.mpr ⟨x, h, rfl⟩⟩
    by_cases h : x ∈ E
    · rw [if_pos h, if_pos (this.mpr h)]
    · rw [if_neg h, if_neg fun z => h (this.mp z)]; simp
theorem ded_ok : ∀ (W E : Row), E.Nodup → (W.foldl addF E).Nodup ∧ ∀ x, x ∈ W.foldl addF E ↔ x ∈ W ∨ x ∈ E
  | [], E, h => ⟨h, fun x => by simp⟩
  | y :: W, E, h => by
    have nd : (addF E y).Nodup := by
      unfold addF
      by_cases c : y ∈ E
      · rw [if_pos c]; exact h
      · rw [if_neg c, List.nodup_append]
        exact ⟨h, by simp, fun a ha b hb => by simp at hb; subst hb; exact fun e => c (e ▸ ha)⟩
    have mm : ∀ x, x ∈ addF E y ↔ x ∈ E ∨ x = y := fun x => by
      unfold addF
      by_cases c : y ∈ E
      · rw [if_pos c]; exact ⟨.inl, fun h => h.elim id fun e => e ▸ c⟩
      · rw [if_neg c]; simp
    obtain ⟨a, b⟩ := ded_ok W (addF E y) nd
    exact ⟨a, fun x => by rw [List.foldl_cons, b, mm, List.mem_cons]; exact ⟨fun h => h.elim (fun m => .inl (.inr m)) fun h => h.elim .inr fun e => .inl (.inl e), fun h => h.elim (fun h => h.elim (fun e => .inr (.inr e)) .inl) fun m => .inr (.inl m)⟩⟩
theorem strs_row : ∀ E : Row, strsT ((E.map kap).map unK) = some (E.map lt3)
  | [] => rfl
  | x :: E => by
    show (strsT ((E.map kap).map unK)).map (lt3 x :: ·) = _
    rw [strs_row E]; rfl
theorem ord_nodup (W : Row) : (ord W).Nodup := List.Pairwise.filter _ (by decide)
theorem ord_mem {W : Row} {x : Fin 3} : x ∈ ord W ↔ x ∈ W := by
  unfold ord
  rw [List.mem_filter, decide_eq_true_iff]
  have all : ∀ x : Fin 3, x ∈ ([0, 1, 2] : Row) := by decide
  exact ⟨fun h => h.2, fun h => ⟨all x, h⟩⟩
theorem srt_row (W : Row) : isort leS ((ded W).map lt3) = (ord W).map lt3 := by
  obtain ⟨nd, mm⟩ := ded_ok W [] .nil
  have pm : (ded W).Perm (ord W) := (List.perm_ext_iff_of_nodup nd (ord_nodup W)).mpr fun x => by rw [mm, ord_mem]; simp
  refine perm_srt_eq leS_anti ((isort_perm _).trans (pm.map lt3)) (isort_srt leS_tr leS_tot _) ?_
  rw [List.pairwise_map]
  exact List.Pairwise.filter _ (by decide +kernel)
theorem ded_len (W : Row) : (ded W).length ≤ 3 := by
  obtain ⟨nd, mm⟩ := ded_ok W [] .nil
  have pm : (ded W).Perm (ord W) := (List.perm_ext_iff_of_nodup nd (ord_nodup W)).mpr fun x => by rw [mm, ord_mem]; simp
  rw [pm.length_eq]
  exact Nat.le_trans (List.length_filter_le _ _) (by decide)
theorem sortset_row {o : Bool} {W : Row} (h : W.length < 4000) : op1 .sortset (.lst o (W.map strOf)) = some (.lst true ((ord W).map strOf)) := by
  show (if decide ((W.map strOf).length < 4000) then (keysT (W.map strOf)).bind fun ks => (strsT ((dedK ks).map unK)).bind fun ss => if decide (ss.length < 64) then some (T.lst true ((isort leS ss).map .str)) else none else none) = _
  rw [if_pos (by simpa using h), keys_row]
  show ((strsT ((dedK (W.map kap)).map unK)).bind _) = _
  have : dedK (W.map kap) = (ded W).map kap := ded_map W []
  rw [this, strs_row]
  show (if decide (((ded W).map lt3).length < 64) then some (T.lst true ((isort leS ((ded W).map lt3)).map .str)) else none) = _
  rw [if_pos (by simp; have := ded_len W; omega), srt_row, List.map_map]
  rfl
theorem flTs_row : ∀ W : Row, flTs (W.map strOf) = some (W.map fun x => .str (lt3 x))
  | [] => rfl
  | x :: W => by
    show ((flT (strOf x)).bind fun v => (flTs (W.map strOf)).bind fun vs => some (v :: vs)) = _
    rw [flTs_row W]; rfl
theorem lcount_row {o : Bool} {W : Row} {x : Fin 3} : op2 .lcount (.lst o (W.map strOf)) (strOf x) = some (.int (W.count x : Nat)) := by
  show ((flT (strOf x)).bind fun v => (flTs (W.map strOf)).bind fun vs => some (T.int (vs.countP fun z => L2.eqV z v : Nat))) = _
  rw [flTs_row]
  show some (T.int ((W.map fun x => L2.V.str (lt3 x)).countP fun z => L2.eqV z (.str (lt3 x)) : Nat)) = _
  rw [List.countP_map]
  have : ((fun z => L2.eqV z (.str (lt3 x))) ∘ fun x => L2.V.str (lt3 x)) = fun y => y == x := by
    funext y
    show (lt3 y == lt3 x) = (y == x)
    rw [Bool.eq_iff_iff]
    simp only [beq_iff_eq]
    exact ⟨lt3_inj, fun h => by rw [h]⟩
  rw [this]; rfl
end W96

set_option exponentiation.threshold 10000
namespace W96
open Pv PySem
def shT (L : List (Bool × Row)) : List T := L.map fun p => rowT p.1 p.2
def rws (L : List (Bool × Row)) : List Row := L.map (·.2)
theorem frz_row (o : Bool) (a : Row) : frz (rowT o a) = rowT false a := by simp [fzr]
theorem frzs_sh : ∀ L : List (Bool × Row), frzs (shT L) = (rws L).map (rowT false)
  | [] => rfl
  | p :: L => by
    show frz (rowT p.1 p.2) :: frzs (shT L) = _
    rw [frzs_sh L, frz_row]; rfl
theorem isFs_rows : ∀ S : List Row, isFs (S.map (rowT false)) = true := isFs_map fun a => by simp [fsr]
theorem sh_rows (S : List Row) : S.map (rowT false) = shT (S.map fun r => (false, r)) := by unfold shT; rw [List.map_map]; rfl
theorem rws_rows (S : List Row) : rws (S.map fun r => (false, r)) = S := by unfold rws; rw [List.map_map]; exact List.map_id' S
theorem go_dc {P : Pg} {sl sl1 sl2 : SL} {ts r2 : List T} {r1 : List (List L2.Key)} {own : List Nat} {g : Pv.G} {it : Pv.It} {c k elt : Pv.E} (hi : evI P it sl = some (ts, sl1)) (ho : ownOk own sl1 = true) (hl : dcGo (setG P g) (ev P .t c) (ev P .e k) (ev P .e elt) (wipeS own) ts sl1 ([], []) = some ((r1, r2), sl2)) : ev P .e (.dc own g it c k elt) sl = some (.dct .own false r1 r2, restS sl1 own (wipeS own sl2)) := by
  simp only [ev]
  rw [hi]
  show (if ownOk own sl1 = true then _ else none) = _
  rw [if_pos ho, hl]; rfl
theorem s12 {n : Nat} {o ok : Bool} {L : List (Bool × Row)} {k : Row} {p : Nat} (hS : ∀ r ∈ rws L, r.length = k.length) (hp : p < k.length) (hl : L.length ≤ 6) (hW : wr (rws L) k p ≠ []) :
    callF R' (n + 2) 12 [.lst o (shT L), rowT ok k, .int (p : Nat)] = some (.dct .own false ((ord (wr (rws L) k p)).map fun x => [kap x]) ((ord (wr (rws L) k p)).map fun x => fq (frq (wr (rws L) k p) x)), [.lst false ((rws L).map (rowT false)), rowT ok k, .int (p : Nat)]) := by
  rw [callF_open (fn := f12) rfl]
  have hi : evI (pgOf R' (n + 1)) (It.var 0) [.lst o (shT L), rowT ok k, .int (p : Nat), .hole, .hole, .hole] = some ((rws L).map (rowT false), [.lst false ((rws L).map (rowT false)), rowT ok k, .int (p : Nat), .hole, .hole, .hole]) := by
    simp only [evI]
    show some (frzs (shT L), [frz (.lst o (shT L)), rowT ok k, .int (p : Nat), .hole, .hole, .hole]) = _
    rw [frz_lst, frzs_sh]
  obtain ⟨s', e, w⟩ := lcGo_fm (set := setG (pgOf R' (n + 1)) (.one (.nm 4))) (c := ev (pgOf R' (n + 1)) .t f12_0) (e := ev (pgOf R' (n + 1)) .e f12_1) (wp := wipeS [4]) (s0 := [.lst false ((rws L).map (rowT false)), rowT ok k, .int (p : Nat), .hole, .hole, .hole])
    (v := rowT false) (w := fun r => strOf (gs r p)) (q := fun r => !decide (gs r p = gs k p)) (rws L) [.lst false ((rws L).map (rowT false)), rowT ok k, .int (p : Nat), .hole, .hole, .hole] [] (fun r hr => by
      have lr := hS r hr
      refine ⟨[.lst false ((rws L).map (rowT false)), rowT ok k, .int (p : Nat), .hole, rowT false r, .hole], _, rfl, ev_ne_row rfl rfl rfl (by omega) hp, fun _ => rfl, fun _ => ⟨_, ev_frzp_F (ev_idx_vv rfl rfl (at_row (by omega))) isF_str, rfl⟩⟩) rfl (by unfold rws; simp; omega)
  have eW : ((rws L).filter fun r => !decide (gs r p = gs k p)).map (fun r => strOf (gs r p)) = (wr (rws L) k p).map strOf := by unfold wr; rw [List.map_map]; rfl
  rw [List.nil_append, eW] at e
  have lW : (wr (rws L) k p).length ≤ 6 := Nat.le_trans wr_len (by unfold rws; simpa using hl)
  have l0 : 0 < (wr (rws L) k p).length := List.length_pos_iff.mpr hW
  generalize hWW : wr (rws L) k p = W at *
  have hL := go_lc hi rfl e (m := .e) (by decide)
  have hseq : ev (pgOf R' (n + 1)) .e (E.op1 O1.sortset (E.var 3)) [.lst false ((rws L).map (rowT false)), rowT ok k, .int (p : Nat), .lst true (W.map strOf), .hole, .hole] = some (.lst true ((ord W).map strOf), [.lst false ((rws L).map (rowT false)), rowT ok k, .int (p : Nat), .lst true (W.map strOf), .hole, .hole]) := by
    simp only [ev]
    show ((op1 .sortset (.lst true (W.map strOf))).bind fun t => fin .e false t _) = _
    rw [sortset_row (by omega)]; rfl
  obtain ⟨s2, e2, w2⟩ := dcGo_map (set := setG (pgOf R' (n + 1)) (.one (.nm 5))) (c := ev (pgOf R' (n + 1)) .t (E.cst (T.bl true))) (ke := ev (pgOf R' (n + 1)) .e (E.var 5)) (e := ev (pgOf R' (n + 1)) .e (E.call 0 (Es.cons (E.op2 O2.lcount (E.var 3) (E.var 5)) (Es.cons (E.op1 O1.len (E.var 3)) Es.nil)))) (wp := wipeS [5]) (s0 := [.lst false ((rws L).map (rowT false)), rowT ok k, .int (p : Nat), .lst true (W.map strOf), .hole, .hole])
    (v := strOf) (w := fun x => fq (frq W x)) (κ := kap) (ord W) [.lst false ((rws L).map (rowT false)), rowT ok k, .int (p : Nat), .lst true (W.map strOf), .hole, .hole] [] [] (fun x hx => by
      have z0 := cFrac (n := n) i0 (a := (W.count x : Nat)) (b := (W.length : Nat)) (by omega) (by rw [Int.natAbs_natCast]; exact Nat.lt_of_le_of_lt lW (Nat.lt_of_lt_of_le (by decide : 6 < 2 ^ 3) (Nat.pow_le_pow_right (by decide) (by decide))))
      have lc := lcount_row (o := true) (W := W) (x := x)
      have fzL := isFs_rows (rws L)
      refine ⟨[.lst false ((rws L).map (rowT false)), rowT ok k, .int (p : Nat), .lst true (W.map strOf), .hole, strOf x], _, [.lst false ((rws L).map (rowT false)), rowT ok k, .int (p : Nat), .lst true (W.map strOf), .hole, strOf x], [.lst false ((rws L).map (rowT false)), rowT ok k, .int (p : Nat), .lst true (W.map strOf), .hole, strOf x], strOf x, rfl, rfl, rfl, rfl, ?_, rfl⟩
      · refine (go_call (ts := [.int (W.count x : Nat), .int (W.length : Nat)]) (bk := [none, none]) (sl1 := [.lst false ((rws L).map (rowT false)), rowT ok k, .int (p : Nat), .lst true (W.map strOf), .hole, strOf x]) ?_ z0 (by decide)).trans ?_
        · simp [evA, ev, over, fsr, brw, lc, atom]
        · rfl) rfl (by
      show ((ord W).map fun x => [kap x]).Nodup
      refine List.pairwise_map.mpr ((ord_nodup W).imp ?_)
      intro a b hab h
      exact hab (kap_inj (by simpa using h))) (by have := List.length_filter_le (fun x => decide (x ∈ W)) [0, 1, 2]; unfold ord; simp at this ⊢; omega)
  rw [List.nil_append, List.nil_append] at e2
  have fro : frzs ((ord W).map strOf) = (ord W).map strOf := fzr _
  have hD := go_dc (evI_seq hseq (show items2 _ = some (frzs _) from rfl)) rfl (by rw [fro]; exact e2)
  refine runF_go (f := f12) (sl := [.lst false ((rws L).map (rowT false)), rowT ok k, .int (p : Nat), .lst true (W.map strOf), .hole, .hole]) rfl ?_
  show evSs _ (Ss.cons _ (Ss.cons _ Ss.nil)) [.lst o (shT L), rowT ok k, .int (p : Nat), .hole, .hole, .hole] = _
  rw [evSs_nx (evS_asg1 hL)]
  have ew : (restS [.lst false ((rws L).map (rowT false)), rowT ok k, .int (p : Nat), .hole, .hole, .hole] [4] (wipeS [4] s')).set 3 (.lst true (W.map strOf)) = [.lst false ((rws L).map (rowT false)), rowT ok k, .int (p : Nat), .lst true (W.map strOf), .hole, .hole] := by
    rw [w]; rfl
  rw [ew, evSs_rt (evS_ret hD), w2]; rfl
end W96

namespace W96
open Pv PySem
theorem fq_sq (x : Rat) : T.tup [.int (x.num * x.num), .int ((x.den : Int) * (x.den : Int))] = fq (x * x) := by
  have hd : (0 : Int) < (x.den : Int) * (x.den : Int) := Int.mul_pos (den_pos' x) (den_pos' x)
  obtain ⟨q1, q2⟩ := quot_num (a := x.num * x.num) hd
  rw [← mul_eq] at q1 q2
  have g : Nat.gcd (x.num * x.num).natAbs ((x.den : Int) * (x.den : Int)).natAbs = 1 := by
    rw [Int.natAbs_mul, Int.natAbs_mul, Int.natAbs_natCast]
    have c := x.reduced
    exact Nat.Coprime.mul_left (Nat.Coprime.mul_right c c) (Nat.Coprime.mul_right c c)
  rw [g] at q1 q2
  simp only [Int.natCast_one, Int.ediv_one] at q1 q2
  show _ = T.tup [.int (x * x).num, .int ((x * x).den : Nat)]
  rw [q1, q2]
theorem gd_sum {D : Nat} : ∀ {l : List Rat}, al0 (gd D) l → gd D (sumQ l)
  | [], _ => gd_zero
  | x :: l, h => by
    rw [sumQ_cons]
    exact gd_add (h x List.mem_cons_self) (gd_sum fun y hy => h y (List.mem_cons_of_mem _ hy))
theorem ch_bq {S : List Row} {k a b : Row} (hS : S.length ≤ 6) (ha : a ∈ S) (hk : k.length ≤ 6) : bq 32 (chV S k a b) := by
  have so := shs_ok (k := k) (b := b) hS ha
  obtain ⟨D, d0, d1, h⟩ := hits_ok so
  have lb : (shs S k a b).length ≤ 6 := by
    unfold shs bw
    rw [List.length_map]
    exact Nat.le_trans (List.length_filter_le _ _) (by rw [List.length_range]; exact hk)
  refine gd_bq (D := D) ?_ (Rat.le_of_lt (ch_pos hS ha)) (ch_le hS ha) d0 (Nat.lt_of_le_of_lt (Nat.le_trans d1 (Nat.pow_le_pow_right (by decide) lb)) (by decide))
  exact gd_sum fun x hx => h.gd x (List.mem_of_mem_drop hx)
def IsSh (S : List Row) (t : T) : Prop := ∃ o L, t = .lst o (shT L) ∧ rws L = S
theorem IsSh.hole {S : List Row} {t : T} (h : IsSh S t) : isHole t = false := by obtain ⟨o, L, rfl, _⟩ := h; rfl
theorem idx_sh {L : List (Bool × Row)} {i : Nat} (h : i < L.length) : L2.atI (shT L) (i : Int) = some (rowT L[i].1 (rowAt (rws L) i)) := by
  rw [atI_nat (by simpa [shT] using h)]
  simp [shT, rowAt, rws, List.getD_eq_getElem?_getD, h]
theorem ev_frzp_O {P : Pg} {sl sl1 : SL} {A B : Pv.E} {t t2 : T} {put : T → SL} (hA : ev P .o A sl = some (t, sl1)) (nf : isF t = false) (hp : plc P B sl = some (t2, put)) : ev P .e (.frzp A B) sl = some (frz t2, put (frz t2)) := by
  simp [ev, hA, nf, hp]
/-- sheets[i], taken out -/
theorem take_sh {P : Pg} {sl : SL} {k i : Nat} {ix : Pv.E} {S : List Row} {t : T} (hk : sl[k]? = some t) (ht : IsSh S t) (h1 : ev P .o ix sl = some (.int (i : Nat), sl)) (h2 : ev P .o ix (brw sl) = some (.int (i : Nat), brw sl)) (hi : i < S.length) :
    ∃ t2, IsSh S t2 ∧ ev P .e (.frzp (.idx (.var k) ix) (.idx (.var k) ix)) sl = some (rowT false (rowAt S i), sl.set k t2) := by
  obtain ⟨o, L, rfl, hL⟩ := ht
  have li : i < L.length := by rw [← hL] at hi; simpa [rws] using hi
  have lk := look_get hk rfl
  have at1 := idx_sh li
  have e1 : ev P .o (.idx (.var k) ix) sl = some (rowT L[i].1 (rowAt (rws L) i), sl) := by
    simp only [ev, lk, Option.bind_some, over, Bool.true_and]
    by_cases f : isF (.lst o (shT L)) = true
    · simp [f, h1, idxT, at1]
    · simp [f, h2, idxT, at1, atom]
  have sk : sl.set k (.lst o (shT L)) = sl := by
    apply List.ext_getElem?
    intro j
    by_cases hj : k = j
    · subst hj
      rw [hk]
      have : k < sl.length := by
        by_cases z : k < sl.length
        · exact z
        · rw [List.getElem?_eq_none (by omega)] at hk; cases hk
      rw [List.getElem?_set_self this]
    · rw [List.getElem?_set_ne hj]
  cases hb : L[i].1 with
  | false =>
    refine ⟨.lst o (shT L), ⟨o, L, rfl, hL⟩, ?_⟩
    rw [sk]
    rw [hb] at e1
    rw [hL] at e1
    exact ev_frzp_F e1 (by simp [fsr])
  | true =>
    rw [hb] at e1
    refine ⟨.lst o ((shT L).set i (rowT false (rowAt (rws L) i))), ⟨o, L.set i (false, rowAt (rws L) i), ?_, ?_⟩, ?_⟩
    · unfold shT; rw [List.map_set]
    · unfold rws
      rw [List.map_set]
      rw [← hL]
      show (L.map (·.2)).set i (rowAt (rws L) i) = rws L
      apply List.ext_getElem?
      intro j
      by_cases hj : i = j
      · subst hj
        rw [List.getElem?_set_self (by simpa using li)]
        unfold rowAt
        rw [List.getD_eq_getElem?_getD]
        have : i < (rws L).length := by simpa [rws] using li
        rw [List.getElem?_eq_getElem this]; rfl
      · rw [List.getElem?_set_ne hj]; rfl
    · have nf : isF (rowT true (rowAt (rws L) i)) = false := by simp
      have ix' : L2.ixN (shT L).length (i : Int) = some i := by
        unfold L2.ixN
        have : (shT L).length = L.length := by simp [shT]
        rw [this, if_pos (by omega), if_pos (by omega), Int.toNat_natCast]
      have gt : (shT L)[i]? = some (rowT true (rowAt (rws L) i)) := by
        have := at1
        unfold L2.atI at this
        rw [ix', hb] at this
        exact this
      have pl : plc P (.idx (.var k) ix) sl = some (rowT true (rowAt (rws L) i), fun u => sl.set k (.lst o ((shT L).set i u))) := by
        simp only [plc, lk, Option.bind_some, h2, ix', gt]
      have z := ev_frzp_O e1 nf pl
      rw [frz_row, hL] at z
      rw [hL]
      exact z
end W96

namespace W96
open Pv PySem
theorem go_append {P : Pg} {sl sl1 : SL} {i : Nat} {e : Pv.E} {ts : List T} {t : T} (h0 : look sl i = some (.lst true ts)) (h : ev P .e e sl = some (t, sl1)) (h1 : look sl1 i = some (.lst true ts)) (ok : ts.length < 10000000) : evS P (.exp (.mut i .append (.cons e .nil))) sl = some (.nx, sl1.set i (.lst true (ts ++ [t]))) := by
  simp [evS, ev, evL, h0, h, h1, kindM, mutT, okN_of ok]
section
variable {n : Nat} {k : Row} {ok : Bool} {S : List Row}
/-- what holds of the sheets -/
structure Sht (S : List Row) (k : Row) : Prop where
  len : ∀ r ∈ S, r.length = k.length
  n6 : S.length ≤ 6
  k6 : k.length ≤ 6
theorem row13 {W : Row} {x : Fin 3} (h : W.length ≤ 6) (h0 : 0 < W.length) : bq 3 (frq W x) := by
  unfold frq
  have : W.count x ≤ W.length := List.count_le_length
  exact bq_div (by omega) (by omega) (by omega)
theorem tot13 {W : Row} (h : W.length ≤ 6) (h0 : 0 < W.length) {o : Bool} : callF R' (n + 3) 5 [.lst o ((ord W).map fun x => fq (frq W x * frq W x))] = some (fq (sv W), [.lst false ((ord W).map fun x => fq (frq W x * frq W x))]) := by
  have e : ((ord W).map fun x => fq (frq W x * frq W x)) = ((ord W).map fun x => frq W x * frq W x).map fq := by rw [List.map_map]; rfl
  rw [e]
  have ol : (ord W).length ≤ 3 := Nat.le_trans (List.length_filter_le _ _) (by decide)
  refine cTotal (n := n) i5 i1 i0 (k := 6) (fun x hx => ?_) (by
    rw [List.length_map]
    have := Nat.mul_le_mul_right 7 (Nat.add_le_add_right ol 1)
    omega)
  obtain ⟨y, _, rfl⟩ := List.mem_map.mp hx
  exact bq_mul (row13 h h0) (row13 h h0)
theorem step13 {t : T} {a b : Row} {p : Nat} {ss : List Rat} {i j : Int} {t7 t8 : T} (hS : IsSh S t) (hk : Sht S k) (ha : a ∈ S) (hp : p ∈ bw a b k) (hl : ss.length < 1000000) :
    ∃ t' t8', IsSh S t' ∧ evSs (pgOf R' (n + 5)) f13_2 [t, .int i, .int j, rowT ok k, rowT false a, rowT false b, .lst true (ss.map fq), .int (p : Nat), t8, .hole, .hole] = some (.nx, [t', .int i, .int j, rowT ok k, rowT false a, rowT false b, .lst true ((ss ++ [sv (wr S k p)]).map fq), .int (p : Nat), t8', .hole, .hole]) := by
  obtain ⟨o, L, rfl, hL⟩ := hS
  have hpk : p < k.length := List.mem_range.mp (List.mem_filter.mp hp).1
  have hne := wr_ne ha hp
  have hlen : L.length = S.length := by rw [← hL]; simp [rws]
  have z12 := s12 (n := n + 3) (o := o) (ok := ok) (L := L) (k := k) (p := p) (by rw [hL]; exact hk.len) hpk (by rw [hlen]; exact hk.n6) (by rw [hL]; exact hne)
  rw [hL] at z12
  have lW : (wr S k p).length ≤ 6 := Nat.le_trans wr_len hk.n6
  have l0 : 0 < (wr S k p).length := List.length_pos_iff.mpr hne
  have z5 := tot13 (n := n + 2) lW l0 (o := true)
  generalize wr S k p = W at *
  have fzs : frzs ((ord W).map fun x => fq (frq W x)) = (ord W).map fun x => fq (frq W x) := frzs_map (fun _ => frz_fq _) _
  have m3 : ∀ x : Rat, bq 3 x → mulOk x.num x.num = true ∧ mulOk (x.den : Int) (x.den : Int) = true := fun x hx => ⟨mulOk_of hx.1 hx.1 (by decide) (by decide), mulOk_of (n := 3) (m := 3) (by rw [den_abs]; exact hx.2) (by rw [den_abs]; exact hx.2) (by decide) (by decide)⟩
  obtain ⟨s', e, w⟩ := lcGo_mapM (set := setG (pgOf R' (n + 5)) (.one (.nm 10))) (c := ev (pgOf R' (n + 5)) .t f13_0) (e := ev (pgOf R' (n + 5)) .e f13_1) (wp := wipeS [10])
    (s0 := [.lst false (S.map (rowT false)), .int i, .int j, rowT ok k, rowT false a, rowT false b, .lst true (ss.map fq), .int (p : Nat), .dct .lok false ((ord W).map fun x => [kap x]) ((ord W).map fun x => fq (frq W x)), .hole, .hole])
    (v := fun x => fq (frq W x)) (w := fun x => fq (frq W x * frq W x)) (ord W) [.lst false (S.map (rowT false)), .int i, .int j, rowT ok k, rowT false a, rowT false b, .lst true (ss.map fq), .int (p : Nat), .dct .lok false ((ord W).map fun x => [kap x]) ((ord W).map fun x => fq (frq W x)), .hole, .hole] [] (fun x _ => by
      obtain ⟨q1, q2⟩ := m3 _ (row13 (x := x) lW l0)
      refine ⟨[.lst false (S.map (rowT false)), .int i, .int j, rowT ok k, rowT false a, rowT false b, .lst true (ss.map fq), .int (p : Nat), .dct .lok false ((ord W).map fun x => [kap x]) ((ord W).map fun x => fq (frq W x)), .hole, fq (frq W x)], _, [.lst false (S.map (rowT false)), .int i, .int j, rowT ok k, rowT false a, rowT false b, .lst true (ss.map fq), .int (p : Nat), .dct .lok false ((ord W).map fun x => [kap x]) ((ord W).map fun x => fq (frq W x)), .hole, fq (frq W x)], rfl, rfl, ?_, rfl⟩
      rw [← fq_sq]
      generalize frq W x = y at *
      simp [f13_1, ev, evL, over, idxT, L2.atI, L2.ixN, op2_mul q1, op2_mul q2, okN_of]) rfl (by have := List.length_filter_le (fun x => decide (x ∈ W)) [0, 1, 2]; unfold ord; simp at this ⊢; omega)
  refine ⟨.lst false (S.map (rowT false)), .dct .lok false ((ord W).map fun x => [kap x]) ((ord W).map fun x => fq (frq W x)), ⟨false, S.map fun r => (false, r), by rw [← sh_rows], rws_rows S⟩, ?_⟩
  have h1 : evS (pgOf R' (n + 5)) (Pv.S.asg (G.one (G0.nm 8)) (E.call 12 (Es.cons (E.var 0) (Es.cons (E.var 3) (Es.cons (E.var 7) Es.nil))))) [.lst o (shT L), .int i, .int j, rowT ok k, rowT false a, rowT false b, .lst true (ss.map fq), .int (p : Nat), t8, .hole, .hole] = some (.nx, [.lst false (S.map (rowT false)), .int i, .int j, rowT ok k, rowT false a, rowT false b, .lst true (ss.map fq), .int (p : Nat), .dct .own false ((ord W).map fun x => [kap x]) ((ord W).map fun x => fq (frq W x)), .hole, .hole]) := by
    by_cases fo : isF (.lst o (shT L)) = true
    · have oo : o = false := by cases o <;> simp at fo ⊢
      subst oo
      have same : shT L = S.map (rowT false) := by
        have a1 := frzs_sh L
        have a2 : isFs (shT L) = true := by simpa using fo
        rw [hL] at a1
        rw [← a1]
        have gen : ∀ L : List (Bool × Row), isFs (shT L) = true → frzs (shT L) = shT L := fun L => by
          induction L with
          | nil => intro _; rfl
          | cons q L ih =>
            intro h
            have h' : (isF (rowT q.1 q.2) && isFs (shT L)) = true := h
            rw [Bool.and_eq_true] at h'
            show frz (rowT q.1 q.2) :: frzs (shT L) = rowT q.1 q.2 :: shT L
            rw [ih h'.2, frz_row]
            have : q.1 = false := by
              have := h'.1
              cases hq : q.1 <;> simp [hq] at this ⊢
            rw [this]
        exact (gen L a2).symm
      rw [same] at z12 ⊢
      have f1 := isFs_rows S
      cases ok <;> simp [evS, ev, evA, fsr, f1, z12, back, setG, setG0]
    · have fo' : isF (.lst o (shT L)) = false := by simpa using fo
      generalize hT : T.lst o (shT L) = TT at *
      have hh : isHole TT = false := by rw [← hT]; rfl
      have lk : ∀ r, look (TT :: r) 0 = some TT := fun r => look_of hh
      cases ok <;> simp [evS, ev, evA, fsr, fo', lk, z12, back, setG, setG0]
  show evSs _ (Ss.cons _ (Ss.cons _ Ss.nil)) _ = _
  rw [evSs_nx h1]
  have h2 : evI (pgOf R' (n + 5)) (It.valsv 8) [.lst false (S.map (rowT false)), .int i, .int j, rowT ok k, rowT false a, rowT false b, .lst true (ss.map fq), .int (p : Nat), .dct .own false ((ord W).map fun x => [kap x]) ((ord W).map fun x => fq (frq W x)), .hole, .hole] = some ((ord W).map fun x => fq (frq W x), [.lst false (S.map (rowT false)), .int i, .int j, rowT ok k, rowT false a, rowT false b, .lst true (ss.map fq), .int (p : Nat), .dct .lok false ((ord W).map fun x => [kap x]) ((ord W).map fun x => fq (frq W x)), .hole, .hole]) := by
    simp [evI, dctT, fzs]
  have hl2 := go_lc h2 rfl e (m := .e) (by decide)
  have er : restS [.lst false (S.map (rowT false)), .int i, .int j, rowT ok k, rowT false a, rowT false b, .lst true (ss.map fq), .int (p : Nat), .dct .lok false ((ord W).map fun x => [kap x]) ((ord W).map fun x => fq (frq W x)), .hole, .hole] [10] (wipeS [10] s') = [.lst false (S.map (rowT false)), .int i, .int j, rowT ok k, rowT false a, rowT false b, .lst true (ss.map fq), .int (p : Nat), .dct .lok false ((ord W).map fun x => [kap x]) ((ord W).map fun x => fq (frq W x)), .hole, .hole] := by
    rw [w]; rfl
  rw [er] at hl2
  generalize hlc : Pv.E.lc [10] (G.one (G0.nm 10)) (It.valsv 8) f13_0 f13_1 = LC at *
  have h3 : ev (pgOf R' (n + 5)) .e (E.call 5 (Es.cons LC Es.nil)) [.lst false (S.map (rowT false)), .int i, .int j, rowT ok k, rowT false a, rowT false b, .lst true (ss.map fq), .int (p : Nat), .dct .own false ((ord W).map fun x => [kap x]) ((ord W).map fun x => fq (frq W x)), .hole, .hole] = some (fq (sv W), [.lst false (S.map (rowT false)), .int i, .int j, rowT ok k, rowT false a, rowT false b, .lst true (ss.map fq), .int (p : Nat), .dct .lok false ((ord W).map fun x => [kap x]) ((ord W).map fun x => fq (frq W x)), .hole, .hole]) := by
    have z5' : (pgOf R' (n + 5)).cf 5 [.lst true ((ord W).map fun x => fq (frq W x * frq W x))] = some (fq (sv W), [.lst false ((ord W).map fun x => fq (frq W x * frq W x))]) := z5
    refine go_call (m := .e) (bk := [none]) ?_ z5' (by decide)
    rw [← hlc] at hl2 ⊢
    simp only [evA]
    rw [hl2]; rfl
  have h4 := go_append (i := 6) (ts := ss.map fq) rfl h3 rfl (by simp; omega)
  rw [evSs_nx h4]
  have em : (ss ++ [sv W]).map fq = ss.map fq ++ [fq (sv W)] := by simp
  rw [em]
  exact go_nil
end
end W96

namespace W96
open Pv PySem
section
variable {n : Nat} {k : Row} {ok : Bool} {S : List Row}
theorem chances13 {t : T} {a b : Row} {i j : Int} {t7 t8 : T} (hk : Sht S k) (ha : a ∈ S) : ∀ (ps : List Nat) (ss : List Rat) (t t7 t8 : T), IsSh S t → (∀ p ∈ ps, p ∈ bw a b k) → ss.length + ps.length < 1000000 →
    ∃ t' t7' t8', IsSh S t' ∧ forGo (setG (pgOf R' (n + 5)) (.one (.nm 7))) (evSs (pgOf R' (n + 5)) f13_2) (natsT ps) [t, .int i, .int j, rowT ok k, rowT false a, rowT false b, .lst true (ss.map fq), t7, t8, .hole, .hole] = some (.nx, [t', .int i, .int j, rowT ok k, rowT false a, rowT false b, .lst true ((ss ++ ps.map fun p => sv (wr S k p)).map fq), t7', t8', .hole, .hole])
  | [], ss, t, t7, t8, hS, _, _ => ⟨t, t7, t8, hS, by simp [forGo]⟩
  | p :: ps, ss, t, t7, t8, hS, hp, hl => by
    obtain ⟨t1, t81, hS1, e1⟩ := step13 (n := n) (ok := ok) (i := i) (j := j) (t7 := t7) (t8 := t8) (ss := ss) hS hk ha (hp p List.mem_cons_self) (by simp only [List.length_cons] at hl; omega)
    obtain ⟨t2, t72, t82, hS2, e2⟩ := chances13 hk ha (t := t) (t7 := t7) (t8 := t8) ps (ss ++ [sv (wr S k p)]) t1 (.int (p : Nat)) t81 hS1 (fun q hq => hp q (List.mem_cons_of_mem _ hq)) (by simp at hl ⊢; omega)
    refine ⟨t2, t72, t82, hS2, ?_⟩
    show forGo _ _ (.int (p : Nat) :: natsT ps) _ = _
    unfold forGo
    show ((evSs (pgOf R' (n + 5)) f13_2 [t, .int i, .int j, rowT ok k, rowT false a, rowT false b, .lst true (ss.map fq), .int (p : Nat), t8, .hole, .hole]).bind _) = _
    rw [e1]
    show forGo _ _ (natsT ps) _ = _
    rw [e2]
    simp
theorem s13 {t : T} {i j : Nat} (hS : IsSh S t) (hk : Sht S k) (hi : i < S.length) (hj : j < S.length) :
    ∃ t', IsSh S t' ∧ callF R' (n + 6) 13 [t, .int (i : Nat), .int (j : Nat), rowT ok k] = some (fq (chV S k (rowAt S i) (rowAt S j)), [t', .int (i : Nat), .int (j : Nat), rowT ok k]) := by
  have ai := rowAt_mem hi
  have aj := rowAt_mem hj
  have la := hk.len _ ai
  have lb := hk.len _ aj
  obtain ⟨t1, h1, e1⟩ := take_sh (P := pgOf R' (n + 5)) (sl := [t, .int (i : Nat), .int (j : Nat), rowT ok k, .hole, .hole, .hole, .hole, .hole, .hole, .hole]) (k := 0) (ix := .var 1) rfl hS rfl rfl hi
  obtain ⟨t2, h2, e2⟩ := take_sh (P := pgOf R' (n + 5)) (sl := [t1, .int (i : Nat), .int (j : Nat), rowT ok k, .hole, .hole, .hole, .hole, .hole, .hole, .hole]) (k := 0) (ix := .var 2) rfl h1 rfl rfl hj
  generalize hA : rowAt S i = a at *
  generalize hB : rowAt S j = b at *
  have hpar : evS (pgOf R' (n + 5)) (Pv.S.par [4, 5] (Es.cons (E.frzp (E.idx (E.var 0) (E.var 1)) (E.idx (E.var 0) (E.var 1))) (Es.cons (E.frzp (E.idx (E.var 0) (E.var 2)) (E.idx (E.var 0) (E.var 2))) Es.nil))) [t, .int (i : Nat), .int (j : Nat), rowT ok k, .hole, .hole, .hole, .hole, .hole, .hole, .hole] = some (.nx, [t2, .int (i : Nat), .int (j : Nat), rowT ok k, rowT false a, rowT false b, .hole, .hole, .hole, .hole, .hole]) := by
    simp only [evS, evL]
    rw [e1]
    show ((((ev _ _ _ [t1, .int (i : Nat), .int (j : Nat), rowT ok k, .hole, .hole, .hole, .hole, .hole, .hole, .hole]).bind _).bind _).bind _) = _
    rw [e2]; rfl
  have z10 := s10 (n := n + 3) (o1 := false) (o2 := false) (o3 := ok) la lb (by have := hk.k6; omega)
  have hc10 : ev (pgOf R' (n + 5)) .e (E.call 10 (Es.cons (E.var 4) (Es.cons (E.var 5) (Es.cons (E.var 3) Es.nil)))) [t2, .int (i : Nat), .int (j : Nat), rowT ok k, rowT false a, rowT false b, .lst true [], .hole, .hole, .hole, .hole] = some (.lst true (natsT (bw a b k)), [t2, .int (i : Nat), .int (j : Nat), rowT ok k, rowT false a, rowT false b, .lst true [], .hole, .hole, .hole, .hole]) := by
    cases ok <;> simp [ev, evA, fsr, z10, back]
  have lbw : (bw a b k).length ≤ 6 := Nat.le_trans (List.length_filter_le _ _) (by rw [List.length_range]; exact hk.k6)
  obtain ⟨t3, t7, t8, h3, e3⟩ := chances13 (n := n) (ok := ok) (i := (i : Nat)) (j := (j : Nat)) (t := t) (t7 := t) (t8 := t) (b := b) hk ai (bw a b k) [] t2 .hole .hole h2 (fun p hp => hp) (by simp only [List.length_nil]; omega)
  have hfor : evS (pgOf R' (n + 5)) (Pv.S.forr (G.one (G0.nm 7)) (It.seq (E.call 10 (Es.cons (E.var 4) (Es.cons (E.var 5) (Es.cons (E.var 3) Es.nil))))) f13_2) [t2, .int (i : Nat), .int (j : Nat), rowT ok k, rowT false a, rowT false b, .lst true [], .hole, .hole, .hole, .hole] = some (.nx, [t3, .int (i : Nat), .int (j : Nat), rowT ok k, rowT false a, rowT false b, .lst true ((shs S k a b).map fq), t7, t8, .hole, .hole]) := by
    refine evS_for (evI_seq hc10 (show items2 _ = some (frzs _) from rfl)) ?_
    rw [frz_nats]
    exact e3
  have so := shs_ok (k := k) (b := b) hk.n6 ai
  have sl : (shs S k a b).length ≤ 6 := by unfold shs; rw [List.length_map]; exact lbw
  have z8 := s8 (n := n) (o := true) so sl
  obtain ⟨D, d0, d1, hh⟩ := hits_ok so
  have h9 : evS (pgOf R' (n + 5)) (Pv.S.asg (G.one (G0.nm 9)) (E.call 8 (Es.cons (E.var 6) Es.nil))) [t3, .int (i : Nat), .int (j : Nat), rowT ok k, rowT false a, rowT false b, .lst true ((shs S k a b).map fq), t7, t8, .hole, .hole] = some (.nx, [t3, .int (i : Nat), .int (j : Nat), rowT ok k, rowT false a, rowT false b, .lst false ((shs S k a b).map fq), t7, t8, .lst true ((hitsV (shs S k a b)).map fq), .hole]) := by
    simp [evS, ev, evA, fsQ, z8, back, setG, setG0]
  have z11 := s11 (n := n + 2) (o1 := false) (o2 := false) (o3 := false) la lb (by have := hk.k6; omega)
  have kle : (al a b k).length ≤ (hitsV (shs S k a b)).length := by
    rw [hh.len]
    have := al_le (a := a) (b := b) (k := k)
    unfold shs; rw [List.length_map]; omega
  have z5 := cTotal (n := n + 2) i5 i1 i0 (o := true) (xs := (hitsV (shs S k a b)).drop (al a b k).length) (k := 32) (fun x hx => by
      have hx := List.mem_of_mem_drop hx
      exact gd_bq (hh.gd x hx) (hh.nn x hx) (by have := mem_le_sumQ hh.nn hx; rw [hh.one] at this; exact this) d0 (Nat.lt_of_le_of_lt (Nat.le_trans d1 (Nat.pow_le_pow_right (by decide) sl)) (by decide))) (by
      rw [List.length_drop, hh.len]
      have : (shs S k a b).length + 1 - (al a b k).length + 1 ≤ 8 := by omega
      have := Nat.mul_le_mul_right 33 this
      omega)
  generalize hHV : hitsV (shs S k a b) = HV at *
  have hsl : ev (pgOf R' (n + 5)) .e (E.slc (E.var 9) (E.op1 O1.len (E.call 11 (Es.cons (E.var 4) (Es.cons (E.var 5) (Es.cons (E.var 3) Es.nil))))) (E.cst T.non)) [t3, .int (i : Nat), .int (j : Nat), rowT ok k, rowT false a, rowT false b, .lst false ((shs S k a b).map fq), t7, t8, .lst true (HV.map fq), .hole] = some (.lst true ((HV.drop (al a b k).length).map fq), [t3, .int (i : Nat), .int (j : Nat), rowT ok k, rowT false a, rowT false b, .lst false ((shs S k a b).map fq), t7, t8, .lst true (HV.map fq), .hole]) := by
    have sh := sliceHi (o := true) (fsQ HV) (k := (al a b k).length) (by rw [List.length_map]; exact kle)
    simp [ev, evA, fsr, fzr, brw, partE, z11, back, sh]
  generalize hSL : E.slc (E.var 9) (E.op1 O1.len (E.call 11 (Es.cons (E.var 4) (Es.cons (E.var 5) (Es.cons (E.var 3) Es.nil))))) (E.cst T.non) = SLC at *
  refine ⟨t3, h3, ?_⟩
  rw [callF_open (fn := f13) rfl]
  refine runF_go (f := f13) (sl := [t3, .int (i : Nat), .int (j : Nat), rowT ok k, rowT false a, rowT false b, .lst false ((shs S k a b).map fq), t7, t8, .lst true (HV.map fq), .hole]) rfl ?_
  show evSs _ (Ss.cons _ (Ss.cons (Pv.S.asg (G.one (G0.nm 6)) (E.lst Es.nil)) (Ss.cons _ (Ss.cons _ (Ss.cons _ Ss.nil))))) [t, .int (i : Nat), .int (j : Nat), rowT ok k, .hole, .hole, .hole, .hole, .hole, .hole, .hole] = _
  rw [evSs_nx hpar]
  have h6 : evS (pgOf R' (n + 5)) (Pv.S.asg (G.one (G0.nm 6)) (E.lst Es.nil)) [t2, .int (i : Nat), .int (j : Nat), rowT ok k, rowT false a, rowT false b, .hole, .hole, .hole, .hole, .hole] = some (.nx, [t2, .int (i : Nat), .int (j : Nat), rowT ok k, rowT false a, rowT false b, .lst true [], .hole, .hole, .hole, .hole]) := by
    simp [evS, ev, evL, okN_of, setG, setG0]
  rw [evSs_nx h6, evSs_nx hfor, evSs_nx h9]
  have hret : evS (pgOf R' (n + 5)) (Pv.S.ret (E.call 5 (Es.cons SLC Es.nil))) [t3, .int (i : Nat), .int (j : Nat), rowT ok k, rowT false a, rowT false b, .lst false ((shs S k a b).map fq), t7, t8, .lst true (HV.map fq), .hole] = some (.rt (fq (chV S k a b)), [t3, .int (i : Nat), .int (j : Nat), rowT ok k, rowT false a, rowT false b, .lst false ((shs S k a b).map fq), t7, t8, .lst true (HV.map fq), .hole]) := by
    have z5' : (pgOf R' (n + 5)).cf 5 [.lst true ((HV.drop (al a b k).length).map fq)] = some (fq (chV S k a b), [.lst false ((HV.drop (al a b k).length).map fq)]) := by
      have : chV S k a b = sumQ (HV.drop (al a b k).length) := by unfold chV tailV; rw [hHV]
      rw [this]; exact z5
    refine evS_ret (go_call (m := .e) (bk := [none]) ?_ z5' (by decide))
    rw [← hSL] at hsl ⊢
    simp only [evA]
    rw [hsl]; rfl
  rw [← hSL] at hret
  rw [evSs_rt hret]
end
end W96

namespace W96
open Pv PySem
section
variable {n : Nat} {k : Row} {S : List Row} {r : Rat} {m : Nat}
theorem forGo_cons {set : T → SL → Option SL} {b : SL → Out} {x : T} {xs : List T} {sl sl1 sl2 : SL} (hs : set x sl = some sl1) (hb : b sl1 = some (.nx, sl2)) : forGo set b (x :: xs) sl = forGo set b xs sl2 := by
  rw [forGo, hs]
  simp only [Option.bind_some, hb]
theorem evA_nil {P : Pg} {sl : SL} : evA P .nil sl = some ([], [], sl) := by simp only [evA]
theorem evA_varF {P : Pg} {sl sl1 : SL} {i : Nat} {es : Es} {t : T} {ts : List T} {bk : List (Option Nat)} (h : look sl i = some t) (hf : isF t = true) (hr : evA P es sl = some (ts, bk, sl1)) : evA P (.cons (.var i) es) sl = some (t :: ts, none :: bk, sl1) := by
  simp only [evA, h, Option.bind_some, hf, if_true, hr]
theorem evA_varO {P : Pg} {sl sl1 : SL} {i : Nat} {es : Es} {t : T} {ts : List T} {bk : List (Option Nat)} (h : look sl i = some t) (hf : isF t = false) (hr : evA P es (sl.set i .hole) = some (ts, bk, sl1)) : evA P (.cons (.var i) es) sl = some (t :: ts, some i :: bk, sl1) := by
  simp only [evA, h, Option.bind_some, hf, Bool.false_eq_true, if_false, hr]
theorem evA_call {P : Pg} {sl sl1 sl2 : SL} {f : Nat} {es es' : Es} {t : T} {ts : List T} {bk : List (Option Nat)} (h : ev P .e (.call f es') sl = some (t, sl1)) (hr : evA P es sl1 = some (ts, bk, sl2)) : evA P (.cons (.call f es') es) sl = some (t :: ts, none :: bk, sl2) := by
  simp only [evA]
  rw [h]
  simp only [Option.bind_some, hr]
theorem evA_frzp {P : Pg} {sl sl1 sl2 : SL} {A B : Pv.E} {es : Es} {t : T} {ts : List T} {bk : List (Option Nat)} (h : ev P .e (.frzp A B) sl = some (t, sl1)) (hr : evA P es sl1 = some (ts, bk, sl2)) : evA P (.cons (.frzp A B) es) sl = some (t :: ts, none :: bk, sl2) := by
  simp only [evA]
  rw [h]
  simp only [Option.bind_some, hr]
theorem isF_row {ok : Bool} : isF (rowT ok k) = !ok := by cases ok <;> simp [fsr]
/-- suspicious: one pair looked at -/
theorem step14 {t : T} {ok : Bool} {i j : Nat} {ps : List (Nat × Nat)} (hS : IsSh S t) (hk : Sht S k) (hi : i < S.length) (hj : j < S.length) (hr : bq m r) (hm : m ≤ 400000) (hl : ps.length < 1000000) :
    ∃ t', IsSh S t' ∧ evSs (pgOf R' (n + 6)) f14_0 [t, rowT ok k, fq r, .lst true (ps.map prT), .int (j : Nat), .int (i : Nat)] = some (.nx, [t', rowT ok k, fq r, .lst true ((ps ++ (if r < chV S k (rowAt S i) (rowAt S j) then [] else [(i, j)])).map prT), .int (j : Nat), .int (i : Nat)]) := by
  obtain ⟨t', h', z13⟩ := s13 (n := n) (ok := ok) hS hk hi hj
  have z4 := cLess (n := n + 5) i4 hr (ch_bq (b := rowAt S j) hk.n6 (rowAt_mem hi) hk.k6) hm (by decide)
  have hh := hS.hole
  have hh' := h'.hole
  have lk : ∀ l, look (t :: l) 0 = some t := fun l => look_of hh
  have lk' : ∀ l, look (t' :: l) 0 = some t' := fun l => look_of hh'
  generalize chV S k (rowAt S i) (rowAt S j) = c at *
  have bkT : ∀ (x y z : T) l, (back [some 0, none, none, some 1] [x, .int (i : Nat), .int (j : Nat), y] (.hole :: .hole :: l)) = x :: y :: l := fun _ _ _ _ => rfl
  have hc : ev (pgOf R' (n + 6)) .e (E.call 13 (Es.cons (E.var 0) (Es.cons (E.var 5) (Es.cons (E.var 4) (Es.cons (E.var 1) Es.nil))))) [t, rowT ok k, fq r, .lst true (ps.map prT), .int (j : Nat), .int (i : Nat)] = some (fq c, [if isF t then t else t', rowT ok k, fq r, .lst true (ps.map prT), .int (j : Nat), .int (i : Nat)]) := by
    by_cases ft : isF t = true
    · cases ok <;> simp [ev, evA, lk, ft, fsr, z13, back]
    · have ft : isF t = false := by simpa using ft
      cases ok <;> simp [ev, evA, lk, ft, fsr, z13, back]
  have ft2 : IsSh S (if isF t then t else t') := by
    by_cases ft : isF t = true
    · rw [if_pos ft]; exact hS
    · rw [if_neg ft]; exact h'
  refine ⟨if isF t then t else t', ft2, ?_⟩
  generalize (if isF t then t else t') = t2 at *
  have z4' : (pgOf R' (n + 6)).cf 4 [fq r, fq c] = some (.bl (decide (r < c)), [fq r, fq c]) := z4
  have h4 : ev (pgOf R' (n + 6)) .t (E.call 4 (Es.cons (E.var 2) (Es.cons (E.call 13 (Es.cons (E.var 0) (Es.cons (E.var 5) (Es.cons (E.var 4) (Es.cons (E.var 1) Es.nil))))) Es.nil))) [t, rowT ok k, fq r, .lst true (ps.map prT), .int (j : Nat), .int (i : Nat)] = some (.bl (decide (r < c)), [t2, rowT ok k, fq r, .lst true (ps.map prT), .int (j : Nat), .int (i : Nat)]) := by
    refine go_callB (bk := [none, none]) ?_ z4'
    exact evA_varF rfl (isF_fq r) (evA_call hc evA_nil)
  have hn : ev (pgOf R' (n + 6)) .t (E.nt (E.call 4 (Es.cons (E.var 2) (Es.cons (E.call 13 (Es.cons (E.var 0) (Es.cons (E.var 5) (Es.cons (E.var 4) (Es.cons (E.var 1) Es.nil))))) Es.nil)))) [t, rowT ok k, fq r, .lst true (ps.map prT), .int (j : Nat), .int (i : Nat)] = some (.bl (!decide (r < c)), [t2, rowT ok k, fq r, .lst true (ps.map prT), .int (j : Nat), .int (i : Nat)]) := by
    simp only [ev]
    simp only [ev] at h4
    rw [h4]; rfl
  show evSs _ (Ss.cons _ Ss.nil) _ = _
  by_cases hrc : r < c
  · have e : evS (pgOf R' (n + 6)) _ _ = _ := evS_if (a := Ss.cons (Pv.S.exp (E.mut 3 MK.append (Es.cons (E.tup (Es.cons (E.var 5) (Es.cons (E.var 4) Es.nil))) Es.nil))) Ss.nil) (b := Ss.nil) hn
    rw [decide_eq_true hrc] at e
    rw [evSs_nx (e.trans go_nil), if_pos hrc, List.append_nil]
    exact go_nil
  · have e : evS (pgOf R' (n + 6)) _ _ = _ := evS_if (a := Ss.cons (Pv.S.exp (E.mut 3 MK.append (Es.cons (E.tup (Es.cons (E.var 5) (Es.cons (E.var 4) Es.nil))) Es.nil))) Ss.nil) (b := Ss.nil) hn
    rw [decide_eq_false hrc] at e
    have h5 : ev (pgOf R' (n + 6)) .e (E.tup (Es.cons (E.var 5) (Es.cons (E.var 4) Es.nil))) [t2, rowT ok k, fq r, .lst true (ps.map prT), .int (j : Nat), .int (i : Nat)] = some (prT (i, j), [t2, rowT ok k, fq r, .lst true (ps.map prT), .int (j : Nat), .int (i : Nat)]) := by
      simp [ev, evL, okN_of]
    have h6 := go_append (i := 3) (ts := ps.map prT) rfl h5 rfl (by simp; omega)
    have em : (ps ++ [(i, j)]).map prT = ps.map prT ++ [prT (i, j)] := by simp
    rw [evSs_nx (e.trans ((evSs_nx h6).trans go_nil)), if_neg hrc, em]
    exact go_nil
theorem inner14 {ok : Bool} {j : Nat} (hk : Sht S k) (hj : j < S.length) (hr : bq m r) (hm : m ≤ 400000) : ∀ (is : List Nat) (ps : List (Nat × Nat)) (t t5 : T), IsSh S t → (∀ i ∈ is, i < S.length) → ps.length + is.length < 1000000 →
    ∃ t' t5', IsSh S t' ∧ forGo (setG (pgOf R' (n + 6)) (.one (.nm 5))) (evSs (pgOf R' (n + 6)) f14_0) (natsT is) [t, rowT ok k, fq r, .lst true (ps.map prT), .int (j : Nat), t5] = some (.nx, [t', rowT ok k, fq r, .lst true ((ps ++ (is.filter fun i => !decide (r < chV S k (rowAt S i) (rowAt S j))).map fun i => (i, j)).map prT), .int (j : Nat), t5'])
  | [], ps, t, t5, hS, _, _ => ⟨t, t5, hS, by simp [forGo]⟩
  | i :: is, ps, t, t5, hS, hi, hl => by
    obtain ⟨t1, hS1, e1⟩ := step14 (n := n) (ok := ok) (ps := ps) hS hk (hi i List.mem_cons_self) hj hr hm (by simp only [List.length_cons] at hl; omega)
    obtain ⟨t2, t52, hS2, e2⟩ := inner14 (ok := ok) hk hj hr hm is (ps ++ (if r < chV S k (rowAt S i) (rowAt S j) then [] else [(i, j)])) t1 (.int (i : Nat)) hS1 (fun q hq => hi q (List.mem_cons_of_mem _ hq)) (by
      rw [List.length_append]
      simp only [List.length_cons] at hl
      by_cases c : r < chV S k (rowAt S i) (rowAt S j)
      · rw [if_pos c]; simp only [List.length_nil]; omega
      · rw [if_neg c]; simp only [List.length_cons, List.length_nil]; omega)
    refine ⟨t2, t52, hS2, ?_⟩
    show forGo _ _ (.int (i : Nat) :: natsT is) _ = _
    unfold forGo
    show ((evSs (pgOf R' (n + 6)) f14_0 [t, rowT ok k, fq r, .lst true (ps.map prT), .int (j : Nat), .int (i : Nat)]).bind _) = _
    rw [e1]
    show forGo _ _ (natsT is) _ = _
    rw [e2]
    by_cases c : r < chV S k (rowAt S i) (rowAt S j)
    · simp [List.filter_cons, c]
    · simp [List.filter_cons, c]
theorem outer14 {ok : Bool} (hk : Sht S k) (hr : bq m r) (hm : m ≤ 400000) : ∀ (js : List Nat) (ps : List (Nat × Nat)) (t t4 t5 : T), IsSh S t → (∀ j ∈ js, j < S.length) → ps.length + js.length * 10 < 1000 →
    ∃ t' t4' t5', IsSh S t' ∧ forGo (setG (pgOf R' (n + 6)) (.one (.nm 4))) (evSs (pgOf R' (n + 6)) f14_1) (natsT js) [t, rowT ok k, fq r, .lst true (ps.map prT), t4, t5] = some (.nx, [t', rowT ok k, fq r, .lst true ((ps ++ js.flatMap (susJ S k r)).map prT), t4', t5'])
  | [], ps, t, t4, t5, hS, _, _ => ⟨t, t4, t5, hS, by simp [forGo]⟩
  | j :: js, ps, t, t4, t5, hS, hj, hl => by
    have jl := hj j List.mem_cons_self
    have n6 := hk.n6
    simp only [List.length_cons] at hl
    obtain ⟨t1, t51, hS1, e1⟩ := inner14 (n := n) (ok := ok) (j := j) hk jl hr hm (List.range j) ps t t5 hS (fun i hi => by have := List.mem_range.mp hi; omega) (by rw [List.length_range]; omega)
    have lj : (susJ S k r j).length ≤ 6 := by
      unfold susJ
      rw [List.length_map]
      exact Nat.le_trans (List.length_filter_le _ _) (by rw [List.length_range]; omega)
    obtain ⟨t2, t42, t52, hS2, e2⟩ := outer14 (ok := ok) hk hr hm js (ps ++ susJ S k r j) t1 (.int (j : Nat)) t51 hS1 (fun q hq => hj q (List.mem_cons_of_mem _ hq)) (by rw [List.length_append]; omega)
    refine ⟨t2, t42, t52, hS2, ?_⟩
    have hb : evSs (pgOf R' (n + 6)) f14_1 [t, rowT ok k, fq r, .lst true (ps.map prT), .int (j : Nat), t5] = some (.nx, [t1, rowT ok k, fq r, .lst true ((ps ++ susJ S k r j).map prT), .int (j : Nat), t51]) := by
      have hv : ev (pgOf R' (n + 6)) .e (E.var 4) [t, rowT ok k, fq r, .lst true (ps.map prT), .int (j : Nat), t5] = some (.int (j : Nat), [t, rowT ok k, fq r, .lst true (ps.map prT), .int (j : Nat), t5]) := by simp [ev]
      have hf := evS_for (evI_rng1 hv (by omega)) e1
      show evSs _ (Ss.cons _ Ss.nil) _ = _
      exact (evSs_nx hf).trans go_nil
    have hst : setG (pgOf R' (n + 6)) (.one (.nm 4)) (.int (j : Nat)) [t, rowT ok k, fq r, .lst true (ps.map prT), t4, t5] = some [t, rowT ok k, fq r, .lst true (ps.map prT), .int (j : Nat), t5] := rfl
    refine (forGo_cons (x := .int (j : Nat)) (xs := natsT js) hst hb).trans ?_
    rw [e2]
    simp
/-- suspicious -/
theorem s14 {t : T} {ok : Bool} (hS : IsSh S t) (hk : Sht S k) (hr : bq m r) (hm : m ≤ 400000) :
    ∃ (t' : T) (qs : List (Nat × Nat)), IsSh S t' ∧ qs.Perm (susV S k r) ∧ callF R' (n + 7) 14 [t, rowT ok k, fq r] = some (.lst true (qs.map prT), [t', rowT ok k, fq r]) := by
  have n6 := hk.n6
  obtain ⟨t1, t4, t5, hS1, e1⟩ := outer14 (n := n) (ok := ok) hk hr hm (List.range S.length) [] t .hole .hole hS (fun i hi => List.mem_range.mp hi) (by rw [List.length_range]; simp only [List.length_nil]; omega)
  have ls : (susV S k r).length < 10000000 := by
    have : ∀ js : List Nat, (∀ j ∈ js, j < S.length) → (js.flatMap (susJ S k r)).length ≤ js.length * 6 := fun js => by
      induction js with
      | nil => intro _; simp
      | cons j js ih =>
        intro h
        have a1 := ih fun q hq => h q (List.mem_cons_of_mem _ hq)
        have jl := h j List.mem_cons_self
        have lj : (susJ S k r j).length ≤ 6 := by
          unfold susJ
          rw [List.length_map]
          exact Nat.le_trans (List.length_filter_le _ _) (by rw [List.length_range]; omega)
        rw [List.flatMap_cons, List.length_append, List.length_cons, Nat.succ_mul]
        omega
    have a := this (List.range S.length) fun i hi => List.mem_range.mp hi
    rw [List.length_range] at a
    unfold susV
    omega
  obtain ⟨qs, hq, pm⟩ := sorted_prs (o := true) ls
  refine ⟨t1, qs, hS1, pm, ?_⟩
  obtain ⟨o, L, rfl, hL⟩ := hS
  have hlen : L.length = S.length := by rw [← hL]; simp [rws]
  rw [callF_open (fn := f14) rfl]
  refine runF_go (f := f14) (sl := [t1, rowT ok k, fq r, .lst true ((susV S k r).map prT), t4, t5]) rfl ?_
  show evSs _ (Ss.cons (Pv.S.asg (G.one (G0.nm 3)) (E.lst Es.nil)) (Ss.cons _ (Ss.cons _ Ss.nil))) [.lst o (shT L), rowT ok k, fq r, .hole, .hole, .hole] = _
  have h3 : evS (pgOf R' (n + 6)) (Pv.S.asg (G.one (G0.nm 3)) (E.lst Es.nil)) [.lst o (shT L), rowT ok k, fq r, .hole, .hole, .hole] = some (.nx, [.lst o (shT L), rowT ok k, fq r, .lst true [], .hole, .hole]) := by
    simp [evS, ev, evL, okN_of, setG, setG0]
  have hv : ev (pgOf R' (n + 6)) .e (E.op1 O1.len (E.var 0)) [.lst o (shT L), rowT ok k, fq r, .lst true [], .hole, .hole] = some (.int (S.length : Nat), [.lst o (shT L), rowT ok k, fq r, .lst true [], .hole, .hole]) := by
    simp [ev, shT, hlen]
  have hs : ev (pgOf R' (n + 6)) .e (E.op1 O1.sorted (E.var 3)) [t1, rowT ok k, fq r, .lst true ((susV S k r).map prT), t4, t5] = some (.lst true (qs.map prT), [t1, rowT ok k, fq r, .lst true ((susV S k r).map prT), t4, t5]) := by
    simp [ev, hq]
  have e1' : forGo (setG (pgOf R' (n + 6)) (.one (.nm 4))) (evSs (pgOf R' (n + 6)) f14_1) (natsT (List.range S.length)) [.lst o (shT L), rowT ok k, fq r, .lst true [], .hole, .hole] = some (.nx, [t1, rowT ok k, fq r, .lst true ((susV S k r).map prT), t4, t5]) := e1
  rw [evSs_nx h3, evSs_nx (evS_for (evI_rng1 hv (by omega)) e1'), evSs_rt (evS_ret hs)]
theorem ev_op1 {P : Pg} {sl sl1 : SL} {o : O1} {A : Pv.E} {t u : T} {m : Md} (h : ev P .o A sl = some (t, sl1)) (h2 : op1 o t = some u) : ev P m (.op1 o A) sl = fin m false u sl1 := by
  simp only [ev]
  rw [h]
  simp only [Option.bind_some, h2]
/-- score -/
theorem s15 {a : Row} {o2 : Bool} (ha : a.length = k.length) (hk : k.length ≤ 1000) : callF R' (n + 2) 15 [rowT false a, rowT o2 k] = some (.int (((List.range k.length).filter fun i => decide (gs a i = gs k i)).length : Nat), [rowT false a, rowT o2 k]) := by
  rw [callF_open (fn := f15) rfl]
  have z9 := s9 (n := n) (o1 := false) (o2 := false) (o3 := o2) ha ha
  obtain ⟨s', e, w⟩ := lcGo_fm (β := Nat) (set := setG (pgOf R' (n + 1)) (.one (.nm 2))) (c := ev (pgOf R' (n + 1)) .t f15_0) (e := ev (pgOf R' (n + 1)) .e f15_1) (wp := wipeS [2]) (s0 := [rowT false a, rowT o2 k, .hole])
    (v := fun k => .int (k : Int)) (w := fun k => .int (k : Int)) (q := fun i => decide (gs a i = gs k i)) (List.range k.length) [rowT false a, rowT o2 k, .hole] [] (fun i hi => by
      have hi := List.mem_range.mp hi
      refine ⟨[rowT false a, rowT o2 k, .int (i : Nat)], _, rfl, ev_eq_row rfl rfl rfl (by omega) hi, fun _ => rfl, fun _ => ⟨_, rfl, rfl⟩⟩) rfl (by simp; omega)
  have hE : evS (pgOf R' (n + 1)) (Pv.S.exp (E.call 9 (Es.cons (E.var 0) (Es.cons (E.var 0) (Es.cons (E.var 1) Es.nil))))) [rowT false a, rowT o2 k, .hole] = some (.nx, [rowT false a, rowT o2 k, .hole]) := by
    cases o2 <;> simp [evS, ev, evA, fsr, z9, back]
  have hv : ev (pgOf R' (n + 1)) .e (E.op1 O1.len (E.var 1)) [rowT false a, rowT o2 k, .hole] = some (.int (k.length : Nat), [rowT false a, rowT o2 k, .hole]) := by
    simp [ev]
  have hL := go_lc (evI_rng1 hv (by omega)) rfl e (m := .o) (by decide)
  have er : restS [rowT false a, rowT o2 k, .hole] [2] (wipeS [2] s') = [rowT false a, rowT o2 k, .hole] := by rw [w]; rfl
  rw [er] at hL
  have hR : ev (pgOf R' (n + 1)) .e (E.op1 O1.len (E.lc [2] (G.one (G0.nm 2)) (It.rng1 (E.op1 O1.len (E.var 1))) f15_0 f15_1)) [rowT false a, rowT o2 k, .hole] = some (.int (((List.range k.length).filter fun i => decide (gs a i = gs k i)).length : Nat), [rowT false a, rowT o2 k, .hole]) := by
    rw [ev_op1 hL (by rfl)]
    simp
  refine runF_go (f := f15) (sl := [rowT false a, rowT o2 k, .hole]) rfl ?_
  show evSs _ (Ss.cons _ (Ss.cons _ Ss.nil)) [rowT false a, rowT o2 k, .hole] = _
  rw [evSs_nx hE, evSs_rt (evS_ret hR)]
end
end W96

namespace W96
open Pv PySem
section
variable {n : Nat} {k : Row} {S : List Row} {ok : Bool}
variable {sc tp im x3 x6 few more xj xi xc xo x16 : T} {N : Nat} {lo hi : Rat}
abbrev sB (sc tp im x3 : T) (ok : Bool) (k : Row) (SH x6 : T) (N : Nat) (lo hi : Rat) (few more xj xi xc xo x16 : T) : SL := [sc, tp, im, x3, rowT ok k, SH, x6, .int (N : Nat), fq lo, fq hi, few, more, xj, xi, xc, xo, x16]
/-- a call that looks at the sheets, the key and a fraction -/
theorem uS14 {SH : T} {m i : Nat} {r : Rat} (hS : IsSh S SH) (hk : Sht S k) (hr : bq m r) (hm : m ≤ 400000) (hw : i = 8 ∧ r = lo ∨ i = 9 ∧ r = hi) :
    ∃ (SH' : T) (qs : List (Nat × Nat)), IsSh S SH' ∧ qs.Perm (susV S k r) ∧ ev (pgOf R' (n + 7)) .e (E.call 14 (Es.cons (E.var 5) (Es.cons (E.var 4) (Es.cons (E.var i) Es.nil)))) (sB sc tp im x3 ok k SH x6 N lo hi few more xj xi xc xo x16) = some (.lst true (qs.map prT), sB sc tp im x3 ok k SH' x6 N lo hi few more xj xi xc xo x16) := by
  obtain ⟨t', qs, h1, h2, z⟩ := s14 (n := n) (ok := ok) hS hk hr hm
  refine ⟨if isF SH then SH else t', qs, ?_, h2, ?_⟩
  · by_cases ft : isF SH = true
    · rw [if_pos ft]; exact hS
    · rw [if_neg ft]; exact h1
  have lk : ∀ l, look (SH :: l) 0 = some SH := fun l => look_of hS.hole
  by_cases ft : isF SH = true
  · rcases hw with ⟨rfl, rfl⟩ | ⟨rfl, rfl⟩ <;> cases ok <;> simp [ev, evA, lk, ft, fsr, z, back]
  · have ft : isF SH = false := by simpa using ft
    rcases hw with ⟨rfl, rfl⟩ | ⟨rfl, rfl⟩ <;> cases ok <;> simp [ev, evA, lk, ft, fsr, z, back]
/-- .. and the number 1 -/
theorem uS14one {SH : T} (hS : IsSh S SH) (hk : Sht S k) :
    ∃ (SH' : T) (qs : List (Nat × Nat)), IsSh S SH' ∧ qs.Perm (susV S k 1) ∧ ev (pgOf R' (n + 7)) .o (E.call 14 (Es.cons (E.var 5) (Es.cons (E.var 4) (Es.cons (E.tup (Es.cons (E.cst (T.int (Int.ofNat 1))) (Es.cons (E.cst (T.int (Int.ofNat 1))) Es.nil))) Es.nil)))) (sB sc tp im x3 ok k SH x6 N lo hi few more xj xi xc xo x16) = some (.lst true (qs.map prT), sB sc tp im x3 ok k SH' x6 N lo hi few more xj xi xc xo x16) := by
  obtain ⟨t', qs, h1, h2, z⟩ := s14 (n := n) (ok := ok) hS hk bq_one (by decide)
  have c1 : T.tup [.int 1, .int 1] = fq 1 := rfl
  refine ⟨if isF SH then SH else t', qs, ?_, h2, ?_⟩
  · by_cases ft : isF SH = true
    · rw [if_pos ft]; exact hS
    · rw [if_neg ft]; exact h1
  have lk : ∀ l, look (SH :: l) 0 = some SH := fun l => look_of hS.hole
  by_cases ft : isF SH = true
  · cases ok <;> simp [ev, evA, evL, okN_of, c1, lk, ft, fsr, z, back]
  · have ft : isF SH = false := by simpa using ft
    cases ok <;> simp [ev, evA, evL, okN_of, c1, lk, ft, fsr, z, back]
/-- the chance of a pair, the pair in slots 13 and 12 -/
theorem uS13 {SH : T} {i j : Nat} (hS : IsSh S SH) (hk : Sht S k) (il : i < S.length) (hj : j < S.length) :
    ∃ SH', IsSh S SH' ∧ ev (pgOf R' (n + 6)) .e (E.call 13 (Es.cons (E.var 5) (Es.cons (E.var 13) (Es.cons (E.var 12) (Es.cons (E.var 4) Es.nil))))) (sB sc tp im x3 ok k SH x6 N lo hi few more (.int (j : Nat)) (.int (i : Nat)) xc xo x16) = some (fq (chV S k (rowAt S i) (rowAt S j)), sB sc tp im x3 ok k SH' x6 N lo hi few more (.int (j : Nat)) (.int (i : Nat)) xc xo x16) := by
  obtain ⟨t', h1, z⟩ := s13 (n := n) (ok := ok) hS hk il hj
  refine ⟨if isF SH then SH else t', ?_, ?_⟩
  · by_cases ft : isF SH = true
    · rw [if_pos ft]; exact hS
    · rw [if_neg ft]; exact h1
  have lk : ∀ l, look (SH :: l) 0 = some SH := fun l => look_of hS.hole
  by_cases ft : isF SH = true
  · cases ok <;> simp [ev, evA, lk, ft, fsr, z, back]
  · have ft : isF SH = false := by simpa using ft
    cases ok <;> simp [ev, evA, lk, ft, fsr, z, back]
/-- .. of 0 and the last -/
theorem uS13l {SH : T} {j : Nat} (hS : IsSh S SH) (hk : Sht S k) (h0 : 0 < S.length) (hj : N < S.length) :
    ∃ SH', IsSh S SH' ∧ ev (pgOf R' (n + 6)) .e (E.call 13 (Es.cons (E.var 5) (Es.cons (E.cst (T.int (Int.ofNat 0))) (Es.cons (E.var 7) (Es.cons (E.var 4) Es.nil))))) (sB sc tp im x3 ok k SH x6 N lo hi few more xj xi xc xo x16) = some (fq (chV S k (rowAt S 0) (rowAt S N)), sB sc tp im x3 ok k SH' x6 N lo hi few more xj xi xc xo x16) := by
  obtain ⟨t', h1, z⟩ := s13 (n := n) (ok := ok) (i := 0) hS hk h0 hj
  refine ⟨if isF SH then SH else t', ?_, ?_⟩
  · by_cases ft : isF SH = true
    · rw [if_pos ft]; exact hS
    · rw [if_neg ft]; exact h1
  have lk : ∀ l, look (SH :: l) 0 = some SH := fun l => look_of hS.hole
  simp only [Int.natCast_zero] at z
  by_cases ft : isF SH = true
  · cases ok <;> simp [ev, evA, lk, ft, fsr, z, back]
  · have ft : isF SH = false := by simpa using ft
    cases ok <;> simp [ev, evA, lk, ft, fsr, z, back]
/-- .. of 0 and slot 3 -/
theorem uS13k {SH : T} {j : Nat} (hS : IsSh S SH) (hk : Sht S k) (h0 : 0 < S.length) (hj : j < S.length) :
    ∃ SH', IsSh S SH' ∧ ev (pgOf R' (n + 6)) .e (E.call 13 (Es.cons (E.var 5) (Es.cons (E.cst (T.int (Int.ofNat 0))) (Es.cons (E.var 3) (Es.cons (E.var 4) Es.nil))))) (sB sc tp im (.int (j : Nat)) ok k SH x6 N lo hi few more xj xi xc xo x16) = some (fq (chV S k (rowAt S 0) (rowAt S j)), sB sc tp im (.int (j : Nat)) ok k SH' x6 N lo hi few more xj xi xc xo x16) := by
  obtain ⟨t', h1, z⟩ := s13 (n := n) (ok := ok) (i := 0) hS hk h0 hj
  refine ⟨if isF SH then SH else t', ?_, ?_⟩
  · by_cases ft : isF SH = true
    · rw [if_pos ft]; exact hS
    · rw [if_neg ft]; exact h1
  have lk : ∀ l, look (SH :: l) 0 = some SH := fun l => look_of hS.hole
  simp only [Int.natCast_zero] at z
  by_cases ft : isF SH = true
  · cases ok <;> simp [ev, evA, lk, ft, fsr, z, back]
  · have ft : isF SH = false := by simpa using ft
    cases ok <;> simp [ev, evA, lk, ft, fsr, z, back]
/-- two sheets taken out, and then a def of two answers and the key -/
theorem uTwo {SH : T} {f i j : Nat} {ix jx : Pv.E} {nn : Nat} {res : T} {sl1 : T → SL} (hsl : ∀ t, (sl1 t)[5]? = some t ∧ look (sl1 t) 4 = some (rowT ok k) ∧ (∀ t2, (sl1 t).set 5 t2 = sl1 t2) ∧ ((sl1 t).set 4 .hole).set 4 (rowT ok k) = sl1 t)
    (hI : ∀ t, ev (pgOf R' nn) .o ix (sl1 t) = some (.int (i : Nat), sl1 t) ∧ ev (pgOf R' nn) .o ix (brw (sl1 t)) = some (.int (i : Nat), brw (sl1 t)))
    (hJ : ∀ t, ev (pgOf R' nn) .o jx (sl1 t) = some (.int (j : Nat), sl1 t) ∧ ev (pgOf R' nn) .o jx (brw (sl1 t)) = some (.int (j : Nat), brw (sl1 t)))
    (hS : IsSh S SH) (il : i < S.length) (hj : j < S.length) (hc : callF R' nn f [rowT false (rowAt S i), rowT false (rowAt S j), rowT ok k] = some (res, [rowT false (rowAt S i), rowT false (rowAt S j), rowT ok k])) {m : Md} (hm : m ≠ .t) :
    ∃ SH', IsSh S SH' ∧ ev (pgOf R' nn) m (E.call f (Es.cons (E.frzp (E.idx (E.var 5) ix) (E.idx (E.var 5) ix)) (Es.cons (E.frzp (E.idx (E.var 5) jx) (E.idx (E.var 5) jx)) (Es.cons (E.var 4) Es.nil)))) (sl1 SH) = some (res, sl1 SH') := by
  obtain ⟨t1, h1, e1⟩ := take_sh (P := pgOf R' nn) (hsl SH).1 hS (hI SH).1 (hI SH).2 il
  rw [(hsl SH).2.2.1] at e1
  obtain ⟨t2, h2, e2⟩ := take_sh (P := pgOf R' nn) (hsl t1).1 h1 (hJ t1).1 (hJ t1).2 hj
  rw [(hsl t1).2.2.1] at e2
  refine ⟨t2, h2, ?_⟩
  by_cases fk : isF (rowT ok k) = true
  · exact go_call (evA_frzp e1 (evA_frzp e2 (evA_varF (hsl t2).2.1 fk evA_nil))) hc hm
  · have fk : isF (rowT ok k) = false := by simpa using fk
    rw [go_call (evA_frzp e1 (evA_frzp e2 (evA_varO (hsl t2).2.1 fk evA_nil))) hc hm]
    show some (res, ((sl1 t2).set 4 .hole).set 4 (rowT ok k)) = _
    rw [(hsl t2).2.2.2]
end
end W96

namespace W96
open Pv PySem
section
variable {k : Row} {S : List Row} {ok : Bool}
variable {sc tp im x3 x6 few more xj xi xc xo x16 : T} {N : Nat} {lo hi : Rat}
/-- the pairs of the first are all in the second -/
theorem uFew {SH : T} {fs ms : List (Nat × Nat)} (hs : ∀ p ∈ fs, p ∈ ms) (hl : fs.length < 1000000) :
    evS (pgOf R' 19) (Pv.S.iff (E.orr (E.op2 O2.isin (E.cst (T.bl false)) (E.lc [16] (G.one (G0.nm 16)) (It.var 10) f23_5 f23_6)) (E.nt (E.op1 (O1.isi 4) (E.var 10)))) (Ss.cons (Pv.S.ret (E.cst (T.bl false))) Ss.nil) Ss.nil)
      (sB sc tp im x3 ok k SH x6 N lo hi (.lst true (fs.map prT)) (.lst true (ms.map prT)) xj xi xc xo .hole) = some (.nx, sB sc tp im x3 ok k SH x6 N lo hi (.lst false (fs.map prT)) (.lst true (ms.map prT)) xj xi xc xo .hole) := by
  have fzp : ∀ ps : List (Nat × Nat), frzs (ps.map prT) = ps.map prT := frzs_map fun p => by simp
  have fsp : ∀ ps : List (Nat × Nat), isFs (ps.map prT) = true := isFs_map fun p => by simp
  obtain ⟨s', e, w⟩ := lcGo_mapM (β := Nat × Nat) (set := setG (pgOf R' 19) (.one (.nm 16))) (c := ev (pgOf R' 19) .t f23_5) (e := ev (pgOf R' 19) .e f23_6) (wp := wipeS [16]) (s0 := sB sc tp im x3 ok k SH x6 N lo hi (.lst false (fs.map prT)) (.lst true (ms.map prT)) xj xi xc xo .hole)
    (v := prT) (w := fun p => .bl (decide (p ∈ ms))) fs (sB sc tp im x3 ok k SH x6 N lo hi (.lst false (fs.map prT)) (.lst true (ms.map prT)) xj xi xc xo .hole) [] (fun p hp => by
      refine ⟨sB sc tp im x3 ok k SH x6 N lo hi (.lst false (fs.map prT)) (.lst true (ms.map prT)) xj xi xc xo (prT p), _, sB sc tp im x3 ok k SH x6 N lo hi (.lst false (fs.map prT)) (.lst true (ms.map prT)) xj xi xc xo (prT p), rfl, rfl, ?_, rfl⟩
      refine (ev_op2_ff (t := prT p) (u := .lst true (ms.map prT)) (w := .bl (decide (p ∈ ms))) (by simp [ev]) (by simp) (by simp [ev]) ?_).trans rfl
      show (inL (prT p) (ms.map prT)).map T.bl = _
      rw [inL_pr]; rfl) rfl (by simp only [List.length_nil]; omega)
  have hw : evI (pgOf R' 19) (It.var 10) (sB sc tp im x3 ok k SH x6 N lo hi (.lst true (fs.map prT)) (.lst true (ms.map prT)) xj xi xc xo .hole) = some (fs.map prT, sB sc tp im x3 ok k SH x6 N lo hi (.lst false (fs.map prT)) (.lst true (ms.map prT)) xj xi xc xo .hole) := by
    simp [evI, items2, fzp]
  have hL := go_lc hw rfl e (m := .o) (by decide)
  have er : restS (sB sc tp im x3 ok k SH x6 N lo hi (.lst false (fs.map prT)) (.lst true (ms.map prT)) xj xi xc xo .hole) [16] (wipeS [16] s') = sB sc tp im x3 ok k SH x6 N lo hi (.lst false (fs.map prT)) (.lst true (ms.map prT)) xj xi xc xo .hole := by rw [w]; rfl
  rw [er, List.nil_append] at hL
  have all : fs.map (fun p => T.bl (decide (p ∈ ms))) = fs.map fun _ => T.bl true := List.map_congr_left fun p hp => by rw [decide_eq_true (hs p hp)]
  rw [all] at hL
  have inb : ∀ l : List (Nat × Nat), inL (.bl false) (l.map fun _ => T.bl true) = some false := fun l => by
    unfold inL
    have : inT (.bl false) (l.map fun _ => T.bl true) = some false := by
      unfold inT
      show ((flTs (l.map fun _ => T.bl true)).bind fun vs => some (L2.inV (.bl false) vs)) = _
      have h : flTs (l.map fun _ => T.bl true) = some (l.map fun _ => L2.V.bl true) := by
        induction l with
        | nil => rfl
        | cons x l ih =>
          show ((flT (T.bl true)).bind fun v => (flTs (l.map fun _ => T.bl true)).bind fun vs => some (v :: vs)) = _
          rw [ih]; rfl
      rw [h]
      show some (L2.inV (.bl false) (l.map fun _ => L2.V.bl true)) = _
      congr 1
      unfold L2.inV
      rw [List.any_map, List.any_eq_false]
      intro x _
      show ¬ L2.eqV (.bl true) (.bl false) = true
      decide
    rw [this]
  have h1 : ev (pgOf R' 19) .t (E.op2 O2.isin (E.cst (T.bl false)) (E.lc [16] (G.one (G0.nm 16)) (It.var 10) f23_5 f23_6)) (sB sc tp im x3 ok k SH x6 N lo hi (.lst true (fs.map prT)) (.lst true (ms.map prT)) xj xi xc xo .hole) = some (.bl false, sB sc tp im x3 ok k SH x6 N lo hi (.lst false (fs.map prT)) (.lst true (ms.map prT)) xj xi xc xo .hole) := by
    generalize E.lc [16] (G.one (G0.nm 16)) (It.var 10) f23_5 f23_6 = LC at *
    have op : op2 .isin (.bl false) (.lst true (fs.map fun _ => T.bl true)) = some (.bl false) := by
      show (inL _ _).map T.bl = _
      rw [inb]; rfl
    simp [ev, over, hL, op]
  have h2 : ev (pgOf R' 19) .t (E.nt (E.op1 (O1.isi 4) (E.var 10))) (sB sc tp im x3 ok k SH x6 N lo hi (.lst false (fs.map prT)) (.lst true (ms.map prT)) xj xi xc xo .hole) = some (.bl false, sB sc tp im x3 ok k SH x6 N lo hi (.lst false (fs.map prT)) (.lst true (ms.map prT)) xj xi xc xo .hole) := by
    simp [ev, op1]
  have h3 : ev (pgOf R' 19) .t (E.orr (E.op2 O2.isin (E.cst (T.bl false)) (E.lc [16] (G.one (G0.nm 16)) (It.var 10) f23_5 f23_6)) (E.nt (E.op1 (O1.isi 4) (E.var 10)))) (sB sc tp im x3 ok k SH x6 N lo hi (.lst true (fs.map prT)) (.lst true (ms.map prT)) xj xi xc xo .hole) = some (.bl false, sB sc tp im x3 ok k SH x6 N lo hi (.lst false (fs.map prT)) (.lst true (ms.map prT)) xj xi xc xo .hole) := by
    generalize E.op2 O2.isin (E.cst (T.bl false)) (E.lc [16] (G.one (G0.nm 16)) (It.var 10) f23_5 f23_6) = A at *
    generalize E.nt (E.op1 (O1.isi 4) (E.var 10)) = B at *
    simp [ev, h1, h2]
  exact (evS_if h3).trans go_nil
/-- one pair, looked at -/
theorem uPair {SH : T} {ms : List (Nat × Nat)} {m i j : Nat} (hS : IsSh S SH) (hk : Sht S k) (hj : j < S.length) (hij : i < j) (hm : ms.Perm (susV S k hi)) (hh : bq m hi) (hm4 : m ≤ 400000) :
    ∃ SH' xc', IsSh S SH' ∧ evSs (pgOf R' 19) f23_7 (sB sc tp im x3 ok k SH x6 N lo hi few (.lst true (ms.map prT)) (.int (j : Nat)) (.int (i : Nat)) xc xo x16) = some (.nx, sB sc tp im x3 ok k SH' x6 N lo hi few (.lst true (ms.map prT)) (.int (j : Nat)) (.int (i : Nat)) xc' xo x16) := by
  have il : i < S.length := by omega
  have ai := rowAt_mem il
  have aj := rowAt_mem hj
  obtain ⟨S1, h1, e1⟩ := uS13 (n := 13) (ok := ok) (sc := sc) (tp := tp) (im := im) (x3 := x3) (x6 := x6) (few := few) (more := .lst true (ms.map prT)) (xc := xc) (xo := xo) (x16 := x16) (N := N) (lo := lo) (hi := hi) hS hk il hj
  have cp := ch_pos (k := k) (b := rowAt S j) hk.n6 ai
  have cl := ch_le (k := k) (b := rowAt S j) hk.n6 ai
  have cb := ch_bq (k := k) (b := rowAt S j) hk.n6 ai hk.k6
  have c0 : T.tup [.int 0, .int 1] = fq 0 := rfl
  have c1 : T.tup [.int 1, .int 1] = fq 1 := rfl
  have z0 := cLlt (n := 18) i21 bq_zero cb (by decide) (by decide)
  have z1 := cLlt (n := 18) i21 bq_one cb (by decide) (by decide)
  have zh := cLlt (n := 18) i21 hh cb hm4 (by decide)
  have one := ch_one (k := k) (b := rowAt S j) hk.n6 ai
  have mem : (i, j) ∈ ms ↔ ¬ hi < chV S k (rowAt S i) (rowAt S j) := by
    rw [hm.mem_iff, sus_mem]
    exact ⟨fun h => h.2.2, fun h => ⟨hj, hij, h⟩⟩
  rw [decide_eq_true cp] at z0
  rw [decide_eq_false (by grind)] at z1
  have z11 := s11 (n := 16) (o1 := false) (o2 := false) (o3 := ok) (hk.len _ ai) (hk.len _ aj) (by have := hk.k6; omega)
  obtain ⟨S2, h2, e2⟩ := uTwo (f := 11) (i := i) (j := j) (ix := E.var 13) (jx := E.var 12) (nn := 19) (ok := ok) (k := k) (m := .o) (sl1 := fun t => sB sc tp im x3 ok k t x6 N lo hi few (.lst true (ms.map prT)) (.int (j : Nat)) (.int (i : Nat)) (fq (chV S k (rowAt S i) (rowAt S j))) xo x16)
    (fun t => ⟨rfl, rfl, fun _ => rfl, rfl⟩) (fun t => ⟨rfl, by simp [ev, brw]⟩) (fun t => ⟨rfl, by simp [ev, brw]⟩) h1 il hj z11 (by decide)
  generalize chV S k (rowAt S i) (rowAt S j) = c at *
  refine ⟨S2, fq c, h2, ?_⟩
  have g1 : evS (pgOf R' 19) (Pv.S.iff (E.orr (E.nt (E.call 21 (Es.cons (E.tup (Es.cons (E.cst (T.int (Int.ofNat 0))) (Es.cons (E.cst (T.int (Int.ofNat 1))) Es.nil))) (Es.cons (E.var 14) Es.nil)))) (E.call 21 (Es.cons (E.tup (Es.cons (E.cst (T.int (Int.ofNat 1))) (Es.cons (E.cst (T.int (Int.ofNat 1))) Es.nil))) (Es.cons (E.var 14) Es.nil)))) (Ss.cons (Pv.S.ret (E.cst (T.bl false))) Ss.nil) Ss.nil) (sB sc tp im x3 ok k S1 x6 N lo hi few (.lst true (ms.map prT)) (.int (j : Nat)) (.int (i : Nat)) (fq c) xo x16) = some (.nx, sB sc tp im x3 ok k S1 x6 N lo hi few (.lst true (ms.map prT)) (.int (j : Nat)) (.int (i : Nat)) (fq c) xo x16) := by
    simp [evS, evSs, ev, evA, evL, okN_of, c0, c1, z0, z1, back, isF_fq]
  have g2 : evS (pgOf R' 19) (Pv.S.iff (E.an (E.op2 O2.eq (E.op1 O1.len (E.call 11 (Es.cons (E.frzp (E.idx (E.var 5) (E.var 13)) (E.idx (E.var 5) (E.var 13))) (Es.cons (E.frzp (E.idx (E.var 5) (E.var 12)) (E.idx (E.var 5) (E.var 12))) (Es.cons (E.var 4) Es.nil))))) (E.cst (T.int (Int.ofNat 0)))) (E.op2 O2.ne (E.var 14) (E.tup (Es.cons (E.cst (T.int (Int.ofNat 1))) (Es.cons (E.cst (T.int (Int.ofNat 1))) Es.nil))))) (Ss.cons (Pv.S.ret (E.cst (T.bl false))) Ss.nil) Ss.nil) (sB sc tp im x3 ok k S1 x6 N lo hi few (.lst true (ms.map prT)) (.int (j : Nat)) (.int (i : Nat)) (fq c) xo x16) = some (.nx, sB sc tp im x3 ok k S2 x6 N lo hi few (.lst true (ms.map prT)) (.int (j : Nat)) (.int (i : Nat)) (fq c) xo x16) := by
    generalize E.call 11 (Es.cons (E.frzp (E.idx (E.var 5) (E.var 13)) (E.idx (E.var 5) (E.var 13))) (Es.cons (E.frzp (E.idx (E.var 5) (E.var 12)) (E.idx (E.var 5) (E.var 12))) (Es.cons (E.var 4) Es.nil))) = C at *
    by_cases h0 : (al (rowAt S i) (rowAt S j) k).length = 0
    · have ce := one h0
      subst ce
      have h0' : al (rowAt S i) (rowAt S j) k = [] := List.length_eq_zero_iff.mp h0
      simp [evS, evSs, ev, evL, over, e2, h0', c1, okN_of, eqT_fq, isF_fq]
    · have h0' : al (rowAt S i) (rowAt S j) k ≠ [] := fun e => h0 (by rw [e]; rfl)
      simp [evS, evSs, ev, evL, over, e2, h0', c1, okN_of, eqT_fq, isF_fq]
  have g3 : evS (pgOf R' 19) (Pv.S.iff (E.op2 O2.ne (E.op2 O2.isin (E.tup (Es.cons (E.var 13) (Es.cons (E.var 12) Es.nil))) (E.var 11)) (E.nt (E.call 21 (Es.cons (E.var 9) (Es.cons (E.var 14) Es.nil))))) (Ss.cons (Pv.S.ret (E.cst (T.bl false))) Ss.nil) Ss.nil) (sB sc tp im x3 ok k S2 x6 N lo hi few (.lst true (ms.map prT)) (.int (j : Nat)) (.int (i : Nat)) (fq c) xo x16) = some (.nx, sB sc tp im x3 ok k S2 x6 N lo hi few (.lst true (ms.map prT)) (.int (j : Nat)) (.int (i : Nat)) (fq c) xo x16) := by
    have op : op2 .isin (prT (i, j)) (.lst true (ms.map prT)) = some (.bl (decide ((i, j) ∈ ms))) := by
      show (inL _ _).map T.bl = _
      rw [inL_pr]; rfl
    have dd : decide ((i, j) ∈ ms) = !decide (hi < c) := by
      by_cases h : hi < c
      · rw [decide_eq_true h, decide_eq_false fun z => mem.mp z h]; rfl
      · rw [decide_eq_false h, decide_eq_true (mem.mpr h)]; rfl
    rw [dd] at op
    have hC : ev (pgOf R' 19) .o (E.call 21 (Es.cons (E.var 9) (Es.cons (E.var 14) Es.nil))) (sB sc tp im x3 ok k S2 x6 N lo hi few (.lst true (ms.map prT)) (.int (j : Nat)) (.int (i : Nat)) (fq c) xo x16) = some (.bl (decide (hi < c)), sB sc tp im x3 ok k S2 x6 N lo hi few (.lst true (ms.map prT)) (.int (j : Nat)) (.int (i : Nat)) (fq c) xo x16) := by
      have zh' : (pgOf R' 19).cf 21 [fq hi, fq c] = some (.bl (decide (hi < c)), [fq hi, fq c]) := zh
      have ha : evA (pgOf R' 19) (Es.cons (E.var 9) (Es.cons (E.var 14) Es.nil)) (sB sc tp im x3 ok k S2 x6 N lo hi few (.lst true (ms.map prT)) (.int (j : Nat)) (.int (i : Nat)) (fq c) xo x16) = some ([fq hi, fq c], [none, none], sB sc tp im x3 ok k S2 x6 N lo hi few (.lst true (ms.map prT)) (.int (j : Nat)) (.int (i : Nat)) (fq c) xo x16) := evA_varF rfl (isF_fq hi) (evA_varF rfl (isF_fq c) evA_nil)
      exact (go_callB ha zh').trans rfl
    generalize E.call 21 (Es.cons (E.var 9) (Es.cons (E.var 14) Es.nil)) = C at *
    have hI : ev (pgOf R' 19) .o (E.op2 O2.isin (E.tup (Es.cons (E.var 13) (Es.cons (E.var 12) Es.nil))) (E.var 11)) (sB sc tp im x3 ok k S2 x6 N lo hi few (.lst true (ms.map prT)) (.int (j : Nat)) (.int (i : Nat)) (fq c) xo x16) = some (.bl (!decide (hi < c)), sB sc tp im x3 ok k S2 x6 N lo hi few (.lst true (ms.map prT)) (.int (j : Nat)) (.int (i : Nat)) (fq c) xo x16) := by
      refine (ev_op2_ff (t := prT (i, j)) (u := .lst true (ms.map prT)) (by simp [ev, evL, okN_of]) (by simp) (by simp [ev]) op).trans rfl
    generalize E.op2 O2.isin (E.tup (Es.cons (E.var 13) (Es.cons (E.var 12) Es.nil))) (E.var 11) = B at *
    simp [evS, evSs, ev, hI, hC]
  show evSs _ (Ss.cons _ (Ss.cons _ (Ss.cons _ (Ss.cons _ Ss.nil)))) _ = _
  rw [evSs_nx (evS_asg1 e1)]
  show evSs _ _ (sB sc tp im x3 ok k S1 x6 N lo hi few (.lst true (ms.map prT)) (.int (j : Nat)) (.int (i : Nat)) (fq c) xo x16) = _
  rw [evSs_nx g1, evSs_nx g2, evSs_nx g3]
  exact go_nil
end
end W96

namespace W96
open Pv PySem
section
variable {k : Row} {S : List Row} {ok : Bool}
variable {sc tp im x3 x6 few more xj xi xc xo x16 : T} {N : Nat} {lo hi : Rat}
theorem uIn {ms : List (Nat × Nat)} {m j : Nat} (hk : Sht S k) (hj : j < S.length) (hm : ms.Perm (susV S k hi)) (hh : bq m hi) (hm4 : m ≤ 400000) : ∀ (is : List Nat) (SH xi xc : T), IsSh S SH → (∀ i ∈ is, i < j) →
    ∃ SH' xi' xc', IsSh S SH' ∧ forGo (setG (pgOf R' 19) (.one (.nm 13))) (evSs (pgOf R' 19) f23_7) (natsT is) (sB sc tp im x3 ok k SH x6 N lo hi few (.lst true (ms.map prT)) (.int (j : Nat)) xi xc xo x16) = some (.nx, sB sc tp im x3 ok k SH' x6 N lo hi few (.lst true (ms.map prT)) (.int (j : Nat)) xi' xc' xo x16)
  | [], SH, xi, xc, hS, _ => ⟨SH, xi, xc, hS, rfl⟩
  | i :: is, SH, xi, xc, hS, hi' => by
    obtain ⟨S1, c1, h1, e1⟩ := uPair (sc := sc) (tp := tp) (im := im) (x3 := x3) (x6 := x6) (few := few) (xc := xc) (xo := xo) (x16 := x16) (ok := ok) (N := N) (lo := lo) hS hk hj (hi' i List.mem_cons_self) hm hh hm4
    obtain ⟨S2, i2, c2, h2, e2⟩ := uIn hk hj hm hh hm4 is S1 (.int (i : Nat)) c1 h1 fun q hq => hi' q (List.mem_cons_of_mem _ hq)
    refine ⟨S2, i2, c2, h2, ?_⟩
    have hst : setG (pgOf R' 19) (.one (.nm 13)) (.int (i : Nat)) (sB sc tp im x3 ok k SH x6 N lo hi few (.lst true (ms.map prT)) (.int (j : Nat)) xi xc xo x16) = some (sB sc tp im x3 ok k SH x6 N lo hi few (.lst true (ms.map prT)) (.int (j : Nat)) (.int (i : Nat)) xc xo x16) := rfl
    exact (forGo_cons (x := .int (i : Nat)) (xs := natsT is) hst e1).trans e2
theorem uOut {ms : List (Nat × Nat)} {m : Nat} (hk : Sht S k) (hm : ms.Perm (susV S k hi)) (hh : bq m hi) (hm4 : m ≤ 400000) : ∀ (js : List Nat) (SH xj xi xc : T), IsSh S SH → (∀ j ∈ js, j < S.length) →
    ∃ SH' xj' xi' xc', IsSh S SH' ∧ forGo (setG (pgOf R' 19) (.one (.nm 12))) (evSs (pgOf R' 19) f23_8) (natsT js) (sB sc tp im x3 ok k SH x6 N lo hi few (.lst true (ms.map prT)) xj xi xc xo x16) = some (.nx, sB sc tp im x3 ok k SH' x6 N lo hi few (.lst true (ms.map prT)) xj' xi' xc' xo x16)
  | [], SH, xj, xi, xc, hS, _ => ⟨SH, xj, xi, xc, hS, rfl⟩
  | j :: js, SH, xj, xi, xc, hS, hj' => by
    have jl := hj' j List.mem_cons_self
    have n6 := hk.n6
    obtain ⟨S1, i1, c1, h1, e1⟩ := uIn (sc := sc) (tp := tp) (im := im) (x3 := x3) (x6 := x6) (few := few) (xo := xo) (x16 := x16) (ok := ok) (N := N) (lo := lo) hk jl hm hh hm4 (List.range j) SH xi xc hS fun i hi => List.mem_range.mp hi
    obtain ⟨S2, j2, i2, c2, h2, e2⟩ := uOut hk hm hh hm4 js S1 (.int (j : Nat)) i1 c1 h1 fun q hq => hj' q (List.mem_cons_of_mem _ hq)
    refine ⟨S2, j2, i2, c2, h2, ?_⟩
    have hst : setG (pgOf R' 19) (.one (.nm 12)) (.int (j : Nat)) (sB sc tp im x3 ok k SH x6 N lo hi few (.lst true (ms.map prT)) xj xi xc xo x16) = some (sB sc tp im x3 ok k SH x6 N lo hi few (.lst true (ms.map prT)) (.int (j : Nat)) xi xc xo x16) := rfl
    have hv : ev (pgOf R' 19) .e (E.var 12) (sB sc tp im x3 ok k SH x6 N lo hi few (.lst true (ms.map prT)) (.int (j : Nat)) xi xc xo x16) = some (.int (j : Nat), sB sc tp im x3 ok k SH x6 N lo hi few (.lst true (ms.map prT)) (.int (j : Nat)) xi xc xo x16) := by simp [ev]
    have hb : evSs (pgOf R' 19) f23_8 (sB sc tp im x3 ok k SH x6 N lo hi few (.lst true (ms.map prT)) (.int (j : Nat)) xi xc xo x16) = some (.nx, sB sc tp im x3 ok k S1 x6 N lo hi few (.lst true (ms.map prT)) (.int (j : Nat)) i1 c1 xo x16) := (evSs_nx (evS_for (evI_rng1 hv (by omega)) e1)).trans go_nil
    exact (forGo_cons (x := .int (j : Nat)) (xs := natsT js) hst hb).trans e2
/-- a copy is the least likely -/
theorem uCopy {SH : T} {j : Nat} (hS : IsSh S SH) (hk : Sht S k) (h0 : 0 < S.length) (hN : N < S.length) (hcp : rowAt S N = rowAt S 0) (hj : j < S.length) :
    ∃ SH', IsSh S SH' ∧ evSs (pgOf R' 19) f23_9 (sB sc tp im (.int (j : Nat)) ok k SH x6 N lo hi few more xj xi xc (fq (chV S k (rowAt S 0) (rowAt S N))) x16) = some (.nx, sB sc tp im (.int (j : Nat)) ok k SH' x6 N lo hi few more xj xi xc (fq (chV S k (rowAt S 0) (rowAt S N))) x16) := by
  have a0 := rowAt_mem h0
  have aj := rowAt_mem hj
  have aN := rowAt_mem hN
  have k6 := hk.k6
  have cbN := ch_bq (k := k) (b := rowAt S N) hk.n6 a0 hk.k6
  have cbj := ch_bq (k := k) (b := rowAt S j) hk.n6 a0 hk.k6
  have zlt := cLlt (n := 18) i21 cbj cbN (by decide) (by decide)
  have zA := s10 (n := 17) (o1 := false) (o2 := false) (o3 := ok) (hk.len _ a0) (hk.len _ aj) (by omega)
  have zB := s10 (n := 17) (o1 := false) (o2 := false) (o3 := ok) (hk.len _ a0) (hk.len _ aN) (by omega)
  obtain ⟨S1, h1, e1⟩ := uTwo (f := 10) (i := 0) (j := j) (ix := E.cst (T.int (Int.ofNat 0))) (jx := E.var 3) (nn := 19) (ok := ok) (k := k) (m := .o) (sl1 := fun t => sB sc tp im (.int (j : Nat)) ok k t x6 N lo hi few more xj xi xc (fq (chV S k (rowAt S 0) (rowAt S N))) x16)
    (fun t => ⟨rfl, rfl, fun _ => rfl, rfl⟩) (fun t => ⟨rfl, rfl⟩) (fun t => ⟨rfl, by simp [ev, brw]⟩) hS h0 hj zA (by decide)
  obtain ⟨S2, h2, e2⟩ := uTwo (f := 10) (i := 0) (j := N) (ix := E.cst (T.int (Int.ofNat 0))) (jx := E.var 7) (nn := 19) (ok := ok) (k := k) (m := .o) (sl1 := fun t => sB sc tp im (.int (j : Nat)) ok k t x6 N lo hi few more xj xi xc (fq (chV S k (rowAt S 0) (rowAt S N))) x16)
    (fun t => ⟨rfl, rfl, fun _ => rfl, rfl⟩) (fun t => ⟨rfl, rfl⟩) (fun t => ⟨rfl, by simp [ev, brw]⟩) h1 h0 hN zB (by decide)
  have eqn : eqT (.lst true (natsT (bw (rowAt S 0) (rowAt S j) k))) (.lst true (natsT (bw (rowAt S 0) (rowAt S N) k))) = some (decide (bw (rowAt S 0) (rowAt S j) k = bw (rowAt S 0) (rowAt S N) k)) := by
    have e : ∀ l : List Nat, natsT l = (l.map fun i : Nat => (i : Int)).map T.int := fun l => by rw [List.map_map]; rfl
    rw [e, e]
    show eqT (intsL true _) (intsL true _) = _
    rw [eqT_ints]
    congr 1
    refine decide_eq_decide.mpr ⟨fun h => ?_, fun h => by rw [h]⟩
    exact (List.map_inj_right fun a b h => by have h : (a : Int) = (b : Int) := h; omega).mp h
  have hcond : ev (pgOf R' 19) .t (E.op2 O2.eq (E.call 10 (Es.cons (E.frzp (E.idx (E.var 5) (E.cst (T.int (Int.ofNat 0)))) (E.idx (E.var 5) (E.cst (T.int (Int.ofNat 0))))) (Es.cons (E.frzp (E.idx (E.var 5) (E.var 3)) (E.idx (E.var 5) (E.var 3))) (Es.cons (E.var 4) Es.nil)))) (E.call 10 (Es.cons (E.frzp (E.idx (E.var 5) (E.cst (T.int (Int.ofNat 0)))) (E.idx (E.var 5) (E.cst (T.int (Int.ofNat 0))))) (Es.cons (E.frzp (E.idx (E.var 5) (E.var 7)) (E.idx (E.var 5) (E.var 7))) (Es.cons (E.var 4) Es.nil))))) (sB sc tp im (.int (j : Nat)) ok k SH x6 N lo hi few more xj xi xc (fq (chV S k (rowAt S 0) (rowAt S N))) x16) = some (.bl (decide (bw (rowAt S 0) (rowAt S j) k = bw (rowAt S 0) (rowAt S N) k)), sB sc tp im (.int (j : Nat)) ok k S2 x6 N lo hi few more xj xi xc (fq (chV S k (rowAt S 0) (rowAt S N))) x16) := by
    have gen : ∀ {A B : Pv.E} {t u : T} {sl sl1 sl2 : SL} {b : Bool}, over A = false → ev (pgOf R' 19) .o A sl = some (t, sl1) → ev (pgOf R' 19) .o B sl1 = some (u, sl2) → eqT t u = some b → ev (pgOf R' 19) .t (E.op2 O2.eq A B) sl = some (.bl b, sl2) := fun hov hA hB hE => by
      simp [ev, hov, hA, hB, hE]
    exact gen rfl e1 e2 eqn
  by_cases hq : bw (rowAt S 0) (rowAt S j) k = bw (rowAt S 0) (rowAt S N) k
  · rw [decide_eq_true hq] at hcond
    obtain ⟨S3, h3, e3⟩ := uS13k (n := 13) (ok := ok) (sc := sc) (tp := tp) (im := im) (x6 := x6) (few := few) (more := more) (xj := xj) (xi := xi) (xc := xc) (xo := fq (chV S k (rowAt S 0) (rowAt S N))) (x16 := x16) (N := N) (lo := lo) (hi := hi) h2 hk h0 hj
    have le := ch_copy (k := k) (b := rowAt S j) hk.n6 a0 (by rw [hq, hcp])
    rw [hcp] at zlt e3 hcond
    rw [hcp]
    rw [decide_eq_false (by grind)] at zlt
    refine ⟨S3, h3, ?_⟩
    have zlt' : (pgOf R' 19).cf 21 [fq (chV S k (rowAt S 0) (rowAt S j)), fq (chV S k (rowAt S 0) (rowAt S 0))] = some (.bl false, [fq (chV S k (rowAt S 0) (rowAt S j)), fq (chV S k (rowAt S 0) (rowAt S 0))]) := zlt
    have hc : ev (pgOf R' 19) .t (E.call 21 (Es.cons (E.call 13 (Es.cons (E.var 5) (Es.cons (E.cst (T.int (Int.ofNat 0))) (Es.cons (E.var 3) (Es.cons (E.var 4) Es.nil))))) (Es.cons (E.var 15) Es.nil))) (sB sc tp im (.int (j : Nat)) ok k S2 x6 N lo hi few more xj xi xc (fq (chV S k (rowAt S 0) (rowAt S 0))) x16) = some (.bl false, sB sc tp im (.int (j : Nat)) ok k S3 x6 N lo hi few more xj xi xc (fq (chV S k (rowAt S 0) (rowAt S 0))) x16) := by
      have ha := evA_call e3 (evA_varF (P := pgOf R' 19) (i := 15) (t := fq (chV S k (rowAt S 0) (rowAt S 0))) rfl (isF_fq _) evA_nil)
      exact (go_callB ha zlt').trans rfl
    show evSs _ (Ss.cons (Pv.S.iff _ (Ss.cons _ Ss.nil) Ss.nil) Ss.nil) _ = _
    have i1 := evS_if (a := Ss.cons (Pv.S.iff (E.call 21 (Es.cons (E.call 13 (Es.cons (E.var 5) (Es.cons (E.cst (T.int (Int.ofNat 0))) (Es.cons (E.var 3) (Es.cons (E.var 4) Es.nil))))) (Es.cons (E.var 15) Es.nil))) (Ss.cons (Pv.S.ret (E.cst (T.bl false))) Ss.nil) Ss.nil) Ss.nil) (b := Ss.nil) hcond
    have i2 := evS_if (a := Ss.cons (Pv.S.ret (E.cst (T.bl false))) Ss.nil) (b := Ss.nil) hc
    exact (evSs_nx (i1.trans ((evSs_nx (i2.trans go_nil)).trans go_nil))).trans go_nil
  · rw [decide_eq_false hq] at hcond
    refine ⟨S2, h2, ?_⟩
    have i1 := evS_if (a := Ss.cons (Pv.S.iff (E.call 21 (Es.cons (E.call 13 (Es.cons (E.var 5) (Es.cons (E.cst (T.int (Int.ofNat 0))) (Es.cons (E.var 3) (Es.cons (E.var 4) Es.nil))))) (Es.cons (E.var 15) Es.nil))) (Ss.cons (Pv.S.ret (E.cst (T.bl false))) Ss.nil) Ss.nil) Ss.nil) (b := Ss.nil) hcond
    exact (evSs_nx (i1.trans go_nil)).trans go_nil
theorem uCopies (hk : Sht S k) (h0 : 0 < S.length) (hN : N < S.length) (hcp : rowAt S N = rowAt S 0) : ∀ (js : List Nat) (SH x3 : T), IsSh S SH → (∀ j ∈ js, j < S.length) →
    ∃ SH' x3', IsSh S SH' ∧ forGo (setG (pgOf R' 19) (.one (.nm 3))) (evSs (pgOf R' 19) f23_9) (natsT js) (sB sc tp im x3 ok k SH x6 N lo hi few more xj xi xc (fq (chV S k (rowAt S 0) (rowAt S N))) x16) = some (.nx, sB sc tp im x3' ok k SH' x6 N lo hi few more xj xi xc (fq (chV S k (rowAt S 0) (rowAt S N))) x16)
  | [], SH, x3, hS, _ => ⟨SH, x3, hS, rfl⟩
  | j :: js, SH, x3, hS, hj => by
    obtain ⟨S1, h1, e1⟩ := uCopy (sc := sc) (tp := tp) (im := im) (x6 := x6) (few := few) (more := more) (xj := xj) (xi := xi) (xc := xc) (x16 := x16) (ok := ok) (lo := lo) (hi := hi) hS hk h0 hN hcp (hj j List.mem_cons_self)
    obtain ⟨S2, x32, h2, e2⟩ := uCopies hk h0 hN hcp js S1 (.int (j : Nat)) h1 fun q hq => hj q (List.mem_cons_of_mem _ hq)
    refine ⟨S2, x32, h2, ?_⟩
    have hst : setG (pgOf R' 19) (.one (.nm 3)) (.int (j : Nat)) (sB sc tp im x3 ok k SH x6 N lo hi few more xj xi xc (fq (chV S k (rowAt S 0) (rowAt S N))) x16) = some (sB sc tp im (.int (j : Nat)) ok k SH x6 N lo hi few more xj xi xc (fq (chV S k (rowAt S 0) (rowAt S N))) x16) := rfl
    exact (forGo_cons (x := .int (j : Nat)) (xs := natsT js) hst e1).trans e2
end
end W96

namespace W96
open Pv PySem
section
variable {k : Row} {S : List Row} {ok : Bool}
variable {sc tp im x3 x6 few more xj xi xc xo x16 : T} {N : Nat} {lo hi : Rat}
theorem uScore {SH : T} (hS : IsSh S SH) (hk : Sht S k) (h0 : 0 < S.length) (hN : N < S.length) (hcp : rowAt S N = rowAt S 0) :
    ∃ SH', IsSh S SH' ∧ evS (pgOf R' 19) (Pv.S.iff (E.op2 O2.ne (E.call 15 (Es.cons (E.frzp (E.idx (E.var 5) (E.var 7)) (E.idx (E.var 5) (E.var 7))) (Es.cons (E.var 4) Es.nil))) (E.call 15 (Es.cons (E.frzp (E.idx (E.var 5) (E.cst (T.int (Int.ofNat 0)))) (E.idx (E.var 5) (E.cst (T.int (Int.ofNat 0))))) (Es.cons (E.var 4) Es.nil)))) (Ss.cons (Pv.S.ret (E.cst (T.bl false))) Ss.nil) Ss.nil) (sB sc tp im x3 ok k SH x6 N lo hi few more xj xi xc xo x16) = some (.nx, sB sc tp im x3 ok k SH' x6 N lo hi few more xj xi xc xo x16) := by
  have a0 := rowAt_mem h0
  have k6 := hk.k6
  have z0 := s15 (n := 17) (o2 := ok) (k := k) (hk.len _ a0) (by omega)
  obtain ⟨t1, h1, e1⟩ := take_sh (P := pgOf R' 19) (sl := sB sc tp im x3 ok k SH x6 N lo hi few more xj xi xc xo x16) (k := 5) (i := N) (ix := E.var 7) rfl hS rfl (by simp [ev, brw]) hN
  obtain ⟨t2, h2, e2⟩ := take_sh (P := pgOf R' 19) (sl := sB sc tp im x3 ok k t1 x6 N lo hi few more xj xi xc xo x16) (k := 5) (i := 0) (ix := E.cst (T.int (Int.ofNat 0))) rfl h1 rfl rfl h0
  rw [hcp] at e1
  have g : ∀ {t t' : T} {A : Pv.E}, ev (pgOf R' 19) .e A (sB sc tp im x3 ok k t x6 N lo hi few more xj xi xc xo x16) = some (rowT false (rowAt S 0), sB sc tp im x3 ok k t' x6 N lo hi few more xj xi xc xo x16) → (∃ B C, A = E.frzp B C) → ev (pgOf R' 19) .o (E.call 15 (Es.cons A (Es.cons (E.var 4) Es.nil))) (sB sc tp im x3 ok k t x6 N lo hi few more xj xi xc xo x16) = some (.int (((List.range k.length).filter fun i => decide (gs (rowAt S 0) i = gs k i)).length : Nat), sB sc tp im x3 ok k t' x6 N lo hi few more xj xi xc xo x16) := fun {t t' A} h hA => by
    obtain ⟨B, C, rfl⟩ := hA
    have z0' : (pgOf R' 19).cf 15 [rowT false (rowAt S 0), rowT ok k] = _ := z0
    by_cases fk : isF (rowT ok k) = true
    · exact (go_call (evA_frzp h (evA_varF rfl fk evA_nil)) z0' (m := .o) (by decide)).trans rfl
    · have fk : isF (rowT ok k) = false := by simpa using fk
      exact (go_call (evA_frzp h (evA_varO rfl fk evA_nil)) z0' (m := .o) (by decide)).trans rfl
  have c1 := g e1 ⟨_, _, rfl⟩
  have c2 := g e2 ⟨_, _, rfl⟩
  refine ⟨t2, h2, ?_⟩
  have gen : ∀ {A B : Pv.E} {v : Int} {sl sl1 sl2 : SL}, over A = false → ev (pgOf R' 19) .o A sl = some (.int v, sl1) → ev (pgOf R' 19) .o B sl1 = some (.int v, sl2) → ev (pgOf R' 19) .t (E.op2 O2.ne A B) sl = some (.bl false, sl2) := fun hov hA hB => by
    simp [ev, hov, hA, hB]
  exact (evS_if (gen rfl c1 c2)).trans go_nil
/-- the law, from the sheets on -/
def tailB : Ss := (Ss.cons (Pv.S.asg (G.tp [(G0.nm 10), (G0.nm 11)]) (E.tup (Es.cons (E.call 14 (Es.cons (E.var 5) (Es.cons (E.var 4) (Es.cons (E.var 8) Es.nil)))) (Es.cons (E.call 14 (Es.cons (E.var 5) (Es.cons (E.var 4) (Es.cons (E.var 9) Es.nil)))) Es.nil)))) (Ss.cons (Pv.S.iff (E.orr (E.op2 O2.isin (E.cst (T.bl false)) (E.lc [16] (G.one (G0.nm 16)) (It.var 10) f23_5 f23_6)) (E.nt (E.op1 (O1.isi 4) (E.var 10)))) (Ss.cons (Pv.S.ret (E.cst (T.bl false))) Ss.nil) Ss.nil) (Ss.cons (Pv.S.forr (G.one (G0.nm 12)) (It.rng1 (E.op1 O1.len (E.var 5))) f23_8) (Ss.cons (Pv.S.iff (E.op2 O2.ne (E.call 15 (Es.cons (E.frzp (E.idx (E.var 5) (E.var 7)) (E.idx (E.var 5) (E.var 7))) (Es.cons (E.var 4) Es.nil))) (E.call 15 (Es.cons (E.frzp (E.idx (E.var 5) (E.cst (T.int (Int.ofNat 0)))) (E.idx (E.var 5) (E.cst (T.int (Int.ofNat 0))))) (Es.cons (E.var 4) Es.nil)))) (Ss.cons (Pv.S.ret (E.cst (T.bl false))) Ss.nil) Ss.nil) (Ss.cons (Pv.S.asg (G.one (G0.nm 15)) (E.call 13 (Es.cons (E.var 5) (Es.cons (E.cst (T.int (Int.ofNat 0))) (Es.cons (E.var 7) (Es.cons (E.var 4) Es.nil)))))) (Ss.cons (Pv.S.forr (G.one (G0.nm 3)) (It.rng2 (E.cst (T.int (Int.ofNat 1))) (E.var 7)) f23_9) (Ss.cons (Pv.S.ret (E.op2 O2.eq (E.op1 O1.len (E.call 14 (Es.cons (E.var 5) (Es.cons (E.var 4) (Es.cons (E.tup (Es.cons (E.cst (T.int (Int.ofNat 1))) (Es.cons (E.cst (T.int (Int.ofNat 1))) Es.nil))) Es.nil))))) (E.op2 O2.fdiv (E.op2 O2.mul (E.op1 O1.len (E.var 5)) (E.var 7)) (E.cst (T.int (Int.ofNat 2)))))) Ss.nil)))))))
theorem len5 {SH : T} (hS : IsSh S SH) {m : Md} (hm : m ≠ .t) : ev (pgOf R' 19) m (E.op1 O1.len (E.var 5)) (sB sc tp im x3 ok k SH x6 N lo hi few more xj xi xc xo x16) = some (.int (S.length : Nat), sB sc tp im x3 ok k SH x6 N lo hi few more xj xi xc xo x16) := by
  obtain ⟨o, L, rfl, hL⟩ := hS
  have hlen : L.length = S.length := by rw [← hL]; simp [rws]
  cases m <;> first | exact absurd rfl hm | simp [ev, shT, hlen]
theorem stageB {SH : T} {m : Nat} (hS : IsSh S SH) (hk : Sht S k) (hN : N + 1 = S.length) (h2 : 1 ≤ N) (hcp : rowAt S N = rowAt S 0) (hlo : bq m lo) (hhi : bq m hi) (hm : m ≤ 400000) (hle : lo ≤ hi) :
    ∃ sl', evSs (pgOf R' 19) tailB (sB sc tp im x3 ok k SH x6 N lo hi .hole .hole .hole .hole .hole .hole .hole) = some (.rt (.bl true), sl') := by
  have n6 := hk.n6
  obtain ⟨S1, fs, h1, pf, e1⟩ := uS14 (n := 12) (ok := ok) (sc := sc) (tp := tp) (im := im) (x3 := x3) (x6 := x6) (few := .hole) (more := .hole) (xj := .hole) (xi := .hole) (xc := .hole) (xo := .hole) (x16 := .hole) (N := N) (lo := lo) (hi := hi) hS hk hlo hm (i := 8) (.inl ⟨rfl, rfl⟩)
  obtain ⟨S2, ms, h2', pm, e2⟩ := uS14 (n := 12) (ok := ok) (sc := sc) (tp := tp) (im := im) (x3 := x3) (x6 := x6) (few := .hole) (more := .hole) (xj := .hole) (xi := .hole) (xc := .hole) (xo := .hole) (x16 := .hole) (N := N) (lo := lo) (hi := hi) h1 hk hhi hm (i := 9) (.inr ⟨rfl, rfl⟩)
  have q1 : evS (pgOf R' 19) (Pv.S.asg (G.tp [(G0.nm 10), (G0.nm 11)]) (E.tup (Es.cons (E.call 14 (Es.cons (E.var 5) (Es.cons (E.var 4) (Es.cons (E.var 8) Es.nil)))) (Es.cons (E.call 14 (Es.cons (E.var 5) (Es.cons (E.var 4) (Es.cons (E.var 9) Es.nil)))) Es.nil)))) (sB sc tp im x3 ok k SH x6 N lo hi .hole .hole .hole .hole .hole .hole .hole) = some (.nx, sB sc tp im x3 ok k S2 x6 N lo hi (.lst true (fs.map prT)) (.lst true (ms.map prT)) .hole .hole .hole .hole .hole) := by
    generalize E.call 14 (Es.cons (E.var 5) (Es.cons (E.var 4) (Es.cons (E.var 8) Es.nil))) = C1 at *
    generalize E.call 14 (Es.cons (E.var 5) (Es.cons (E.var 4) (Es.cons (E.var 9) Es.nil))) = C2 at *
    simp [evS, ev, evL, e1, e2, okN_of, setG, setGs, setG0]
  have sub : ∀ p ∈ fs, p ∈ ms := fun p hp => by
    obtain ⟨i, j⟩ := p
    rw [pm.mem_iff, sus_mem]
    obtain ⟨a, b, c⟩ := sus_mem.mp (pf.mem_iff.mp hp)
    exact ⟨a, b, by grind⟩
  have lS : ∀ r, (susV S k r).length ≤ 36 := fun r => by
    have : ∀ js : List Nat, (∀ j ∈ js, j < S.length) → (js.flatMap (susJ S k r)).length ≤ js.length * 6 := fun js => by
      induction js with
      | nil => intro _; simp
      | cons j js ih =>
        intro h
        have a1 := ih fun q hq => h q (List.mem_cons_of_mem _ hq)
        have jl := h j List.mem_cons_self
        have lj : (susJ S k r j).length ≤ 6 := by
          unfold susJ
          rw [List.length_map]
          exact Nat.le_trans (List.length_filter_le _ _) (by rw [List.length_range]; omega)
        rw [List.flatMap_cons, List.length_append, List.length_cons, Nat.succ_mul]
        omega
    have a := this (List.range S.length) fun i hi => List.mem_range.mp hi
    rw [List.length_range] at a
    unfold susV
    omega
  have q2 := uFew (sc := sc) (tp := tp) (im := im) (x3 := x3) (x6 := x6) (xj := .hole) (xi := .hole) (xc := .hole) (xo := .hole) (ok := ok) (k := k) (SH := S2) (N := N) (lo := lo) (hi := hi) sub (by rw [pf.length_eq]; have := lS lo; omega)
  obtain ⟨S3, j3, i3, c3, h3, e3⟩ := uOut (sc := sc) (tp := tp) (im := im) (x3 := x3) (x6 := x6) (few := .lst false (fs.map prT)) (xo := .hole) (x16 := .hole) (ok := ok) (N := N) (lo := lo) hk pm hhi hm (List.range S.length) S2 .hole .hole .hole h2' fun i hi => List.mem_range.mp hi
  have q3 := evS_for (evI_rng1 (len5 (sc := sc) (tp := tp) (im := im) (x3 := x3) (x6 := x6) (few := .lst false (fs.map prT)) (more := .lst true (ms.map prT)) (xj := .hole) (xi := .hole) (xc := .hole) (xo := .hole) (x16 := .hole) (ok := ok) (k := k) (N := N) (lo := lo) (hi := hi) h2' (m := .e) (by decide)) (by omega)) e3
  obtain ⟨S4, h4, q4⟩ := uScore (sc := sc) (tp := tp) (im := im) (x3 := x3) (x6 := x6) (few := .lst false (fs.map prT)) (more := .lst true (ms.map prT)) (xj := j3) (xi := i3) (xc := c3) (xo := .hole) (x16 := .hole) (ok := ok) (lo := lo) (hi := hi) h3 hk (N := N) (by omega) (by omega) hcp
  obtain ⟨S5, h5, e5⟩ := uS13l (n := 13) (j := N) (sc := sc) (tp := tp) (im := im) (x3 := x3) (x6 := x6) (few := .lst false (fs.map prT)) (more := .lst true (ms.map prT)) (xj := j3) (xi := i3) (xc := c3) (xo := .hole) (x16 := .hole) (ok := ok) (lo := lo) (hi := hi) h4 hk (N := N) (by omega) (by omega)
  obtain ⟨S6, x36, h6, e6⟩ := uCopies (sc := sc) (tp := tp) (im := im) (x6 := x6) (few := .lst false (fs.map prT)) (more := .lst true (ms.map prT)) (xj := j3) (xi := i3) (xc := c3) (x16 := .hole) (ok := ok) (lo := lo) (hi := hi) hk (N := N) (by omega) (by omega) hcp (List.range' 1 (N - 1)) S5 x3 h5 fun j hj => by
    obtain ⟨a, b⟩ := List.mem_range'_1.mp hj
    omega
  have q5 := evS_asg1 (i := 15) e5
  have rg : rngU 1 (N : Int) = natsT (List.range' 1 (N - 1)) := by
    unfold rngU
    rw [List.range'_eq_map_range]
    show _ = ((List.range (N - 1)).map fun x => 1 + x).map fun i : Nat => T.int (i : Int)
    rw [List.map_map]
    have : ((N : Int) - 1).toNat = N - 1 := by omega
    rw [this]
    refine List.map_congr_left fun a _ => ?_
    show T.int (1 + (a : Int)) = T.int ((1 + a : Nat) : Int)
    rw [Int.natCast_add]; rfl
  have q6 : evS (pgOf R' 19) (Pv.S.forr (G.one (G0.nm 3)) (It.rng2 (E.cst (T.int (Int.ofNat 1))) (E.var 7)) f23_9) (sB sc tp im x3 ok k S5 x6 N lo hi (.lst false (fs.map prT)) (.lst true (ms.map prT)) j3 i3 c3 (fq (chV S k (rowAt S 0) (rowAt S N))) .hole) = some (.nx, sB sc tp im x36 ok k S6 x6 N lo hi (.lst false (fs.map prT)) (.lst true (ms.map prT)) j3 i3 c3 (fq (chV S k (rowAt S 0) (rowAt S N))) .hole) := by
    refine evS_for (ts := natsT (List.range' 1 (N - 1))) ?_ e6
    rw [← rg]
    refine evI_rng2 (sl1 := sB sc tp im x3 ok k S5 x6 N lo hi (.lst false (fs.map prT)) (.lst true (ms.map prT)) j3 i3 c3 (fq (chV S k (rowAt S 0) (rowAt S N))) .hole) (by simp [ev]) (by simp [ev]) ?_
    unfold rngOk
    simp only [Bool.and_eq_true, decide_eq_true_eq]
    omega
  obtain ⟨S7, os, h7, po, e7⟩ := uS14one (n := 12) (ok := ok) (sc := sc) (tp := tp) (im := im) (x3 := x36) (x6 := x6) (few := .lst false (fs.map prT)) (more := .lst true (ms.map prT)) (xj := j3) (xi := i3) (xc := c3) (xo := fq (chV S k (rowAt S 0) (rowAt S N))) (x16 := .hole) (N := N) (lo := lo) (hi := hi) h6 hk
  have so := sus_one (k := k) hk.n6
  have lo2 : os.length * 2 = S.length * N := by
    have e : S.length - 1 = N := by omega
    rw [po.length_eq, so, e]
  have l5 := len5 (sc := sc) (tp := tp) (im := im) (x3 := x36) (x6 := x6) (few := .lst false (fs.map prT)) (more := .lst true (ms.map prT)) (xj := j3) (xi := i3) (xc := c3) (xo := fq (chV S k (rowAt S 0) (rowAt S N))) (x16 := .hole) (ok := ok) (k := k) (N := N) (lo := lo) (hi := hi) h7 (m := .o) (by decide)
  have q7 : ev (pgOf R' 19) .e (E.op2 O2.eq (E.op1 O1.len (E.call 14 (Es.cons (E.var 5) (Es.cons (E.var 4) (Es.cons (E.tup (Es.cons (E.cst (T.int (Int.ofNat 1))) (Es.cons (E.cst (T.int (Int.ofNat 1))) Es.nil))) Es.nil))))) (E.op2 O2.fdiv (E.op2 O2.mul (E.op1 O1.len (E.var 5)) (E.var 7)) (E.cst (T.int (Int.ofNat 2))))) (sB sc tp im x36 ok k S6 x6 N lo hi (.lst false (fs.map prT)) (.lst true (ms.map prT)) j3 i3 c3 (fq (chV S k (rowAt S 0) (rowAt S N))) .hole) = some (.bl true, sB sc tp im x36 ok k S7 x6 N lo hi (.lst false (fs.map prT)) (.lst true (ms.map prT)) j3 i3 c3 (fq (chV S k (rowAt S 0) (rowAt S N))) .hole) := by
    have mo : op2 .mul (.int (S.length : Nat)) (.int (N : Nat)) = some (.int ((S.length : Int) * (N : Int))) := op2_mul (mulOk_tiny (by omega))
    have fd : op2 .fdiv (.int ((S.length : Int) * (N : Int))) (.int 2) = some (.int ((S.length : Int) * (N : Int) / 2)) := op2_fdiv (by decide) (by decide)
    have hd : (S.length : Int) * (N : Int) / 2 = (os.length : Int) := by
      have : ((S.length * N : Nat) : Int) = ((os.length * 2 : Nat) : Int) := by rw [lo2]
      rw [Int.natCast_mul, Int.natCast_mul] at this
      rw [this]
      omega
    generalize E.call 14 (Es.cons (E.var 5) (Es.cons (E.var 4) (Es.cons (E.tup (Es.cons (E.cst (T.int (Int.ofNat 1))) (Es.cons (E.cst (T.int (Int.ofNat 1))) Es.nil))) Es.nil))) = C at *
    have gA := ev_op1 (o := .len) (m := .o) e7 (show op1 .len (.lst true (os.map prT)) = some (.int (os.length : Nat)) by simp)
    have gen : ∀ {A B D : Pv.E} {sl sl1 : SL}, over A = false → over B = false → ev (pgOf R' 19) .o A sl = some (.int (os.length : Nat), sl1) → ev (pgOf R' 19) .o B sl1 = some (.int (S.length : Nat), sl1) → ev (pgOf R' 19) .o D sl1 = some (.int (N : Nat), sl1) → ev (pgOf R' 19) .e (E.op2 O2.eq A (E.op2 O2.fdiv (E.op2 O2.mul B D) (E.cst (T.int (Int.ofNat 2))))) sl = some (.bl true, sl1) := fun o1 o2 hA hB hD => by
      simp [ev, o1, o2, hA, hB, hD, mo, over]
      rw [show op2 .fdiv (.int ((S.length : Int) * (N : Int))) (.int 2) = _ from fd, hd]
      simp
    exact gen rfl rfl gA l5 (by simp [ev])
  refine ⟨sB sc tp im x36 ok k S7 x6 N lo hi (.lst false (fs.map prT)) (.lst true (ms.map prT)) j3 i3 c3 (fq (chV S k (rowAt S 0) (rowAt S N))) .hole, ?_⟩
  unfold tailB
  rw [evSs_nx q1, evSs_nx q2, evSs_nx q3, evSs_nx q4, evSs_nx q5]
  show evSs _ _ (sB sc tp im x3 ok k S5 x6 N lo hi (.lst false (fs.map prT)) (.lst true (ms.map prT)) j3 i3 c3 (fq (chV S k (rowAt S 0) (rowAt S N))) .hole) = _
  rw [evSs_nx q6]
  exact evSs_rt (evS_ret q7)
end
end W96

namespace W96
open Pv PySem
theorem ev_frzp_G {P : Pg} {sl sl1 : SL} {A B : Pv.E} {t : T} (hA : ev P .o A sl = some (t, sl1)) (ft : isF t = true) : ev P .e (.frzp A B) sl = some (t, sl1) := by
  simp [ev, hA, ft]
theorem set_set {sl : SL} {i : Nat} {t u : T} : (sl.set i t).set i u = sl.set i u := by rw [List.set_set]
/-- one draw from the tape in slot 1 -/
theorem uDraw {sl : SL} {t : T} {m : Int} {md : Md} (h : sl[1]? = some t) (ht : IsTp t) (hm : 0 < m) (hm2 : m < 1000000) (hmd : md ≠ .t) : ∃ d t', IsTp t' ∧ 0 ≤ d ∧ d < m ∧ ev (pgOf R' 19) md (E.call 16 (Es.cons (E.var 1) (Es.cons (E.cst (T.int m)) Es.nil))) sl = some (.int d, sl.set 1 t') := by
  obtain ⟨d, t', e, h1, h2, h3⟩ := tp_draw (n := 18) i16 ht hm hm2
  refine ⟨d, t', h1, h2, h3, ?_⟩
  have e' : (pgOf R' 19).cf 16 [t, .int m] = some (.int d, [t', .int m]) := e
  have hc : evA (pgOf R' 19) (Es.cons (E.cst (T.int m)) Es.nil) (sl.set 1 .hole) = some ([.int m], [none], sl.set 1 .hole) := by
    simp [evA, ev]
  rw [go_call (evA_varO (look_get h ht.hole) ht.isF hc) e' hmd]
  show some (T.int d, (sl.set 1 .hole).set 1 t') = _
  rw [set_set]
/-- one letter -/
theorem uLet {sl : SL} {t : T} (h : sl[1]? = some t) (ht : IsTp t) : ∃ (x : Fin 3) (t' : T), IsTp t' ∧ ev (pgOf R' 19) .e f23_1 sl = some (strOf x, sl.set 1 t') := by
  obtain ⟨d, t', h1, h2, h3, e⟩ := uDraw (m := 3) (md := .o) h ht (by decide) (by decide) (by decide)
  have hd : d = 0 ∨ d = 1 ∨ d = 2 := by omega
  have hx : ∃ x : Fin 3, L2.atI [T.str "a", T.str "b", T.str "c"] d = some (strOf x) := by
    rcases hd with rfl | rfl | rfl
    · exact ⟨0, rfl⟩
    · exact ⟨1, rfl⟩
    · exact ⟨2, rfl⟩
  obtain ⟨x, hx⟩ := hx
  refine ⟨x, t', h1, ?_⟩
  refine ev_frzp_G ?_ isF_str
  have gen : ∀ {A B : Pv.E} {ts : List T} {sl1 : SL}, over A = false → ev (pgOf R' 19) .o A sl = some (.lst true ts, sl) → ev (pgOf R' 19) .o B sl = some (.int d, sl1) → L2.atI ts d = some (strOf x) → ev (pgOf R' 19) .o (E.idx A B) sl = some (strOf x, sl1) := fun h1 h2 h3 h4 => by
    simp [ev, h1, h2, h3, idxT, h4]
  exact gen rfl (by simp [ev, evL, okN_of]) e hx
/-- a row of letters -/
theorem uRow {sl0 : SL} {t : T} {m : Nat} (h : sl0[1]? = some t) (ht : IsTp t) (h3 : ∃ u, sl0[3]? = some u ∧ (isF u || isHole u) = true) (h2 : look sl0 2 = some (.int (m : Nat))) (hm : m ≤ 6) {md : Md} (hmd : md ≠ .t) :
    ∃ (row : Row) (t' : T), row.length = m ∧ IsTp t' ∧ ev (pgOf R' 19) md (E.lc [3] (G.one (G0.nm 3)) (It.rng1 (E.var 2)) f23_0 f23_1) sl0 = some (.lst true (row.map strOf), sl0.set 1 t') := by
  obtain ⟨u3, h3, h3'⟩ := h3
  have l3 : 3 < sl0.length := by
    by_cases z : 3 < sl0.length
    · exact z
    · rw [List.getElem?_eq_none (by omega)] at h3; cases h3
  obtain ⟨r, s', e, xs0, row, t', e1, e2, e3, e4, e5⟩ := lcGo_inv (set := setG (pgOf R' 19) (.one (.nm 3))) (c := ev (pgOf R' 19) .t f23_0) (e := ev (pgOf R' 19) .e f23_1) (wp := wipeS [3])
    (fun ts sl acc => ∃ (xs : List Nat) (row : Row) (t' : T), ts = natsT xs ∧ acc = row.map strOf ∧ IsTp t' ∧ wipeS [3] sl = (sl0.set 1 t').set 3 .hole ∧ xs.length + row.length = m)
    (fun x ts sl acc ⟨xs, row, t', q1, q2, q3, q4, q5⟩ => by
      cases xs with
      | nil => cases q1
      | cons y xs =>
        cases q1; subst q2
        simp only [List.length_cons] at q5
        have g1 : ((((sl0.set 1 t').set 3 .hole).set 3 (.int (y : Nat))))[1]? = some t' := by
          rw [List.getElem?_set_ne (by decide), List.getElem?_set_ne (by decide), List.getElem?_set_self (by omega)]
        obtain ⟨x, t2, p1, p2⟩ := uLet g1 q3
        refine ⟨((sl0.set 1 t').set 3 .hole).set 3 (.int (y : Nat)), true, _, by rw [q4]; rfl, rfl, fun z => (nomatch z), fun _ => ⟨strOf x, _, p2, by rw [List.length_map]; omega, xs, row ++ [x], t2, rfl, by simp, p1, ?_, by simp; omega⟩⟩
        show List.set (List.set (List.set (List.set (List.set sl0 1 t') 3 T.hole) 3 (T.int (y : Nat))) 1 t2) 3 T.hole = _
        rw [set_set, List.set_comm (l := List.set sl0 1 t') (T.int (y : Nat)) t2 (by decide), set_set, set_set])
    (natsT (List.range m)) sl0 [] ⟨List.range m, [], t, rfl, rfl, ht, by
      have : sl0.set 1 t = sl0 := by
        apply List.ext_getElem?
        intro i
        by_cases i1 : 1 = i
        · subst i1; rw [List.getElem?_set_self (by omega), h]
        · rw [List.getElem?_set_ne i1]
      rw [this]; rfl, by simp⟩
  have hx0 : xs0 = [] := by cases xs0 <;> first | rfl | cases e1
  subst hx0 e2
  have hv : ev (pgOf R' 19) .e (E.var 2) sl0 = some (.int (m : Nat), sl0.set 2 (.int (m : Nat))) := by simp [ev, h2]
  have s2 : sl0.set 2 (.int (m : Nat)) = sl0 := by
    obtain ⟨g, _⟩ := look_some h2
    apply List.ext_getElem?
    intro i
    by_cases i1 : 2 = i
    · subst i1; rw [List.getElem?_set_self (by omega), g]
    · rw [List.getElem?_set_ne i1]
  rw [s2] at hv
  refine ⟨row, t', by simpa using e5, e3, ?_⟩
  have ho : ownOk [3] sl0 = true := by
    unfold ownOk
    simp only [List.all_cons, List.all_nil, Bool.and_true, h3]
    exact h3'
  rw [go_lc (evI_rng1 hv (by omega)) ho e hmd]
  congr 2
  show List.set (wipeS [3] s') 3 (sl0.getD 3 .hole) = _
  rw [e4, set_set]
  apply List.ext_getElem?
  intro i
  by_cases i3 : 3 = i
  · subst i3
    rw [List.getElem?_set_self (by simpa using l3), List.getElem?_set_ne (by decide), h3, List.getD_eq_getElem?_getD, h3]; rfl
  · rw [List.getElem?_set_ne i3]
end W96

namespace W96
open Pv PySem
abbrev sA (sc t : T) (m : Nat) (k : Row) (L : List (Bool × Row)) (x6 : T) : SL := [sc, t, .int (m : Nat), .hole, rowT true k, .lst true (shT L), x6, .hole, .hole, .hole, .hole, .hole, .hole, .hole, .hole, .hole, .hole]
theorem uRows {sc : T} {m : Nat} {k : Row} (hm : m ≤ 6) : ∀ (ys : List Nat) (t : T) (L : List (Bool × Row)) (x6 : T), IsTp t → (∀ p ∈ L, p.2.length = m) → L.length + ys.length ≤ 6 →
    ∃ (t' : T) (L' : List (Bool × Row)) (x6' : T), IsTp t' ∧ (∀ p ∈ L', p.2.length = m) ∧ L'.length = L.length + ys.length ∧ forGo (setG (pgOf R' 19) (.one (.nm 6))) (evSs (pgOf R' 19) f23_4) (natsT ys) (sA sc t m k L x6) = some (.nx, sA sc t' m k L' x6')
  | [], t, L, x6, ht, hL, _ => ⟨t, L, x6, ht, hL, rfl, rfl⟩
  | y :: ys, t, L, x6, ht, hL, hl => by
    simp only [List.length_cons] at hl
    obtain ⟨row, t1, r1, ht1, e1⟩ := uRow (sl0 := sA sc t m k L (.int (y : Nat))) (t := t) (m := m) rfl ht ⟨.hole, rfl, rfl⟩ rfl hm (md := .e) (by decide)
    have e1' : ev (pgOf R' 19) .e (E.lc [3] (G.one (G0.nm 3)) (It.rng1 (E.var 2)) f23_2 f23_3) (sA sc t m k L (.int (y : Nat))) = some (.lst true (row.map strOf), sA sc t1 m k L (.int (y : Nat))) := e1
    have hl' : (shT L).length < 10000000 := by simp [shT]; omega
    have ap := go_append (i := 5) (ts := shT L) rfl e1' rfl hl'
    have em : shT L ++ [T.lst true (row.map strOf)] = shT (L ++ [(true, row)]) := by simp [shT]
    rw [em] at ap
    obtain ⟨t2, L2, x62, h1, h2, h3, e2⟩ := uRows hm ys t1 (L ++ [(true, row)]) (.int (y : Nat)) ht1 (fun p hp => by
      rcases List.mem_append.mp hp with h | h
      · exact hL p h
      · rw [List.mem_singleton.mp h]; exact r1) (by simp; omega)
    refine ⟨t2, L2, x62, h1, h2, by rw [h3]; simp; omega, ?_⟩
    have hst : setG (pgOf R' 19) (.one (.nm 6)) (.int (y : Nat)) (sA sc t m k L x6) = some (sA sc t m k L (.int (y : Nat))) := rfl
    have hb : evSs (pgOf R' 19) f23_4 (sA sc t m k L (.int (y : Nat))) = some (.nx, sA sc t1 m k (L ++ [(true, row)]) (.int (y : Nat))) := (evSs_nx ap).trans go_nil
    exact (forGo_cons (x := .int (y : Nat)) (xs := natsT ys) hst hb).trans e2
theorem up2 (a b : Rat) : ∃ p q, upV [a, b] = [p, q] ∧ p ≤ q ∧ (p = a ∨ p = b) ∧ (q = a ∨ q = b) := by
  have e1 : upI [] a = [a] := rfl
  by_cases h : b < a
  · have k : upK b [a] = 0 := by show (if decide (b < a) then 0 else 0 + 1) = 0; rw [if_pos (decide_eq_true h)]
    refine ⟨b, a, ?_, Rat.le_of_lt h, .inr rfl, .inl rfl⟩
    show upI (upI [] a) b = _
    rw [e1]; unfold upI; rw [k]; rfl
  · have k : upK b [a] = 1 := by show (if decide (b < a) then 0 else 0 + 1) = 1; rw [if_neg (by simpa using h)]
    refine ⟨a, b, ?_, by grind, .inl rfl, .inr rfl⟩
    show upI (upI [] a) b = _
    rw [e1]; unfold upI; rw [k]; rfl
theorem main (ns : List Int) : ∃ ts', callF S.R 20 23 [.lst false (ns.map T.int)] = some (.bl true, ts') := by
  rw [R_eq, callF_open (n := 19) (fn := f23) rfl]
  obtain ⟨t1, z1, ht1⟩ := tp_start (n := 18) i17 (ns := ns)
  generalize hsc : T.lst false (ns.map T.int) = sc at *
  have fsc : isF sc = true := by rw [← hsc]; simp [isFs_map (fun _ => isF_int) ns]
  have hsc' : isHole sc = false := by rw [← hsc]; rfl
  have s1 : evS (pgOf R' 19) (Pv.S.asg (G.one (G0.nm 1)) (E.call 17 (Es.cons (E.var 0) Es.nil))) [sc, .hole, .hole, .hole, .hole, .hole, .hole, .hole, .hole, .hole, .hole, .hole, .hole, .hole, .hole, .hole, .hole] = some (.nx, [sc, t1, .hole, .hole, .hole, .hole, .hole, .hole, .hole, .hole, .hole, .hole, .hole, .hole, .hole, .hole, .hole]) := by
    have z1' : (pgOf R' 19).cf 17 [sc] = some (t1, [sc]) := z1
    have ha : evA (pgOf R' 19) (Es.cons (E.var 0) Es.nil) [sc, .hole, .hole, .hole, .hole, .hole, .hole, .hole, .hole, .hole, .hole, .hole, .hole, .hole, .hole, .hole, .hole] = some ([sc], [none], _) := evA_varF (look_of hsc') fsc evA_nil
    exact (evS_asg1 (go_call ha z1' (m := .e) (by decide))).trans rfl
  have addG : ∀ {c d : Int} {A : Pv.E} {sl sl1 : SL}, ev (pgOf R' 19) .o A sl = some (.int d, sl1) → ev (pgOf R' 19) .e (E.op2 O2.add (E.cst (T.int c)) A) sl = some (.int (c + d), sl1) := fun h => by
    simp [ev, over, h]
  obtain ⟨d2, t2, ht2, d20, d21, e2⟩ := uDraw (sl := [sc, t1, .hole, .hole, .hole, .hole, .hole, .hole, .hole, .hole, .hole, .hole, .hole, .hole, .hole, .hole, .hole]) (m := 6) (md := .o) rfl ht1 (by decide) (by decide) (by decide)
  obtain ⟨m, hm⟩ : ∃ m : Nat, 1 + d2 = (m : Int) := ⟨(1 + d2).toNat, by omega⟩
  have s2' := evS_asg1 (i := 2) (addG (c := 1) e2)
  rw [hm] at s2'
  have s2 : evS (pgOf R' 19) (Pv.S.asg (G.one (G0.nm 2)) (E.op2 O2.add (E.cst (T.int (Int.ofNat 1))) (E.call 16 (Es.cons (E.var 1) (Es.cons (E.cst (T.int (Int.ofNat 6))) Es.nil))))) [sc, t1, .hole, .hole, .hole, .hole, .hole, .hole, .hole, .hole, .hole, .hole, .hole, .hole, .hole, .hole, .hole] = some (.nx, [sc, t2, .int (m : Nat), .hole, .hole, .hole, .hole, .hole, .hole, .hole, .hole, .hole, .hole, .hole, .hole, .hole, .hole]) := s2'
  obtain ⟨key, t3, hk, ht3, e3⟩ := uRow (sl0 := [sc, t2, .int (m : Nat), .hole, .hole, .hole, .hole, .hole, .hole, .hole, .hole, .hole, .hole, .hole, .hole, .hole, .hole]) (m := m) rfl ht2 ⟨.hole, rfl, rfl⟩ rfl (by omega) (md := .e) (by decide)
  have s3 := evS_asg1 (i := 4) e3
  have s4 : evS (pgOf R' 19) (Pv.S.asg (G.one (G0.nm 5)) (E.lst Es.nil)) [sc, t3, .int (m : Nat), .hole, rowT true key, .hole, .hole, .hole, .hole, .hole, .hole, .hole, .hole, .hole, .hole, .hole, .hole] = some (.nx, sA sc t3 m key [] .hole) := by
    refine (evS_asg1 (i := 5) (t := .lst true []) (sl1 := [sc, t3, .int (m : Nat), .hole, rowT true key, .hole, .hole, .hole, .hole, .hole, .hole, .hole, .hole, .hole, .hole, .hole, .hole]) ?_).trans rfl
    simp [ev, evL, okN_of]
  obtain ⟨d4, t4, ht4, d40, d41, e4⟩ := uDraw (sl := sA sc t3 m key [] .hole) (m := 4) (md := .o) rfl ht3 (by decide) (by decide) (by decide)
  obtain ⟨N, hN⟩ : ∃ N : Nat, 2 + d4 = (N : Int) := ⟨(2 + d4).toNat, by omega⟩
  have e4' := addG (c := 2) e4
  rw [hN] at e4'
  obtain ⟨t5, L, x6, ht5, hL, lL, e5⟩ := uRows (sc := sc) (m := m) (k := key) (by omega) (List.range N) t4 [] .hole ht4 (fun p hp => (nomatch hp)) (by rw [List.length_range]; simp only [List.length_nil]; omega)
  rw [List.length_range] at lL
  simp only [List.length_nil, Nat.zero_add] at lL
  have s5 : evS (pgOf R' 19) (Pv.S.forr (G.one (G0.nm 6)) (It.rng1 (E.op2 O2.add (E.cst (T.int (Int.ofNat 2))) (E.call 16 (Es.cons (E.var 1) (Es.cons (E.cst (T.int (Int.ofNat 4))) Es.nil))))) f23_4) (sA sc t3 m key [] .hole) = some (.nx, sA sc t5 m key L x6) := evS_for (evI_rng1 e4' (by omega)) e5
  have l0 : 0 < L.length := by omega
  have at0 := idx_sh l0
  generalize hr0 : rowAt (rws L) 0 = r0 at *
  have e6 : ev (pgOf R' 19) .e (E.op1 O1.list (E.frzp (E.idx (E.var 5) (E.cst (T.int (Int.ofNat 0)))) (E.idx (E.var 5) (E.cst (T.int (Int.ofNat 0)))))) (sA sc t5 m key L x6) = some (.lst true (r0.map strOf), sA sc t5 m key L x6) := by
    have h1 : ev (pgOf R' 19) .o (E.idx (E.var 5) (E.cst (T.int (Int.ofNat 0)))) (sA sc t5 m key L x6) = some (rowT L[0].1 r0, sA sc t5 m key L x6) := ev_idx_vc (i := 0) rfl at0
    have h2 : ev (pgOf R' 19) .o (E.frzp (E.idx (E.var 5) (E.cst (T.int (Int.ofNat 0)))) (E.idx (E.var 5) (E.cst (T.int (Int.ofNat 0))))) (sA sc t5 m key L x6) = some (rowT L[0].1 r0, sA sc t5 m key L x6) := by
      have : ∀ {A B : Pv.E} {sl : SL}, ev (pgOf R' 19) .o (E.frzp A B) sl = ev (pgOf R' 19) .o A sl := fun {A B sl} => by simp [ev]
      rw [this]; exact h1
    exact (ev_op1 h2 (op1_list (fsr r0))).trans rfl
  have ap := go_append (i := 5) (ts := shT L) rfl e6 rfl (by simp [shT]; omega)
  have em : shT L ++ [T.lst true (r0.map strOf)] = shT (L ++ [(true, r0)]) := by simp [shT]
  rw [em] at ap
  have s6 : evS (pgOf R' 19) (Pv.S.exp (E.mut 5 MK.append (Es.cons (E.op1 O1.list (E.frzp (E.idx (E.var 5) (E.cst (T.int (Int.ofNat 0)))) (E.idx (E.var 5) (E.cst (T.int (Int.ofNat 0)))))) Es.nil))) (sA sc t5 m key L x6) = some (.nx, sA sc t5 m key (L ++ [(true, r0)]) x6) := ap
  have s7 : evS (pgOf R' 19) (Pv.S.asg (G.one (G0.nm 7)) (E.op2 O2.sub (E.op1 O1.len (E.var 5)) (E.cst (T.int (Int.ofNat 1))))) (sA sc t5 m key (L ++ [(true, r0)]) x6) = some (.nx, [sc, t5, .int (m : Nat), .hole, rowT true key, .lst true (shT (L ++ [(true, r0)])), x6, .int (N : Nat), .hole, .hole, .hole, .hole, .hole, .hole, .hole, .hole, .hole]) := by
    refine (evS_asg1 (i := 7) (t := .int (N : Nat)) (sl1 := sA sc t5 m key (L ++ [(true, r0)]) x6) ?_).trans rfl
    have : (((L ++ [(true, r0)]).length : Nat) : Int) - 1 = (N : Int) := by rw [List.length_append, lL]; simp
    simp [ev, over, shT]
    simp at this
    omega
  obtain ⟨da, t6, ht6, da0, da1, e7⟩ := uDraw (sl := [sc, t5, .int (m : Nat), .hole, rowT true key, .lst true (shT (L ++ [(true, r0)])), x6, .int (N : Nat), .hole, .hole, .hole, .hole, .hole, .hole, .hole, .hole, .hole]) (m := 21) (md := .e) rfl ht5 (by decide) (by decide) (by decide)
  obtain ⟨db, t7, ht7, db0, db1, e8⟩ := uDraw (sl := [sc, t6, .int (m : Nat), .hole, rowT true key, .lst true (shT (L ++ [(true, r0)])), x6, .int (N : Nat), .hole, .hole, .hole, .hole, .hole, .hole, .hole, .hole, .hole]) (m := 21) (md := .e) rfl ht6 (by decide) (by decide) (by decide)
  have za := cLfrac (n := 16) i20 i19 i18 (a := da) (b := 20) (by decide) (by decide) (by omega)
  have zb := cLfrac (n := 16) i20 i19 i18 (a := db) (b := 20) (by decide) (by decide) (by omega)
  have ba : bq 6 ((da : Rat) / ((20 : Int) : Rat)) := bq_div (by decide) (by omega) (by decide)
  have bb : bq 6 ((db : Rat) / ((20 : Int) : Rat)) := bq_div (by decide) (by omega) (by decide)
  generalize (da : Rat) / ((20 : Int) : Rat) = qa at *
  generalize (db : Rat) / ((20 : Int) : Rat) = qb at *
  obtain ⟨o', zu⟩ := cUp (n := 17) i22 i21 (o := true) (xs := [qa, qb]) (m := 6) (fun x hx => by
    rcases List.mem_cons.mp hx with rfl | hx
    · exact ba
    · rw [List.mem_singleton.mp hx]; exact bb) (by decide) (by simp)
  obtain ⟨lo, hi, eu, hle, hlo, hhi⟩ := up2 qa qb
  rw [eu] at zu
  have blo : bq 6 lo := by rcases hlo with rfl | rfl <;> assumption
  have bhi : bq 6 hi := by rcases hhi with rfl | rfl <;> assumption
  have s8 : evS (pgOf R' 19) (Pv.S.asg (G.tp [(G0.nm 8), (G0.nm 9)]) (E.call 22 (Es.cons (E.lst (Es.cons (E.call 20 (Es.cons (E.call 16 (Es.cons (E.var 1) (Es.cons (E.cst (T.int (Int.ofNat 21))) Es.nil))) (Es.cons (E.cst (T.int (Int.ofNat 20))) Es.nil))) (Es.cons (E.call 20 (Es.cons (E.call 16 (Es.cons (E.var 1) (Es.cons (E.cst (T.int (Int.ofNat 21))) Es.nil))) (Es.cons (E.cst (T.int (Int.ofNat 20))) Es.nil))) Es.nil))) Es.nil))) [sc, t5, .int (m : Nat), .hole, rowT true key, .lst true (shT (L ++ [(true, r0)])), x6, .int (N : Nat), .hole, .hole, .hole, .hole, .hole, .hole, .hole, .hole, .hole] = some (.nx, sB sc t7 (.int (m : Nat)) .hole true key (.lst true (shT (L ++ [(true, r0)]))) x6 N lo hi .hole .hole .hole .hole .hole .hole .hole) := by
    have za' : (pgOf R' 19).cf 20 [.int da, .int 20] = some (fq qa, [.hole, .hole]) := za
    have zb' : (pgOf R' 19).cf 20 [.int db, .int 20] = some (fq qb, [.hole, .hole]) := zb
    have zu' : (pgOf R' 19).cf 22 [.lst true [fq qa, fq qb]] = some (.lst true [fq lo, fq hi], [.lst o' [fq qa, fq qb]]) := zu
    have cs : ∀ sl : SL, evA (pgOf R' 19) (Es.cons (E.cst (T.int (Int.ofNat 20))) Es.nil) sl = some ([.int 20], [none], sl) := fun sl => by simp [evA, ev]
    have f1 := go_call (evA_call e7 (cs _)) za' (m := .e) (by decide)
    have f2 := go_call (evA_call e8 (cs _)) zb' (m := .e) (by decide)
    have f3 : ev (pgOf R' 19) .e (E.lst (Es.cons (E.call 20 (Es.cons (E.call 16 (Es.cons (E.var 1) (Es.cons (E.cst (T.int (Int.ofNat 21))) Es.nil))) (Es.cons (E.cst (T.int (Int.ofNat 20))) Es.nil))) (Es.cons (E.call 20 (Es.cons (E.call 16 (Es.cons (E.var 1) (Es.cons (E.cst (T.int (Int.ofNat 21))) Es.nil))) (Es.cons (E.cst (T.int (Int.ofNat 20))) Es.nil))) Es.nil))) [sc, t5, .int (m : Nat), .hole, rowT true key, .lst true (shT (L ++ [(true, r0)])), x6, .int (N : Nat), .hole, .hole, .hole, .hole, .hole, .hole, .hole, .hole, .hole] = some (.lst true [fq qa, fq qb], [sc, t7, .int (m : Nat), .hole, rowT true key, .lst true (shT (L ++ [(true, r0)])), x6, .int (N : Nat), .hole, .hole, .hole, .hole, .hole, .hole, .hole, .hole, .hole]) := by
      have gen : ∀ {A B : Pv.E} {t u : T} {sl sl1 sl2 : SL}, ev (pgOf R' 19) .e A sl = some (t, sl1) → ev (pgOf R' 19) .e B sl1 = some (u, sl2) → ev (pgOf R' 19) .e (E.lst (Es.cons A (Es.cons B Es.nil))) sl = some (.lst true [t, u], sl2) := fun h1 h2 => by
        simp [ev, evL, h1, h2, okN_of]
      exact gen f1 f2
    have ha : evA (pgOf R' 19) (Es.cons (E.lst (Es.cons (E.call 20 (Es.cons (E.call 16 (Es.cons (E.var 1) (Es.cons (E.cst (T.int (Int.ofNat 21))) Es.nil))) (Es.cons (E.cst (T.int (Int.ofNat 20))) Es.nil))) (Es.cons (E.call 20 (Es.cons (E.call 16 (Es.cons (E.var 1) (Es.cons (E.cst (T.int (Int.ofNat 21))) Es.nil))) (Es.cons (E.cst (T.int (Int.ofNat 20))) Es.nil))) Es.nil))) Es.nil) [sc, t5, .int (m : Nat), .hole, rowT true key, .lst true (shT (L ++ [(true, r0)])), x6, .int (N : Nat), .hole, .hole, .hole, .hole, .hole, .hole, .hole, .hole, .hole] = some ([.lst true [fq qa, fq qb]], [none], [sc, t7, .int (m : Nat), .hole, rowT true key, .lst true (shT (L ++ [(true, r0)])), x6, .int (N : Nat), .hole, .hole, .hole, .hole, .hole, .hole, .hole, .hole, .hole]) := by
      simp only [evA]
      rw [f3]; rfl
    exact evS_asg (go_call ha zu' (m := .e) (by decide)) rfl
  have hS : IsSh (rws (L ++ [(true, r0)])) (.lst true (shT (L ++ [(true, r0)]))) := ⟨true, _, rfl, rfl⟩
  have lr : (rws (L ++ [(true, r0)])).length = N + 1 := by simp [rws, lL]
  have r0m : r0.length = m := by
    rw [← hr0]
    have := rowAt_mem (S := rws L) (i := 0) (by simpa [rws] using l0)
    obtain ⟨p, hp, e⟩ := List.mem_map.mp this
    rw [← e]; exact hL p hp
  have sht : Sht (rws (L ++ [(true, r0)])) key := ⟨fun r hr => by
      obtain ⟨p, hp, rfl⟩ := List.mem_map.mp hr
      rw [hk]
      rcases List.mem_append.mp hp with h | h
      · exact hL p h
      · rw [List.mem_singleton.mp h]; exact r0m, by rw [lr]; omega, by rw [hk]; omega⟩
  have cp : rowAt (rws (L ++ [(true, r0)])) N = rowAt (rws (L ++ [(true, r0)])) 0 := by
    have e : rws (L ++ [(true, r0)]) = rws L ++ [r0] := by simp [rws]
    have ll : (rws L).length = N := by simp [rws, lL]
    rw [e]
    unfold rowAt
    rw [List.getD_eq_getElem?_getD, List.getD_eq_getElem?_getD, List.getElem?_append_right (by omega), List.getElem?_append_left (by omega), ll, Nat.sub_self]
    rw [← hr0]
    unfold rowAt
    rw [List.getD_eq_getElem?_getD]
    cases (rws L)[0]? <;> rfl
  obtain ⟨sl', eB⟩ := stageB (ok := true) (sc := sc) (tp := t7) (im := .int (m : Nat)) (x3 := .hole) (x6 := x6) (N := N) (lo := lo) (hi := hi) hS sht lr.symm (by omega) cp blo bhi (by decide) hle
  refine ⟨_, runF_go (f := f23) (sl := sl') rfl ?_⟩
  show evSs (pgOf R' 19) (Ss.cons _ (Ss.cons _ (Ss.cons _ (Ss.cons _ (Ss.cons _ (Ss.cons _ (Ss.cons _ (Ss.cons _ tailB)))))))) [sc, .hole, .hole, .hole, .hole, .hole, .hole, .hole, .hole, .hole, .hole, .hole, .hole, .hole, .hole, .hole, .hole] = _
  rw [evSs_nx s1, evSs_nx s2]
  show evSs _ _ [sc, t2, .int (m : Nat), .hole, .hole, .hole, .hole, .hole, .hole, .hole, .hole, .hole, .hole, .hole, .hole, .hole, .hole] = _
  rw [evSs_nx s3]
  show evSs _ _ [sc, t3, .int (m : Nat), .hole, rowT true key, .hole, .hole, .hole, .hole, .hole, .hole, .hole, .hole, .hole, .hole, .hole, .hole] = _
  rw [evSs_nx s4, evSs_nx s5, evSs_nx s6, evSs_nx s7, evSs_nx s8]
  exact eB
end W96

open PySem PySem.W PySem.Calls PyProof.Rows
theorem PySem.Challenge.cw_fairmarks_k96_whole_suspicions_holds : PySem.Challenge.rw_fairmarks_k96_whole_suspicions.Holds := by
  w_on; o_law
  refine HandSHeadRun.head_imp (r := OpenLaw.row PySem.Challenge.rw_fairmarks_k96_whole_suspicions) (q := W96.vw) (H := W96.hk) (ob := Pv.obV W96.nh W96.S.fa W96.S.fn (Pv.exB W96.S.Γ)) (M := 3000) (loose := W96.loose) (d := HandSHeadRun.topDef (OpenLaw.row PySem.Challenge.rw_fairmarks_k96_whole_suspicions).prog 33) (kwd := []) (fun s => Pv.obV_eq s) W96.run
    (by kernel_rfl) (by kernel_rfl) (by kernel_rfl) (by rfl) (by first | assumption | decide +kernel) (by decide +kernel) ⟨rfl, rfl, rfl, rfl, rfl, by decide +kernel⟩ ?hw ?hc
  case hw => w_witness2
  case hc =>
    refine L2.walk_ofE (l := PySem.Challenge.rw_fairmarks_k96_whole_suspicions) (n := 63) (k := 40) (x := "script") (CX := L2.CX0) rfl (by decide) (by kernel_rfl) ⟨rfl, by decide, by decide⟩ ?F (fun _ _ _ _ z => z)
    intro w mg fa h Y G hmg0
    obtain ⟨K, KX, c⟩ := Y
    have hmg : mg ("law" : PySem.Str) = some (.ref fa) := by
      have e : (HandSHeadRun.topDef (OpenLaw.row PySem.Challenge.rw_fairmarks_k96_whole_suspicions).prog 33).name = ("law" : PySem.Str) := by kernel_rfl
      rw [← e]
      exact hmg0
    exact Pv.law_of (S := W96.S) (lw := W96.lawI) (d := W96.d23) (N := 20) KX G c W96.ok W96.sames rfl rfl (by rfl) hmg (by decide +kernel) fun ns _ => W96.main ns

