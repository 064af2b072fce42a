import PyProof.Rows.All
import Wide.All
import OpenK.AllK
import Wide.FinOn
import HandS.ForMost
import HandS.Codes
import HandS.NoneIn
import HandS.More
import HandS.SetFor
import HandS.SortInts
import HandS.IsInst
import HandS.Defaults
import HandS.Conv
import PySem.Challenge.RW_treesay_k55_lives_told
set_option Elab.async false
set_option linter.all false
set_option maxRecDepth 100000
set_option maxHeartbeats 4000000
/-! D1: trees, how a heap holds them, who owns what. -/
namespace Tr
open PySem PySem.Spec PyProof.Rows L2

/-- the kind of a node -/
inductive Kd where
  | lst | tup | rol | rot | dK (ks : List Key) | ins (c : Str) (ns : List Str)
/-- a value as a tree; o: owned by the one place where it stands -/
inductive T where
  | no | lf (v : V) | nd (o : Bool) (k : Kd) (xs : List T)

def sc : V → Bool
  | .ref _ => false
  | _ => true

mutual
def frz : T → T
  | .no => .no
  | .lf v => .lf v
  | .nd _ k xs => .nd false k (frzs xs)
def frzs : List T → List T
  | [] => []
  | t :: ts => frz t :: frzs ts
end
mutual
/-- nothing owned in it -/
def cln : T → Bool
  | .no => true
  | .lf _ => true
  | .nd o _ xs => !o && clns xs
def clns : List T → Bool
  | [] => true
  | t :: ts => cln t && clns ts
end
theorem frzs_map : ∀ ts : List T, frzs ts = ts.map frz
  | [] => rfl
  | t :: ts => by rw [frzs, frzs_map ts]; rfl
theorem clns_all : ∀ ts : List T, clns ts = ts.all cln
  | [] => rfl
  | t :: ts => by rw [clns, clns_all ts]; rfl

abbrev AS := Addr → Prop
def Dj (A B : AS) : Prop := ∀ x, A x → ¬ B x
def Cup (A B : AS) : AS := fun x => A x ∨ B x
def Emp : AS := fun _ => False
abbrev Mg := Str → Option Value

/-- what stands at an address is a node of kind k with these parts -/
def Cont (mg : Mg) : Kd → HO → List V → Prop
  | .lst, o, vs => o = .lst vs
  | .tup, o, vs => o = .tup vs
  | .dK ks, o, vs => ks.length = vs.length ∧ o = .dK (ks.zip vs)
  | .ins c ns, o, vs => ns.length = vs.length ∧ ∃ C dx, o = .ins C dx (ns.zip vs) ∧ mg c = some (.ref C)
  | _, _, _ => False

section
variable (K : PySem.W.Frag) (mg : Mg) (F H : Hp)
mutual
inductive Rep : V → T → AS → Prop
  | no {v : V} {S : AS} : (∀ x, ¬ S x) → Rep v .no S
  | lf {v : V} {S : AS} : sc v = true → (∀ x, ¬ S x) → Rep v (.lf v) S
  | own {a : Addr} {k : Kd} {o : HO} {vs : List V} {xs : List T} {S S0 : AS} : H a = some o → F a = none → Cont mg k o vs → Reps vs xs S0 → ¬ S0 a → (∀ x, S x ↔ x = a ∨ S0 x) → Rep (.ref a) (.nd true k xs) S
  | frz {a : Addr} {k : Kd} {o : HO} {vs : List V} {xs : List T} {S : AS} : F a = some o → Cont mg k o vs → Reps vs xs S → Rep (.ref a) (.nd false k xs) S
  | rol {a : Addr} {vs : List V} {xs : List T} {S : AS} : SqL K F a vs → Reps vs xs S → Rep (.ref a) (.nd false .rol xs) S
  | rot {a : Addr} {vs : List V} {xs : List T} {S : AS} : SqT K F a vs → Reps vs xs S → Rep (.ref a) (.nd false .rot xs) S
inductive Reps : List V → List T → AS → Prop
  | nil {S : AS} : (∀ x, ¬ S x) → Reps [] [] S
  | cons {v : V} {t : T} {vs : List V} {ts : List T} {S S1 S2 : AS} : Rep v t S1 → Reps vs ts S2 → Dj S1 S2 → (∀ x, S x ↔ S1 x ∨ S2 x) → Reps (v :: vs) (t :: ts) S
end
end

/-- every fact of F stands in H -/
def Le (F H : Hp) : Prop := ∀ a o, F a = some o → H a = some o
theorem Le.refl (F : Hp) : Le F F := fun _ _ h => h
theorem Le.trans {A B C : Hp} (h : Le A B) (k : Le B C) : Le A C := fun a o q => k a o (h a o q)
theorem Le.sqL {K : PySem.W.Frag} {F H : Hp} {a : Addr} {xs : List V} (e : Le F H) (h : SqL K F a xs) : SqL K H a xs := Same.seq e h
theorem Le.sqT {K : PySem.W.Frag} {F H : Hp} {a : Addr} {xs : List V} (e : Le F H) (h : SqT K F a xs) : SqT K H a xs := by
  rcases h with (h | ⟨o, h⟩) | h
  · exact .inl (.inl (e _ _ h))
  · exact .inl (.inr ⟨o, e _ _ h⟩)
  · exact .inr h
theorem Le.nn {F H : Hp} (e : Le F H) {a : Addr} (h : H a = none) : F a = none := by
  cases q : F a with
  | none => rfl
  | some o => rw [e a o q] at h; cases h

section
variable {K : PySem.W.Frag} {mg : Mg} {F H F' H' : Hp}
mutual
theorem Rep.frame (ff : Le F F') : ∀ {v : V} {t : T} {S : AS}, Rep K mg F H v t S → (∀ x, S x → H' x = H x ∧ F' x = none) → Rep K mg F' H' v t S
  | _, _, _, .no h, _ => .no h
  | _, _, _, .lf h h2, _ => .lf h h2
  | _, _, _, .own h1 h2 c r na hS, k => .own ((k _ ((hS _).mpr (.inl rfl))).1.trans h1) (k _ ((hS _).mpr (.inl rfl))).2 c (Reps.frame ff r fun x hx => k x ((hS x).mpr (.inr hx))) na hS
  | _, _, _, .frz h c r, k => .frz (ff _ _ h) c (Reps.frame ff r k)
  | _, _, _, .rol h r, k => .rol (ff.sqL h) (Reps.frame ff r k)
  | _, _, _, .rot h r, k => .rot (ff.sqT h) (Reps.frame ff r k)
theorem Reps.frame (ff : Le F F') : ∀ {vs : List V} {ts : List T} {S : AS}, Reps K mg F H vs ts S → (∀ x, S x → H' x = H x ∧ F' x = none) → Reps K mg F' H' vs ts S
  | _, _, _, .nil h, _ => .nil h
  | _, _, _, .cons r q d hS, k => .cons (Rep.frame ff r fun x hx => k x ((hS x).mpr (.inl hx))) (Reps.frame ff q fun x hx => k x ((hS x).mpr (.inr hx))) d hS
end
mutual
/-- the owned addresses stand, and are not frozen -/
theorem Rep.dom : ∀ {v : V} {t : T} {S : AS}, Rep K mg F H v t S → ∀ x, S x → (∃ o, H x = some o) ∧ F x = none
  | _, _, _, .no h, x, hx => (h x hx).elim
  | _, _, _, .lf _ h, x, hx => (h x hx).elim
  | _, _, _, .own h1 h2 _ r _ hS, x, hx => ((hS x).mp hx).elim (fun e => by subst e; exact ⟨⟨_, h1⟩, h2⟩) fun q => Reps.dom r x q
  | _, _, _, .frz _ _ r, x, hx => Reps.dom r x hx
  | _, _, _, .rol _ r, x, hx => Reps.dom r x hx
  | _, _, _, .rot _ r, x, hx => Reps.dom r x hx
theorem Reps.dom : ∀ {vs : List V} {ts : List T} {S : AS}, Reps K mg F H vs ts S → ∀ x, S x → (∃ o, H x = some o) ∧ F x = none
  | _, _, _, .nil h, x, hx => (h x hx).elim
  | _, _, _, .cons r q _ hS, x, hx => ((hS x).mp hx).elim (fun z => Rep.dom r x z) fun z => Reps.dom q x z
end
mutual
theorem Rep.clean : ∀ {v : V} {t : T} {S : AS}, Rep K mg F H v t S → cln t = true → ∀ x, ¬ S x
  | _, _, _, .no h, _ => h
  | _, _, _, .lf _ h, _ => h
  | _, _, _, .own .., c => by simp [cln] at c
  | _, _, _, .frz _ _ r, c => Reps.clean r (by simpa [cln] using c)
  | _, _, _, .rol _ r, c => Reps.clean r (by simpa [cln] using c)
  | _, _, _, .rot _ r, c => Reps.clean r (by simpa [cln] using c)
theorem Reps.clean : ∀ {vs : List V} {ts : List T} {S : AS}, Reps K mg F H vs ts S → clns ts = true → ∀ x, ¬ S x
  | _, _, _, .nil h, _ => h
  | _, _, _, .cons r q _ hS, c => by
    simp only [clns, Bool.and_eq_true] at c
    intro x hx
    exact ((hS x).mp hx).elim (Rep.clean r c.1 x) (Reps.clean q c.2 x)
end
mutual
/-- sharing: the owned addresses become frozen -/
theorem Rep.freeze (ff : Le F F') : ∀ {v : V} {t : T} {S S' : AS}, Rep K mg F H v t S → (∀ x, S x → F' x = H x) → (∀ x, ¬ S' x) → Rep K mg F' H' v (frz t) S'
  | _, _, _, _, .no _, _, e => by rw [frz]; exact .no e
  | _, _, _, _, .lf h _, _, e => by rw [frz]; exact .lf h e
  | _, _, _, _, .own h1 h2 c r _ hS, k, e => by
    rw [frz]
    exact .frz ((k _ ((hS _).mpr (.inl rfl))).trans h1) c (Reps.freeze ff r (fun x hx => k x ((hS x).mpr (.inr hx))) e)
  | _, _, _, _, .frz h c r, k, e => by rw [frz]; exact .frz (ff _ _ h) c (Reps.freeze ff r k e)
  | _, _, _, _, .rol h r, k, e => by rw [frz]; exact .rol (ff.sqL h) (Reps.freeze ff r k e)
  | _, _, _, _, .rot h r, k, e => by rw [frz]; exact .rot (ff.sqT h) (Reps.freeze ff r k e)
theorem Reps.freeze (ff : Le F F') : ∀ {vs : List V} {ts : List T} {S S' : AS}, Reps K mg F H vs ts S → (∀ x, S x → F' x = H x) → (∀ x, ¬ S' x) → Reps K mg F' H' vs (frzs ts) S'
  | _, _, _, _, .nil _, _, e => by rw [frzs]; exact .nil e
  | _, _, _, S', .cons r q _ hS, k, e => by
    rw [frzs]
    exact .cons (S1 := S') (S2 := S') (Rep.freeze ff r (fun x hx => k x ((hS x).mpr (.inl hx))) e) (Reps.freeze ff q (fun x hx => k x ((hS x).mpr (.inr hx))) e) (fun x hx => (e x hx).elim) (fun x => ⟨fun h => .inl h, fun h => h.elim id id⟩)
end
theorem Rep.iff {v : V} {t : T} {S S' : AS} (r : Rep K mg F H v t S) (h : ∀ x, S' x ↔ S x) : Rep K mg F H v t S' := by
  have e : S' = S := funext fun x => propext (h x)
  rw [e]; exact r
theorem Reps.iff {vs : List V} {ts : List T} {S S' : AS} (r : Reps K mg F H vs ts S) (h : ∀ x, S' x ↔ S x) : Reps K mg F H vs ts S' := by
  have e : S' = S := funext fun x => propext (h x)
  rw [e]; exact r
theorem Rep.clean0 {v : V} {t : T} {S : AS} (r : Rep K mg F H v t S) (c : cln t = true) : Rep K mg F H v t Emp :=
  r.iff fun x => ⟨fun z => z.elim, fun z => r.clean c x z⟩
theorem Reps.clean0 {vs : List V} {ts : List T} {S : AS} (r : Reps K mg F H vs ts S) (c : clns ts = true) : Reps K mg F H vs ts Emp :=
  r.iff fun x => ⟨fun z => z.elim, fun z => r.clean c x z⟩
/-- a clean tree outlives all -/
theorem Rep.stay {v : V} {t : T} {S : AS} (ff : Le F F') (r : Rep K mg F H v t S) (c : cln t = true) : Rep K mg F' H' v t Emp :=
  (r.clean0 c).frame ff fun _ z => z.elim
theorem Reps.stay {vs : List V} {ts : List T} {S : AS} (ff : Le F F') (r : Reps K mg F H vs ts S) (c : clns ts = true) : Reps K mg F' H' vs ts Emp :=
  (r.clean0 c).frame ff fun _ z => z.elim
theorem Reps.length {S : AS} : ∀ {vs : List V} {ts : List T} {S : AS}, Reps K mg F H vs ts S → vs.length = ts.length
  | _, _, _, .nil _ => rfl
  | _, _, _, .cons _ q _ _ => congrArg (· + 1) (Reps.length (S := S) q)
theorem Reps.get {vs : List V} {ts : List T} {S : AS} (r : Reps K mg F H vs ts S) : ∀ {i : Nat} {t : T}, ts[i]? = some t → ∃ v R, vs[i]? = some v ∧ Rep K mg F H v t R ∧ ∀ x, R x → S x := by
  intro i
  induction i generalizing vs ts S with
  | zero =>
    intro t h
    cases r with
    | nil _ => simp at h
    | cons r q d hS => simp at h; subst h; exact ⟨_, _, by simp, r, fun x z => (hS x).mpr (.inl z)⟩
  | succ i ih =>
    intro t h
    cases r with
    | nil _ => simp at h
    | cons r q d hS =>
      obtain ⟨v, R, h1, h2, h3⟩ := ih q (by simpa using h)
      exact ⟨v, R, by simpa using h1, h2, fun x z => (hS x).mpr (.inr (h3 x z))⟩
end

/-! ### a step of the heap -/
/-- from custody S to custody S' -/
structure Stp (F H : Hp) (S : AS) (F' H' : Hp) (S' : AS) : Prop where
  ff : Le F F'
  kp : ∀ a o, H a = some o → ¬ S a → H' a = some o
  nf : ∀ a o, F' a = some o → F a = some o ∨ S a ∨ H a = none
  no : ∀ a, S' a → S a ∨ H a = none
section
variable {F H F1 H1 F2 H2 : Hp} {S S1 S2 R : AS}
theorem Stp.refl : Stp F H S F H S := ⟨Le.refl _, fun _ _ h _ => h, fun _ _ h => .inl h, fun _ h => .inl h⟩
theorem Stp.weak (h : Stp F H S F1 H1 S1) (k : ∀ a, S2 a → S1 a) : Stp F H S F1 H1 S2 := ⟨h.ff, h.kp, h.nf, fun a z => h.no a (k a z)⟩
theorem Stp.nn (h : Stp F H S F1 H1 S1) {a : Addr} (hn : H1 a = none) : S a ∨ H a = none := by
  cases q : H a with
  | none => exact .inr rfl
  | some o =>
    refine Classical.byContradiction fun z => ?_
    have := h.kp a o q fun s => z (.inl s)
    rw [hn] at this; cases this
theorem Stp.trans (a : Stp F H S F1 H1 S1) (b : Stp F1 H1 S1 F2 H2 S2) : Stp F H S F2 H2 S2 where
  ff := a.ff.trans b.ff
  kp := fun x o h n => b.kp x o (a.kp x o h n) fun s => (a.no x s).elim n fun z => by rw [h] at z; cases z
  nf := fun x o h => by
    rcases b.nf x o h with h | h | h
    · exact a.nf x o h
    · exact .inr (a.no x h)
    · exact .inr (a.nn h)
  no := fun x h => by
    rcases b.no x h with h | h
    · exact a.no x h
    · exact a.nn h
/-- others' custody beside -/
theorem Stp.frame (a : Stp F H S F1 H1 S1) (R : AS) : Stp F H (Cup S R) F1 H1 (Cup S1 R) :=
  ⟨a.ff, fun x o h n => a.kp x o h fun s => n (.inl s), fun x o h => (a.nf x o h).elim .inl fun z => .inr (z.elim (fun s => .inl (.inl s)) .inr), fun x h => h.elim (fun z => (a.no x z).elim (fun s => .inl (.inl s)) .inr) fun z => .inl (.inr z)⟩
theorem Stp.frameL (a : Stp F H S F1 H1 S1) (R : AS) : Stp F H (Cup R S) F1 H1 (Cup R S1) :=
  ⟨a.ff, fun x o h n => a.kp x o h fun s => n (.inr s), fun x o h => (a.nf x o h).elim .inl fun z => .inr (z.elim (fun s => .inl (.inr s)) .inr), fun x h => h.elim (fun z => .inl (.inl z)) fun z => (a.no x z).elim (fun s => .inl (.inr s)) .inr⟩
theorem Stp.big (a : Stp F H S F1 H1 S1) {R : AS} (h : ∀ x, S x → R x) : Stp F H R F1 H1 S1 :=
  ⟨a.ff, fun x o q n => a.kp x o q fun s => n (h x s), fun x o q => (a.nf x o q).elim .inl fun z => .inr (z.elim (fun s => .inl (h x s)) .inr), fun x q => (a.no x q).elim (fun s => .inl (h x s)) .inr⟩
/-- what stands outside of the custody stays as it is -/
theorem Stp.keeps (a : Stp F H S F1 H1 S1) (hR : ∀ x, R x → (∃ o, H x = some o) ∧ F x = none) (d : Dj S R) : ∀ x, R x → H1 x = H x ∧ F1 x = none := fun x hx => by
  obtain ⟨⟨o, e⟩, f⟩ := hR x hx
  refine ⟨(a.kp x o e fun s => d x s hx).trans e.symm, ?_⟩
  cases q : F1 x with
  | none => rfl
  | some u =>
    rcases a.nf x u q with z | z | z
    · rw [f] at z; cases z
    · exact (d x z hx).elim
    · rw [e] at z; cases z
theorem Stp.dj (a : Stp F H S F1 H1 S1) (hR : ∀ x, R x → (∃ o, H x = some o)) (d : Dj S R) : Dj S1 R := fun x s r => by
  obtain ⟨o, e⟩ := hR x r
  rcases a.no x s with z | z
  · exact d x z r
  · rw [e] at z; cases z
end
theorem Rep.keep {K : PySem.W.Frag} {mg : Mg} {F H F1 H1 : Hp} {S S1 R : AS} {v : V} {t : T} (r : Rep K mg F H v t R) (a : Stp F H S F1 H1 S1) (d : Dj S R) : Rep K mg F1 H1 v t R :=
  r.frame a.ff (a.keeps r.dom d)
theorem Reps.keep {K : PySem.W.Frag} {mg : Mg} {F H F1 H1 : Hp} {S S1 R : AS} {vs : List V} {ts : List T} (r : Reps K mg F H vs ts R) (a : Stp F H S F1 H1 S1) (d : Dj S R) : Reps K mg F1 H1 vs ts R :=
  r.frame a.ff (a.keeps r.dom d)

/-! ### the slots -/
section
variable (K : PySem.W.Frag) (mg : Mg) (F H : Hp)
def RepO : Option V → T → AS → Prop
  | none, t, S => t = .no ∧ ∀ x, ¬ S x
  | some v, t, S => Rep K mg F H v t S
inductive StR : L2.St → List T → AS → Prop
  | nil {S : AS} : (∀ x, ¬ S x) → StR [] [] S
  | cons {s : Option V} {t : T} {σ : L2.St} {env : List T} {S S1 S2 : AS} : RepO K mg F H s t S1 → StR σ env S2 → Dj S1 S2 → (∀ x, S x ↔ S1 x ∨ S2 x) → StR (s :: σ) (t :: env) S
structure Ok (σ : L2.St) (env : List T) (S : AS) : Prop where
  le : Le F H
  st : StR K mg F H σ env S
end
section
variable {K : PySem.W.Frag} {mg : Mg} {F H F' H' : Hp} {σ : L2.St} {env : List T} {S S' R : AS}
theorem RepO.frame (ff : Le F F') {s : Option V} {t : T} (r : RepO K mg F H s t S) (k : ∀ x, S x → H' x = H x ∧ F' x = none) : RepO K mg F' H' s t S := by
  cases s with
  | none => exact r
  | some v => exact Rep.frame ff r k
theorem RepO.dom {s : Option V} {t : T} (r : RepO K mg F H s t S) : ∀ x, S x → (∃ o, H x = some o) ∧ F x = none := by
  cases s with
  | none => exact fun x h => (r.2 x h).elim
  | some v => exact Rep.dom r
theorem StR.dom (r : StR K mg F H σ env S) : ∀ x, S x → (∃ o, H x = some o) ∧ F x = none := by
  induction r with
  | nil h => exact fun x z => (h x z).elim
  | cons r _ _ hS ih => exact fun x z => ((hS x).mp z).elim (r.dom x) (ih x)
theorem StR.frame (ff : Le F F') (r : StR K mg F H σ env S) (k : ∀ x, S x → H' x = H x ∧ F' x = none) : StR K mg F' H' σ env S := by
  induction r with
  | nil h => exact .nil h
  | cons r _ d hS ih => exact .cons (r.frame ff fun x z => k x ((hS x).mpr (.inl z))) (ih fun x z => k x ((hS x).mpr (.inr z))) d hS
theorem StR.length (r : StR K mg F H σ env S) : σ.length = env.length := by
  induction r with
  | nil h => rfl
  | cons _ _ _ _ ih => simp [ih]
theorem StR.iff (r : StR K mg F H σ env S) (h : ∀ x, S' x ↔ S x) : StR K mg F H σ env S' := by
  have e : S' = S := funext fun x => propext (h x)
  rw [e]; exact r
/-- one slot taken out, and another thing put in -/
theorem StR.split (r : StR K mg F H σ env S) : ∀ {i : Nat} {t : T}, env[i]? = some t → ∃ s A B, σ[i]? = some s ∧ RepO K mg F H s t A ∧ Dj A B ∧ (∀ x, S x ↔ A x ∨ B x) ∧
    ∀ (F' H' : Hp) (s' : Option V) (t' : T) (A' : AS), Le F F' → (∀ x, B x → H' x = H x ∧ F' x = none) → RepO K mg F' H' s' t' A' → Dj A' B → StR K mg F' H' (σ.set i s') (env.set i t') (Cup A' B) := by
  induction r with
  | nil h => intro i t e; simp at e
  | @cons s0 t0 σ0 env0 S S1 S2 r q d hS ih =>
    intro i t e
    cases i with
    | zero =>
      simp at e
      subst e
      refine ⟨s0, S1, S2, rfl, r, d, hS, fun F' H' s' t' A' ff k r' d' => ?_⟩
      exact .cons r' (q.frame ff k) d' fun x => Iff.rfl
    | succ i =>
      obtain ⟨s, A, B, e1, e2, e3, e4, e5⟩ := ih (i := i) (t := t) (by simpa using e)
      refine ⟨s, A, Cup S1 B, by simpa using e1, e2, fun x ha hb => ?_, fun x => ?_, fun F' H' s' t' A' ff k r' d' => ?_⟩
      · exact hb.elim (fun z => d x z ((e4 x).mpr (.inl ha))) (e3 x ha)
      · rw [hS x, e4 x]; unfold Cup; constructor
        · rintro (h | h | h)
          · exact .inr (.inl h)
          · exact .inl h
          · exact .inr (.inr h)
        · rintro (h | h | h)
          · exact .inr (.inl h)
          · exact .inl h
          · exact .inr (.inr h)
      · refine .cons (S1 := S1) (S2 := Cup A' B) (r.frame ff fun x z => k x (.inl z)) (e5 F' H' s' t' A' ff (fun x z => k x (.inr z)) r' fun x a b => d' x a (.inr b)) (fun x a b => ?_) fun x => ?_
        · exact b.elim (fun z => d' x z (.inl a)) fun z => d x a ((e4 x).mpr (.inr z))
        · unfold Cup; constructor
          · rintro (h | h | h)
            · exact .inr (.inl h)
            · exact .inl h
            · exact .inr (.inr h)
          · rintro (h | h | h)
            · exact .inr (.inl h)
            · exact .inl h
            · exact .inr (.inr h)
theorem Ok.keep {S1 S2 : AS} {F1 H1 : Hp} (o : Ok K mg F H σ env S) (a : Stp F H S1 F1 H1 S2) (d : Dj S1 S) (le : Le F1 H1) : Ok K mg F1 H1 σ env S :=
  ⟨le, o.st.frame a.ff (a.keeps o.st.dom d)⟩
theorem set_self' {α : Type} : ∀ {l : List α} {i : Nat} {a : α}, l[i]? = some a → l.set i a = l
  | [], _, _, h => by simp at h
  | x :: l, 0, a, h => by simp at h; subst h; rfl
  | x :: l, i + 1, a, h => by
    show x :: l.set i a = x :: l
    rw [set_self' (by simpa using h)]
end
theorem dj_emp {A : AS} : Dj A Emp := fun _ _ h => h
theorem emp_dj {A : AS} : Dj Emp A := fun _ h _ => h
theorem Dj.symm {A B : AS} (h : Dj A B) : Dj B A := fun x b a => h x a b
end Tr


set_option Elab.async false
set_option linter.all false
set_option maxRecDepth 100000
set_option maxHeartbeats 4000000
/-! D2: judgements over trees; names, constants, operators by values. -/
namespace Tr
open PySem PySem.Spec PyProof.Rows L2

abbrev DV := List T → Option T
abbrev DE := List T → Option (T × List T)
section
variable (K : PySem.W.Frag) (mg : Mg)
/-- a view: nothing changes -/
def tV (d : DV) : TE := fun σ H Q => ∃ F env S t, Ok K mg F H σ env S ∧ d env = some t ∧ ∀ v R, Rep K mg F H v t R → Q v H
/-- read only: the value may lean on the slots -/
def tR (d : DE) : TE := fun σ H Q => ∃ F env S t env', Ok K mg F H σ env S ∧ d env = some (t, env') ∧
  ∀ v F' H' S' R, Stp F H S F' H' S' → Ok K mg F' H' σ env' S' → Rep K mg F' H' v t R → Q v H'
/-- a value of one's own -/
def tE (d : DE) : TE := fun σ H Q => ∃ F env S t env', Ok K mg F H σ env S ∧ d env = some (t, env') ∧
  ∀ v F' H' S' R, Stp F H S F' H' (Cup S' R) → Ok K mg F' H' σ env' S' → Rep K mg F' H' v t R → Dj S' R → Q v H'
end
def SV (X : Cx) (e : Expr) (d : DV) : Prop := PE X e (tV X.K X.mg d)
def SR (X : Cx) (e : Expr) (d : DE) : Prop := PE X e (tR X.K X.mg d)
def SE (X : Cx) (e : Expr) (d : DE) : Prop := PE X e (tE X.K X.mg d)
def ST (X : Cx) (e : Expr) (d : DE) : Prop := PT X e (tTest (tR X.K X.mg d))
theorem pew {X : Cx} {e : Expr} {t t' : TE} (h : PE X e t) (i : ∀ σ H Q, t' σ H Q → t σ H Q) : PE X e t' := ⟨fun pins s σ H Q I q => h.run pins s σ H Q I (i σ H Q q)⟩
theorem ptw {X : Cx} {e : Expr} {t t' : TT} (h : PT X e t) (i : ∀ σ H Q, t' σ H Q → t σ H Q) : PT X e t' := ⟨fun pins s σ H Q I q => h.run pins s σ H Q I (i σ H Q q)⟩

def vr (d : DV) : DE := fun env => (d env).map fun t => (t, env)
def re (d : DE) : DE := fun env => match d env with
  | some (t, e) => if cln t = true then some (t, e) else none
  | none => none
section
variable {K : PySem.W.Frag} {mg : Mg} {d : DV} {de : DE} {σ : L2.St} {H : Hp} {Q : VK}
theorem vr_some {env : List T} {t : T} {e : List T} (h : vr d env = some (t, e)) : d env = some t ∧ e = env := by
  unfold vr at h
  cases q : d env with
  | none => rw [q] at h; cases h
  | some u => rw [q] at h; cases h; exact ⟨rfl, rfl⟩
theorem re_some {env : List T} {t : T} {e : List T} (h : re de env = some (t, e)) : de env = some (t, e) ∧ cln t = true := by
  unfold re at h
  cases q : de env with
  | none => rw [q] at h; cases h
  | some u =>
    obtain ⟨u1, u2⟩ := u
    rw [q] at h
    by_cases c : cln u1 = true
    · simp only [c, if_true, Option.some.injEq, Prod.mk.injEq] at h
      obtain ⟨rfl, rfl⟩ := h
      exact ⟨rfl, c⟩
    · simp only [c] at h; cases h
theorem vr_imp (h : tR K mg (vr d) σ H Q) : tV K mg d σ H Q := by
  obtain ⟨F, env, S, t, e, ok, hd, q⟩ := h
  obtain ⟨h1, rfl⟩ := vr_some hd
  exact ⟨F, e, S, t, ok, h1, fun v R r => q v F H S R .refl ok r⟩
theorem er_imp (h : tR K mg de σ H Q) : tE K mg de σ H Q := by
  obtain ⟨F, env, S, t, e, ok, hd, q⟩ := h
  exact ⟨F, env, S, t, e, ok, hd, fun v F' H' S' R st ok' r _ => q v F' H' S' R (st.weak fun _ z => .inl z) ok' r⟩
theorem re_imp (h : tE K mg (re de) σ H Q) : tR K mg de σ H Q := by
  obtain ⟨F, env, S, t, e, ok, hd, q⟩ := h
  obtain ⟨h1, c⟩ := re_some hd
  exact ⟨F, env, S, t, e, ok, h1, fun v F' H' S' R st ok' r => q v F' H' S' Emp (st.weak fun _ z => z.elim id fun z => z.elim) ok' (r.clean0 c) dj_emp⟩
end
theorem SV.r {X : Cx} {e : Expr} {d : DV} (h : SV X e d) : SR X e (vr d) := pew h fun _ _ _ => vr_imp
theorem SE.r {X : Cx} {e : Expr} {d : DE} (h : SE X e d) : SR X e d := pew h fun _ _ _ => er_imp
theorem SR.e {X : Cx} {e : Expr} {d : DE} (h : SR X e d) : SE X e (re d) := pew h fun _ _ _ => re_imp
theorem SV.e {X : Cx} {e : Expr} {d : DV} (h : SV X e d) : SE X e (re (vr d)) := h.r.e
/-- as a test, where the test is by its value -/
theorem ST.val {X : Cx} {e : Expr} {d : DE} (h : SR X e d) (he : ∀ whole, isTrue e X.env whole = (do let v ← whole; standAt e.pos; holding [v] (truthy v)) := by intro _; rfl) : ST X e d :=
  ptw (pt_val h he) fun _ _ _ z => z

/-! ### names, constants -/
def gC (v : V) : DV := fun _ => some (.lf v)
def gG (t : T) : DV := fun _ => some t
def gV (i : Nat) : DV := fun env => match env[i]? with
  | some .no => none
  | some t => some t
  | none => none
def gM (i : Nat) : DE := fun env => match gV i env with
  | some t => some (t, env.set i .no)
  | none => none
def gS (i : Nat) : DE := fun env => match gV i env with
  | some t => some (frz t, env.set i (frz t))
  | none => none
theorem gV_some {i : Nat} {env : List T} {t : T} (h : gV i env = some t) : env[i]? = some t ∧ t ≠ .no := by
  unfold gV at h
  split at h
  · cases h
  · rename_i t' hne e
    cases h
    exact ⟨e, fun z => hne z⟩
  · cases h
section
variable {X : Cx} {i : Nat} {x : Str} {pos : Pos}
theorem sv_int {n : Int} {j : Nat} : SV X (.Constant (.int n) j pos) (gC (.int n)) := pew pe_int fun _ _ _ ⟨_, _, _, _, ok, h, q⟩ => q _ Emp (by cases h; exact .lf rfl fun _ z => z)
theorem sv_bl {n : Bool} {j : Nat} : SV X (.Constant (.bool n) j pos) (gC (.bl n)) := pew pe_bl fun _ _ _ ⟨_, _, _, _, ok, h, q⟩ => q _ Emp (by cases h; exact .lf rfl fun _ z => z)
theorem sv_non {j : Nat} : SV X (.Constant .none j pos) (gC .non) := pew pe_non fun _ _ _ ⟨_, _, _, _, ok, h, q⟩ => q _ Emp (by cases h; exact .lf rfl fun _ z => z)
theorem sv_str {n : Str} {j : Nat} : SV X (.Constant (.str n) j pos) (gC (.str n)) := pew pe_str fun _ _ _ ⟨_, _, _, _, ok, h, q⟩ => q _ Emp (by cases h; exact .lf rfl fun _ z => z)
theorem sv_glob {v : V} {u : Value} {t : T} (hg : Gl X x) (hm : X.mg x = some u) (r : RelV v u) (hr : ∀ F H, Rep X.K X.mg F H v t Emp) (hd : (x == ("__debug__" : Str)) = false := by decide) : SV X (.Name x pos) (gG t) :=
  pew (pe_glob hg hm r hd) fun _ _ _ ⟨_, _, _, _, ok, h, q⟩ => q _ Emp (by cases h; exact hr _ _)
theorem StR.slot {K : PySem.W.Frag} {mg : Mg} {F H : Hp} {σ : L2.St} {env : List T} {S : AS} (r : StR K mg F H σ env S) {t : T} (h : env[i]? = some t) (hn : t ≠ .no) :
    ∃ v A B, σ[i]? = some (some v) ∧ Rep K mg F H v t A ∧ Dj A B ∧ (∀ x, S x ↔ A x ∨ B x) ∧
    ∀ (F' H' : Hp) (s' : Option V) (t' : T) (A' : AS), Le F F' → (∀ x, B x → H' x = H x ∧ F' x = none) → RepO K mg F' H' s' t' A' → Dj A' B → StR K mg F' H' (σ.set i s') (env.set i t') (Cup A' B) := by
  obtain ⟨s, A, B, h1, h2, h3, h4, h5⟩ := r.split h
  cases s with
  | none => exact (hn h2.1).elim
  | some v => exact ⟨v, A, B, h1, h2, h3, h4, h5⟩
theorem sv_name (hN : X.N[i]? = some x := by rfl) (hv : Vis X.env.scope x := by first | exact Or.inl rfl | exact Or.inr (Or.inl rfl) | exact Or.inr (Or.inr rfl)) (hd : (x == ("__debug__" : Str)) = false := by decide)
    (hcd : (x == ("__classdict__" : Str)) = false := by decide) : SV X (.Name x pos) (gV i) := pew (pe_var hN hv hd hcd) fun σ H Q ⟨F, env, S, t, ok, h, q⟩ => by
  obtain ⟨h1, h2⟩ := gV_some h
  obtain ⟨v, A, B, e, r, _⟩ := ok.st.slot h1 h2
  exact ⟨v, e, q v A r⟩
theorem se_move (hN : X.N[i]? = some x := by rfl) (hv : Vis X.env.scope x := by first | exact Or.inl rfl | exact Or.inr (Or.inl rfl) | exact Or.inr (Or.inr rfl)) (hd : (x == ("__debug__" : Str)) = false := by decide)
    (hcd : (x == ("__classdict__" : Str)) = false := by decide) : SE X (.Name x pos) (gM i) := pew (pe_var hN hv hd hcd) fun σ H Q ⟨F, env, S, t, env', ok, h, q⟩ => by
  unfold gM at h
  cases e1 : gV i env with
  | none => rw [e1] at h; cases h
  | some t' =>
    rw [e1] at h; cases h
    obtain ⟨h1, h2⟩ := gV_some e1
    obtain ⟨v, A, B, e, r, d, hS, rest⟩ := ok.st.slot h1 h2
    refine ⟨v, e, q v F H (Cup Emp B) A ⟨Le.refl _, fun _ _ z _ => z, fun _ _ z => .inl z, fun y z => .inl ((hS y).mpr ?_)⟩ ⟨ok.le, ?_⟩ r fun y z a => ?_⟩
    · exact z.elim (fun z => .inr (z.elim (fun z => z.elim) id)) .inl
    · have := rest F H (some v) .no Emp (Le.refl _) (fun y z => ⟨rfl, (ok.st.dom y ((hS y).mpr (.inr z))).2⟩) (.no fun _ z => z) emp_dj
      rwa [set_self' e] at this
    · exact z.elim (fun z => z.elim) fun z => d y a z
open Classical in
/-- the frozen part with more of the heap -/
noncomputable def frF (F H : Hp) (A : AS) : Hp := fun a => if A a then H a else F a
theorem frF_le {F H : Hp} {A : AS} (h : Le F H) : Le F (frF F H A) ∧ Le (frF F H A) H := by
  constructor
  · intro a o e
    unfold frF
    split
    · exact h a o e
    · exact e
  · intro a o e
    unfold frF at e
    split at e
    · exact e
    · exact h a o e
theorem frF_in {F H : Hp} {A : AS} {a : Addr} (h : A a) : frF F H A a = H a := by unfold frF; rw [if_pos h]
theorem frF_out {F H : Hp} {A : AS} {a : Addr} (h : ¬ A a) : frF F H A a = F a := by unfold frF; rw [if_neg h]
theorem frF_stp {F H : Hp} {A S S' : AS} (le : Le F H) (h : ∀ x, A x → S x) (h' : ∀ x, S' x → S x) : Stp F H S (frF F H A) H S' :=
  ⟨(frF_le le).1, fun _ _ z _ => z, fun a o z => by
    by_cases c : A a
    · exact .inr (.inl (h a c))
    · rw [frF_out c] at z; exact .inl z, fun a z => .inl (h' a z)⟩
theorem se_share (hN : X.N[i]? = some x := by rfl) (hv : Vis X.env.scope x := by first | exact Or.inl rfl | exact Or.inr (Or.inl rfl) | exact Or.inr (Or.inr rfl)) (hd : (x == ("__debug__" : Str)) = false := by decide)
    (hcd : (x == ("__classdict__" : Str)) = false := by decide) : SE X (.Name x pos) (gS i) := pew (pe_var hN hv hd hcd) fun σ H Q ⟨F, env, S, t, env', ok, h, q⟩ => by
  unfold gS at h
  cases e1 : gV i env with
  | none => rw [e1] at h; cases h
  | some t' =>
    rw [e1] at h; cases h
    obtain ⟨h1, h2⟩ := gV_some e1
    obtain ⟨v, A, B, e, r, d, hS, rest⟩ := ok.st.slot h1 h2
    have ff := frF_le (A := A) ok.le
    have r' : Rep X.K X.mg (frF F H A) H v (frz t') Emp := r.freeze ff.1 (fun y z => frF_in z) fun _ z => z
    refine ⟨v, e, q v (frF F H A) H (Cup Emp B) Emp (frF_stp ok.le (fun y z => (hS y).mpr (.inl z)) fun y z => (hS y).mpr ?_) ⟨ff.2, ?_⟩ r' dj_emp⟩
    · exact .inr (z.elim (fun z => z.elim (fun z => z.elim) id) fun z => z.elim)
    · have := rest (frF F H A) H (some v) (frz t') Emp ff.1 (fun y z => ⟨rfl, by rw [frF_out fun a => d y a z]; exact (ok.st.dom y ((hS y).mpr (.inr z))).2⟩) r' emp_dj
      rwa [set_self' e] at this
end

/-! ### operators by values -/
section
variable (K : PySem.W.Frag) (mg : Mg)
def Op1V (r : V → Hp → VK → Prop) (o : T → Option T) : Prop := ∀ (F H : Hp) (x : V) (t : T) (R : AS) (u : T) (Q : VK), Le F H → Rep K mg F H x t R → o t = some u → (∀ v R', Rep K mg F H v u R' → Q v H) → r x H Q
def Op2V (r : R2) (o : T → T → Option T) : Prop := ∀ (F H : Hp) (x y : V) (t s : T) (R R2 : AS) (u : T) (Q : VK), Le F H → Rep K mg F H x t R → Rep K mg F H y s R2 → o t s = some u → (∀ v R', Rep K mg F H v u R' → Q v H) → r x y H Q
def Op1E (r : V → Hp → VK → Prop) (o : T → Option T) : Prop := ∀ (F H : Hp) (x : V) (t : T) (R : AS) (u : T) (Q : VK), Le F H → Rep K mg F H x t R → o t = some u →
  (∀ v F' H' R', Stp F H Emp F' H' R' → Le F' H' → Rep K mg F' H' v u R' → Q v H') → r x H Q
def Op2E (r : R2) (o : T → T → Option T) : Prop := ∀ (F H : Hp) (x y : V) (t s : T) (R R2 : AS) (u : T) (Q : VK), Le F H → Rep K mg F H x t R → Rep K mg F H y s R2 → o t s = some u →
  (∀ v F' H' R', Stp F H Emp F' H' R' → Le F' H' → Rep K mg F' H' v u R' → Q v H') → r x y H Q
end
def o1V (o : T → Option T) (d : DV) : DV := fun env => (d env).bind o
def o1 (o : T → Option T) (d : DE) : DE := fun env => (d env).bind fun p => (o p.1).map fun u => (u, p.2)
def o2V (o : T → T → Option T) (da db : DV) : DV := fun env => (da env).bind fun t => (db env).bind fun s => o t s
/-- the second one a view -/
def o2v (o : T → T → Option T) (da : DE) (db : DV) : DE := fun env => (da env).bind fun p => (db p.2).bind fun s => (o p.1 s).map fun u => (u, p.2)
/-- the first one has nothing owned -/
def o2c (o : T → T → Option T) (da db : DE) : DE := fun env => (da env).bind fun p => (db p.2).bind fun q => if cln p.1 = true then (o p.1 q.1).map fun u => (u, q.2) else none
/-- the first one is one's own -/
def o2o (o : T → T → Option T) (da db : DE) : DE := fun env => (da env).bind fun p => (db p.2).bind fun q => (o p.1 q.1).map fun u => (u, q.2)
section
variable {K : PySem.W.Frag} {mg : Mg} {o : T → Option T} {p : T → T → Option T} {d da db : DE} {v va vb : DV} {r1 : V → Hp → VK → Prop} {r : R2} {σ : L2.St} {H : Hp} {Q : VK}
theorem i1V (h : Op1V K mg r1 o) (q : tV K mg (o1V o v) σ H Q) : tV K mg v σ H fun x H1 => r1 x H1 Q := by
  obtain ⟨F, env, S, t, ok, hd, q⟩ := q
  obtain ⟨x, h1, h2⟩ := Option.bind_eq_some_iff.mp hd
  exact ⟨F, env, S, x, ok, h1, fun v R r => h F H v x R t Q ok.le r h2 q⟩
theorem i1R (h : Op1V K mg r1 o) (q : tR K mg (o1 o d) σ H Q) : tR K mg d σ H fun x H1 => r1 x H1 Q := by
  obtain ⟨F, env, S, t, env', ok, hd, q⟩ := q
  obtain ⟨⟨x, e⟩, h1, h2⟩ := Option.bind_eq_some_iff.mp hd
  obtain ⟨u, h3, h4⟩ := Option.map_eq_some_iff.mp h2
  cases h4
  exact ⟨F, env, S, x, _, ok, h1, fun v F' H' S' R st ok' r => h F' H' v x R _ Q ok'.le r h3 fun v' R' r' => q v' F' H' S' R' st ok' r'⟩
/-- behind a read: a new thing beside the slots -/
theorem fin_new {F F1 F2 H1 H2 : Hp} {env : List T} {S S1 R' : AS} (st : Stp F H S F1 H1 S1) (ok : Ok K mg F1 H1 σ env S1) (st2 : Stp F1 H1 Emp F2 H2 R') (le : Le F2 H2) :
    Stp F H S F2 H2 (Cup S1 R') ∧ Ok K mg F2 H2 σ env S1 ∧ Dj S1 R' := by
  refine ⟨st.trans ⟨st2.ff, fun a o h n => st2.kp a o h fun z => z, fun a o h => (st2.nf a o h).elim .inl fun z => z.elim (fun z => z.elim) fun z => .inr (.inr z), fun a h => h.elim (fun z => .inl z) fun z => (st2.no a z).elim (fun z => z.elim) .inr⟩,
    ok.keep st2 emp_dj le, fun a s z => ?_⟩
  obtain ⟨⟨o, e⟩, _⟩ := ok.st.dom a s
  exact (st2.no a z).elim (fun z => z.elim) fun z => by rw [e] at z; cases z
theorem i1E (h : Op1E K mg r1 o) (q : tE K mg (o1 o d) σ H Q) : tR K mg d σ H fun x H1 => r1 x H1 Q := by
  obtain ⟨F, env, S, t, env', ok, hd, q⟩ := q
  obtain ⟨⟨x, e⟩, h1, h2⟩ := Option.bind_eq_some_iff.mp hd
  obtain ⟨u, h3, h4⟩ := Option.map_eq_some_iff.mp h2
  cases h4
  refine ⟨F, env, S, x, _, ok, h1, fun v F' H' S' R st ok' r => h F' H' v x R _ Q ok'.le r h3 fun v' F2 H2 R' st2 le2 r' => ?_⟩
  obtain ⟨a, b, c⟩ := fin_new st ok' st2 le2
  exact q v' F2 H2 S' R' a b r' c
theorem i2V (h : Op2V K mg r p) (q : tV K mg (o2V p va vb) σ H Q) : tOp r (tV K mg va) (tV K mg vb) σ H Q := by
  obtain ⟨F, env, S, t, ok, hd, q⟩ := q
  obtain ⟨x, h1, h2⟩ := Option.bind_eq_some_iff.mp hd
  obtain ⟨y, h3, h4⟩ := Option.bind_eq_some_iff.mp h2
  exact ⟨F, env, S, x, ok, h1, fun v R r => ⟨F, env, S, y, ok, h3, fun w R' r' => h F H v w x y R R' t Q ok.le r r' h4 q⟩⟩
theorem o2v_some {env : List T} {t : T} {e : List T} (h : o2v p da vb env = some (t, e)) : ∃ x y, da env = some (x, e) ∧ vb e = some y ∧ p x y = some t := by
  obtain ⟨⟨x, e1⟩, h1, h2⟩ := Option.bind_eq_some_iff.mp h
  obtain ⟨y, h3, h4⟩ := Option.bind_eq_some_iff.mp h2
  obtain ⟨u, h5, h6⟩ := Option.map_eq_some_iff.mp h4
  cases h6
  exact ⟨x, y, h1, h3, h5⟩
theorem o2o_some {env : List T} {t : T} {e : List T} (h : o2o p da db env = some (t, e)) : ∃ x e1 y, da env = some (x, e1) ∧ db e1 = some (y, e) ∧ p x y = some t := by
  obtain ⟨⟨x, e1⟩, h1, h2⟩ := Option.bind_eq_some_iff.mp h
  obtain ⟨⟨y, e2⟩, h3, h4⟩ := Option.bind_eq_some_iff.mp h2
  obtain ⟨u, h5, h6⟩ := Option.map_eq_some_iff.mp h4
  cases h6
  exact ⟨x, e1, y, h1, h3, h5⟩
theorem o2c_some {env : List T} {t : T} {e : List T} (h : o2c p da db env = some (t, e)) : ∃ x e1 y, da env = some (x, e1) ∧ db e1 = some (y, e) ∧ cln x = true ∧ p x y = some t := by
  obtain ⟨⟨x, e1⟩, h1, h2⟩ := Option.bind_eq_some_iff.mp h
  obtain ⟨⟨y, e2⟩, h3, h4⟩ := Option.bind_eq_some_iff.mp h2
  by_cases c : cln x = true
  · simp only [c, if_true] at h4
    obtain ⟨u, h5, h6⟩ := Option.map_eq_some_iff.mp h4
    cases h6
    exact ⟨x, e1, y, h1, h3, c, h5⟩
  · simp only [c] at h4; cases h4
theorem i2v (h : Op2V K mg r p) (q : tR K mg (o2v p da vb) σ H Q) : tOp r (tR K mg da) (tV K mg vb) σ H Q := by
  obtain ⟨F, env, S, t, env', ok, hd, q⟩ := q
  obtain ⟨x, y, h1, h3, h4⟩ := o2v_some hd
  exact ⟨F, env, S, x, _, ok, h1, fun v F1 H1 S1 R st ok1 r => ⟨F1, env', S1, y, ok1, h3, fun w R' r' => h F1 H1 v w x y R R' t Q ok1.le r r' h4 fun v' R'' r'' => q v' F1 H1 S1 R'' st ok1 r''⟩⟩
theorem i2vE (h : Op2E K mg r p) (q : tE K mg (o2v p da vb) σ H Q) : tOp r (tR K mg da) (tV K mg vb) σ H Q := by
  obtain ⟨F, env, S, t, env', ok, hd, q⟩ := q
  obtain ⟨x, y, h1, h3, h4⟩ := o2v_some hd
  refine ⟨F, env, S, x, _, ok, h1, fun v F1 H1 S1 R st ok1 r => ⟨F1, env', S1, y, ok1, h3, fun w R' r' => h F1 H1 v w x y R R' t Q ok1.le r r' h4 fun v' F2 H2 R'' st2 le2 r'' => ?_⟩⟩
  obtain ⟨a, b, c⟩ := fin_new st ok1 st2 le2
  exact q v' F2 H2 S1 R'' a b r'' c
theorem i2c (h : Op2V K mg r p) (q : tR K mg (o2c p da db) σ H Q) : tOp r (tR K mg da) (tR K mg db) σ H Q := by
  obtain ⟨F, env, S, t, env', ok, hd, q⟩ := q
  obtain ⟨x, e1, y, h1, h3, c, h4⟩ := o2c_some hd
  refine ⟨F, env, S, x, _, ok, h1, fun v F1 H1 S1 R st ok1 r => ⟨F1, e1, S1, y, _, ok1, h3, fun w F2 H2 S2 R' st2 ok2 r' => ?_⟩⟩
  exact h F2 H2 v w x y Emp R' t Q ok2.le (r.stay st2.ff c) r' h4 fun v' R'' r'' => q v' F2 H2 S2 R'' (st.trans st2) ok2 r''
theorem i2cE (h : Op2E K mg r p) (q : tE K mg (o2c p da db) σ H Q) : tOp r (tR K mg da) (tR K mg db) σ H Q := by
  obtain ⟨F, env, S, t, env', ok, hd, q⟩ := q
  obtain ⟨x, e1, y, h1, h3, c, h4⟩ := o2c_some hd
  refine ⟨F, env, S, x, _, ok, h1, fun v F1 H1 S1 R st ok1 r => ⟨F1, e1, S1, y, _, ok1, h3, fun w F2 H2 S2 R' st2 ok2 r' => ?_⟩⟩
  refine h F2 H2 v w x y Emp R' t Q ok2.le (r.stay st2.ff c) r' h4 fun v' F3 H3 R'' st3 le3 r'' => ?_
  obtain ⟨a, b, c⟩ := fin_new (st.trans st2) ok2 st3 le3
  exact q v' F3 H3 S2 R'' a b r'' c
theorem i2o (h : Op2V K mg r p) (q : tR K mg (o2o p da db) σ H Q) : tOp r (tE K mg da) (tR K mg db) σ H Q := by
  obtain ⟨F, env, S, t, env', ok, hd, q⟩ := q
  obtain ⟨x, e1, y, h1, h3, h4⟩ := o2o_some hd
  refine ⟨F, env, S, x, _, ok, h1, fun v F1 H1 S1 R st ok1 r dj => ⟨F1, e1, S1, y, _, ok1, h3, fun w F2 H2 S2 R' st2 ok2 r' => ?_⟩⟩
  exact h F2 H2 v w x y R R' t Q ok2.le (r.keep st2 dj) r' h4 fun v' R'' r'' => q v' F2 H2 S2 R'' ((st.weak fun _ z => .inl z).trans st2) ok2 r''
theorem i2oE (h : Op2E K mg r p) (q : tE K mg (o2o p da db) σ H Q) : tOp r (tE K mg da) (tR K mg db) σ H Q := by
  obtain ⟨F, env, S, t, env', ok, hd, q⟩ := q
  obtain ⟨x, e1, y, h1, h3, h4⟩ := o2o_some hd
  refine ⟨F, env, S, x, _, ok, h1, fun v F1 H1 S1 R st ok1 r dj => ⟨F1, e1, S1, y, _, ok1, h3, fun w F2 H2 S2 R' st2 ok2 r' => ?_⟩⟩
  refine h F2 H2 v w x y R R' t Q ok2.le (r.keep st2 dj) r' h4 fun v' F3 H3 R'' st3 le3 r'' => ?_
  obtain ⟨a, b, c⟩ := fin_new ((st.weak fun _ z => .inl z).trans st2) ok2 st3 le3
  exact q v' F3 H3 S2 R'' a b r'' c
end
end Tr


set_option Elab.async false
set_option linter.all false
set_option maxRecDepth 100000
set_option maxHeartbeats 4000000
/-! D3: operators over trees. -/
namespace Tr
open PySem PySem.Spec PyProof.Rows L2

section
variable {K : PySem.W.Frag} {mg : Mg} {F H : Hp} {v w : V} {t : T} {R : AS}
theorem Rep.lf_inv (r : Rep K mg F H v (.lf w) R) : v = w ∧ sc w = true ∧ ∀ x, ¬ R x := by
  cases r with
  | lf h k => exact ⟨rfl, h, k⟩
def Here (K : PySem.W.Frag) (mg : Mg) (H : Hp) (a : Addr) : Kd → List V → Prop
  | .lst, vs => H a = some (.lst vs)
  | .tup, vs => H a = some (.tup vs)
  | .rol, vs => SqL K H a vs
  | .rot, vs => SqT K H a vs
  | .dK ks, vs => ks.length = vs.length ∧ H a = some (.dK (ks.zip vs))
  | .ins c ns, vs => ns.length = vs.length ∧ ∃ C dx, H a = some (.ins C dx (ns.zip vs)) ∧ mg c = some (.ref C)
theorem Here.of {a : Addr} {k : Kd} {o : HO} {vs : List V} (e : H a = some o) (c : Cont mg k o vs) : Here K mg H a k vs := by
  cases k with
  | lst => cases c; exact e
  | tup => cases c; exact e
  | rol => exact c.elim
  | rot => exact c.elim
  | dK ks => obtain ⟨h, rfl⟩ := c; exact ⟨h, e⟩
  | ins n ns => obtain ⟨h, C, dx, rfl, m⟩ := c; exact ⟨h, C, dx, e, m⟩
theorem Rep.nd_inv (le : Le F H) {o : Bool} {k : Kd} {xs : List T} (r : Rep K mg F H v (.nd o k xs) R) :
    ∃ a vs S0, v = .ref a ∧ Reps K mg F H vs xs S0 ∧ (∀ x, S0 x → R x) ∧ Here K mg H a k vs := by
  cases r with
  | own h1 h2 c r na hS => exact ⟨_, _, _, rfl, r, fun x z => (hS x).mpr (.inr z), .of h1 c⟩
  | frz h c r => exact ⟨_, _, _, rfl, r, fun _ z => z, .of (le _ _ h) c⟩
  | rol h r => exact ⟨_, _, _, rfl, r, fun _ z => z, le.sqL h⟩
  | rot h r => exact ⟨_, _, _, rfl, r, fun _ z => z, le.sqT h⟩
/-- a sequence -/
def isSq : Kd → Bool
  | .lst => true | .tup => true | .rol => true | .rot => true | _ => false
theorem Here.sq {a : Addr} {k : Kd} {vs : List V} (h : Here K mg H a k vs) (q : isSq k = true) : SqL K H a vs ∨ SqT K H a vs := by
  cases k with
  | lst => exact .inl (.of h)
  | tup => exact .inr (.of h)
  | rol => exact .inl h
  | rot => exact .inr h
  | dK ks => cases q
  | ins n ns => cases q
/-- a new thing beside -/
theorem new_one {p : Addr} {k : Kd} {o : HO} {vs : List V} {xs : List T} (le : Le F H) (hp : H p = none) (c : Cont mg k o vs) (r : Reps K mg F H vs xs Emp) :
    Stp F H Emp F (upd H p o) (fun x => x = p) ∧ Le F (upd H p o) ∧ Rep K mg F (upd H p o) (.ref p) (.nd true k xs) (fun x => x = p) := by
  have fp : F p = none := le.nn hp
  refine ⟨⟨Le.refl _, fun a o' e _ => by rw [upd_ne (ne_of_none e hp)]; exact e, fun _ _ e => .inl e, fun a e => .inr (by rw [e]; exact hp)⟩,
    fun a o' e => by rw [upd_ne (ne_of_none (le _ _ e) hp)]; exact le _ _ e, ?_⟩
  exact .own upd_same fp c (r.frame (Le.refl _) fun _ z => z.elim) (fun z => z) fun x => ⟨.inl, fun z => z.elim id fun z => z.elim⟩
/-- a new tuple beside, at once frozen -/
theorem new_tup {p : Addr} {vs : List V} {xs : List T} (le : Le F H) (hp : H p = none) (r : Reps K mg F H vs xs Emp) :
    Stp F H Emp (upd F p (.tup vs)) (upd H p (.tup vs)) Emp ∧ Le (upd F p (.tup vs)) (upd H p (.tup vs)) ∧ Rep K mg (upd F p (.tup vs)) (upd H p (.tup vs)) (.ref p) (.nd false .tup xs) Emp := by
  have fp : F p = none := le.nn hp
  have ff : Le F (upd F p (.tup vs)) := fun a o e => by rw [upd_ne (ne_of_none e fp)]; exact e
  refine ⟨⟨ff, fun a o' e _ => by rw [upd_ne (ne_of_none e hp)]; exact e, fun a o e => ?_, fun a z => z.elim⟩, fun a o e => ?_, ?_⟩
  · by_cases h : a = p
    · exact .inr (.inr (by rw [h]; exact hp))
    · rw [upd_ne h] at e; exact .inl e
  · by_cases h : a = p
    · subst h; rw [upd_same] at e ⊢; exact e
    · rw [upd_ne h] at e ⊢; exact le a o e
  · exact .frz upd_same rfl (r.frame ff fun _ z => z.elim)
theorem Reps.flat {vs : List V} {ts : List T} {S : AS} (r : Reps K mg F H vs ts S) : clns ts = true → Reps K mg F H vs ts Emp := r.clean0
end

/-! ### whole numbers -/
def oI (C : Int → Int → Bool) (g : Int → Int → V) : T → T → Option T
  | .lf (.int i), .lf (.int j) => if C i j = true then some (.lf (g i j)) else none
  | _, _ => none
def oI1 (g : Int → V) : T → Option T
  | .lf (.int i) => some (.lf (g i))
  | _ => none
section
variable {K : PySem.W.Frag} {mg : Mg}
theorem oI_some {C : Int → Int → Bool} {g : Int → Int → V} {t s u : T} (h : oI C g t s = some u) : ∃ i j, t = .lf (.int i) ∧ s = .lf (.int j) ∧ C i j = true ∧ u = .lf (g i j) := by
  unfold oI at h
  split at h
  · split at h
    · exact ⟨_, _, rfl, rfl, by assumption, (Option.some.inj h).symm⟩
    · cases h
  · cases h
theorem op2_rI {C : Int → Int → Bool} {C' : Int → Int → Prop} {g : Int → Int → V} (hC : ∀ i j, C i j = true → C' i j) (hg : ∀ i j, sc (g i j) = true) : Op2V K mg (rI C' g) (oI C g) := by
  intro F H x y t s R R2 u Q le r1 r2 h q
  obtain ⟨i, j, rfl, rfl, c, rfl⟩ := oI_some h
  exact ⟨i, j, r1.lf_inv.1, r2.lf_inv.1, hC i j c, q _ Emp (.lf (hg i j) fun _ z => z)⟩
theorem op2_rI0 {g : Int → Int → V} (hg : ∀ i j, sc (g i j) = true) : Op2V K mg (rI0 g) (oI (fun _ _ => true) g) := by
  intro F H x y t s R R2 u Q le r1 r2 h q
  obtain ⟨i, j, rfl, rfl, c, rfl⟩ := oI_some h
  exact ⟨i, j, r1.lf_inv.1, r2.lf_inv.1, q _ Emp (.lf (hg i j) fun _ z => z)⟩
end
def oSub : T → T → Option T := oI (fun _ _ => true) fun i j => .int (i - j)
def oMul : T → T → Option T := oI (fun i j => (decide (-(2 ^ 64) < i) && decide (i < 2 ^ 64)) || (decide (-(2 ^ 64) < j) && decide (j < 2 ^ 64))) fun i j => .int (i * j)
def oDiv : T → T → Option T := oI (fun _ j => decide (0 < j) && decide (j < 1073741824)) fun i j => .int (i / j)
def oMod : T → T → Option T := oI (fun _ j => decide (0 < j)) fun i j => .int (i % j)
def oPow : T → T → Option T := oI (fun i j => decide (0 ≤ j) && decide (j ≤ 1000000) && decide (i.natAbs < 2 ^ 64)) fun i j => .int (i ^ j.toNat)
def oLt : T → T → Option T := oI (fun _ _ => true) fun i j => .bl (decide (i < j))
def oLe : T → T → Option T := oI (fun _ _ => true) fun i j => .bl (decide (i ≤ j))
def oGt : T → T → Option T := oI (fun _ _ => true) fun i j => .bl (decide (j < i))
def oGe : T → T → Option T := oI (fun _ _ => true) fun i j => .bl (decide (j ≤ i))
def oNeg : T → Option T := oI1 fun i => .int (-i)
/-- + of whole numbers, of texts -/
def oAdd : T → T → Option T
  | .lf (.int i), .lf (.int j) => some (.lf (.int (i + j)))
  | .lf (.str i), .lf (.str j) => if i.length + j.length ≤ sizeLine then some (.lf (.str (i ++ j))) else none
  | _, _ => none
/-- + of lists -/
def oCat : T → T → Option T
  | .nd _ .lst xs, .nd _ .lst ys => if clns xs = true ∧ clns ys = true ∧ xs.length + ys.length ≤ sizeLine then some (.nd true .lst (xs ++ ys)) else none
  | _, _ => none
section
variable {K : PySem.W.Frag} {mg : Mg}
theorem v_sub : Op2V K mg (rI0 fun i j => .int (i - j)) oSub := op2_rI0 fun _ _ => rfl
theorem v_mul : Op2V K mg (rI CMul fun i j => .int (i * j)) oMul := op2_rI (fun i j h => by simpa [CMul] using h) fun _ _ => rfl
theorem v_div : Op2V K mg (rI CDiv fun i j => .int (i / j)) oDiv := op2_rI (fun i j h => by simpa [CDiv] using h) fun _ _ => rfl
theorem v_mod : Op2V K mg (rI (fun _ j => 0 < j) fun i j => .int (i % j)) oMod := op2_rI (fun i j h => by simpa using h) fun _ _ => rfl
theorem v_pow : Op2V K mg (rI CPow fun i j => .int (i ^ j.toNat)) oPow := op2_rI (fun i j h => by simpa [CPow, and_assoc] using h) fun _ _ => rfl
theorem v_lt : Op2V K mg (rI0 fun i j => .bl (decide (i < j))) oLt := op2_rI0 fun _ _ => rfl
theorem v_le : Op2V K mg (rI0 fun i j => .bl (decide (i ≤ j))) oLe := op2_rI0 fun _ _ => rfl
theorem v_gt : Op2V K mg (rI0 fun i j => .bl (decide (j < i))) oGt := op2_rI0 fun _ _ => rfl
theorem v_ge : Op2V K mg (rI0 fun i j => .bl (decide (j ≤ i))) oGe := op2_rI0 fun _ _ => rfl
theorem v_neg : Op1V K mg (rU fun i => .int (-i)) oNeg := by
  intro F H x t R u Q le r h q
  unfold oNeg oI1 at h
  split at h
  · cases h
    exact ⟨_, r.lf_inv.1, q _ Emp (.lf rfl fun _ z => z)⟩
  · cases h
def rAddS : R2 := fun x y H Q => rI0 (fun i j => .int (i + j)) x y H Q ∨ ∃ i j, x = .str i ∧ y = .str j ∧ i.length + j.length ≤ sizeLine ∧ Q (.str (i ++ j)) H
theorem op_addS {X : Cx} : OpR X (binaryOp .Add) rAddS := OpR.or op_add op_add_str
theorem iop_addS {X : Cx} : OpR X (inplaceOp .Add) rAddS := OpR.or iop_add iop_add_str
theorem v_add : Op2V K mg rAddS oAdd := by
  intro F H x y t s R R2 u Q le r1 r2 h q
  unfold oAdd at h
  split at h
  · cases h
    exact .inl ⟨_, _, r1.lf_inv.1, r2.lf_inv.1, q _ Emp (.lf rfl fun _ z => z)⟩
  · split at h
    · cases h
      exact .inr ⟨_, _, r1.lf_inv.1, r2.lf_inv.1, by assumption, q _ Emp (.lf rfl fun _ z => z)⟩
    · cases h
  · cases h
theorem Reps.append {F H : Hp} {ys : List V} {us : List T} {S2 : AS} (q : Reps K mg F H ys us S2) : ∀ {vs : List V} {ts : List T} {S : AS}, Reps K mg F H vs ts S → Dj S S2 → Reps K mg F H (vs ++ ys) (ts ++ us) (Cup S S2)
  | _, _, _, .nil h, _ => q.iff fun x => ⟨fun z => z.elim (fun z => (h x z).elim) id, .inr⟩
  | _, _, _, .cons r p d hS, dj => .cons r (Reps.append q p fun x z => dj x ((hS x).mpr (.inr z))) (fun x a b => b.elim (d x a) (dj x ((hS x).mpr (.inl a)))) fun x => by
      unfold Cup
      rw [hS x]
      exact ⟨fun z => z.elim (fun z => z.elim .inl fun z => .inr (.inl z)) fun z => .inr (.inr z), fun z => z.elim (fun z => .inl (.inl z)) fun z => z.elim (fun z => .inl (.inr z)) .inr⟩
theorem e_cat : Op2E K mg rCat oCat := by
  intro F H x y t s R R2 u Q le r1 r2 h q
  unfold oCat at h
  split at h
  · split at h
    · rename_i xs _ ys c
      cases h
      obtain ⟨a, vs, S0, rfl, p1, _, h1⟩ := r1.nd_inv le
      obtain ⟨b, ws, S1, rfl, p2, _, h2⟩ := r2.nd_inv le
      refine ⟨a, b, vs, ws, rfl, rfl, h1, h2, by rw [p1.length (S := Emp), p2.length (S := Emp)]; exact c.2.2, fun p hp => ?_⟩
      have rr := Reps.append (p2.clean0 c.2.1) (p1.clean0 c.1) fun _ z => z.elim
      obtain ⟨g1, g2, g3⟩ := new_one (k := .lst) (o := .lst (vs ++ ws)) le hp rfl (rr.iff fun x => ⟨fun z => z.elim, fun z => z.elim id id⟩)
      exact q _ _ _ _ g1 g2 g3
    · cases h
  · cases h
end

/-! ### == of data -/
mutual
def toD : T → Option PyData
  | .lf .non => some .none
  | .lf (.bl b) => some (.bool b)
  | .lf (.int i) => some (.int i)
  | .lf (.str x) => some (.str x)
  | .nd _ .lst xs => (toDs xs).map .list
  | .nd _ .rol xs => (toDs xs).map .list
  | .nd _ .tup xs => (toDs xs).map .tuple
  | .nd _ .rot xs => (toDs xs).map .tuple
  | _ => none
def toDs : List T → Option (List PyData)
  | [] => some []
  | t :: ts => (toD t).bind fun d => (toDs ts).map fun ds => d :: ds
end
def oEq : T → T → Option T := fun t s => (toD t).bind fun d => (toD s).bind fun e => if SeqAt.shaped d = true ∧ SeqAt.shaped e = true then some (.lf (.bl (PyData.eqv d e))) else none
def oNe : T → T → Option T := fun t s => (toD t).bind fun d => (toD s).bind fun e => if SeqAt.shaped d = true ∧ SeqAt.shaped e = true then some (.lf (.bl (!PyData.eqv d e))) else none
section
variable {K : PySem.W.Frag} {mg : Mg} {F H : Hp}
mutual
theorem dp_of (le : Le F H) : ∀ {v : V} {t : T} {R : AS} {d : PyData}, Rep K mg F H v t R → toD t = some d → Dp K H v d
  | _, .no, _, _, _, h => by simp [toD] at h
  | _, .lf w, _, _, r, h => by
    obtain ⟨e0, _, _⟩ := r.lf_inv
    rw [e0]
    cases w <;> simp [toD] at h <;> subst h <;> constructor
  | v, .nd o k xs, R, d, r, h => by
    obtain ⟨a, vs, S0, rfl, p, _, hr⟩ := r.nd_inv le
    cases k <;> simp only [toD, Option.map_eq_some_iff] at h <;> first
      | (cases h; done)
      | (obtain ⟨ds, e, rfl⟩ := h
         first
           | exact .lst (SqL.of hr) (dps_of le p e)
           | exact .tup (SqT.of hr) (dps_of le p e)
           | exact .lst hr (dps_of le p e)
           | exact .tup hr (dps_of le p e))
theorem dps_of (le : Le F H) : ∀ {vs : List V} {ts : List T} {R : AS} {ds : List PyData}, Reps K mg F H vs ts R → toDs ts = some ds → DpAll K H vs ds
  | _, [], _, _, r, h => by
    cases r with
    | nil _ => simp [toDs] at h; subst h; exact .nil
  | _, t :: ts, _, _, r, h => by
    cases r with
    | cons r q d hS =>
      simp only [toDs, Option.bind_eq_some_iff, Option.map_eq_some_iff] at h
      obtain ⟨d, e1, ds, e2, rfl⟩ := h
      exact .cons (dp_of le r e1) (dps_of le q e2)
end
theorem v_eq : Op2V K mg (rEqD K) oEq := by
  intro F H x y t s R R2 u Q le r1 r2 h q
  obtain ⟨d, e1, h⟩ := Option.bind_eq_some_iff.mp h
  obtain ⟨e, e2, h⟩ := Option.bind_eq_some_iff.mp h
  split at h
  · rename_i c
    cases h
    exact ⟨d, e, dp_of le r1 e1, dp_of le r2 e2, c.1, c.2, q _ Emp (.lf rfl fun _ z => z)⟩
  · cases h
theorem v_ne : Op2V K mg (rNeD K) oNe := by
  intro F H x y t s R R2 u Q le r1 r2 h q
  obtain ⟨d, e1, h⟩ := Option.bind_eq_some_iff.mp h
  obtain ⟨e, e2, h⟩ := Option.bind_eq_some_iff.mp h
  split at h
  · rename_i c
    cases h
    exact ⟨d, e, dp_of le r1 e1, dp_of le r2 e2, c.1, c.2, q _ Emp (.lf rfl fun _ z => z)⟩
  · cases h
end
end Tr


set_option Elab.async false
set_option linter.all false
set_option maxRecDepth 100000
set_option maxHeartbeats 4000000
/-! D4: more operators: is None, in, len, subscripts, slices, list, sorted, isinstance. -/
namespace Tr
open PySem PySem.Spec PyProof.Rows L2

section
variable {K : PySem.W.Frag} {mg : Mg} {F H : Hp}
/-! ### is None -/
def isNon : T → Option Bool
  | .lf .non => some true
  | .lf _ => some false
  | .nd _ _ _ => some false
  | .no => none
def oIsN : T → T → Option T
  | t, .lf .non => (isNon t).map fun b => .lf (.bl b)
  | _, _ => none
def oNotN : T → T → Option T
  | t, .lf .non => (isNon t).map fun b => .lf (.bl (!b))
  | _, _ => none
theorem isNon_ok {v : V} {t : T} {R : AS} {b : Bool} (le : Le F H) (r : Rep K mg F H v t R) (h : isNon t = some b) : decide (v = .non) = b := by
  cases t with
  | no => cases h
  | lf w =>
    obtain ⟨e, _, _⟩ := r.lf_inv
    subst e
    cases v <;> simp [isNon] at h <;> subst h <;> simp
  | nd o k xs =>
    obtain ⟨a, vs, S0, rfl, _⟩ := r.nd_inv le
    simp [isNon] at h
    subst h
    simp
theorem v_isN : Op2V K mg (fun x y H Q => y = .non ∧ Q (.bl (decide (x = .non))) H) oIsN := by
  intro F H x y t s R R2 u Q le r1 r2 h q
  unfold oIsN at h
  split at h
  · obtain ⟨b, e, rfl⟩ := Option.map_eq_some_iff.mp h
    exact ⟨r2.lf_inv.1, by rw [isNon_ok le r1 e]; exact q _ Emp (.lf rfl fun _ z => z)⟩
  · cases h
theorem v_notN : Op2V K mg (fun x y H Q => y = .non ∧ Q (.bl (!decide (x = .non))) H) oNotN := by
  intro F H x y t s R R2 u Q le r1 r2 h q
  unfold oNotN at h
  split at h
  · obtain ⟨b, e, rfl⟩ := Option.map_eq_some_iff.mp h
    exact ⟨r2.lf_inv.1, by rw [isNon_ok le r1 e]; exact q _ Emp (.lf rfl fun _ z => z)⟩
  · cases h

/-! ### in -/
def keyOf : V → Option Key
  | .int i => some (.inl i)
  | .str x => some (.inr x)
  | _ => none
theorem keyOf_some {v : V} {k : Key} (h : keyOf v = some k) : v = kV k := by
  cases v <;> simp [keyOf] at h <;> subst h <;> rfl
/-- the leaf is flat -/
def flT : T → Bool
  | .lf v => flatV v
  | _ => false
def eqT (x : V) : T → Bool
  | .lf v => eqV v x
  | _ => false
def hasK (ks : List Key) (k : Key) : Bool := ks.any fun a => decide (a = k)
/-- in: a list, a tuple, a dict, one sign in a text -/
def inB : T → T → Option Bool
  | .lf x, .nd _ .lst ys => if flatV x = true ∧ ys.all flT = true then some (ys.any (eqT x)) else none
  | .lf x, .nd _ .tup ys => if flatV x = true ∧ ys.all flT = true then some (ys.any (eqT x)) else none
  | .lf x, .nd _ .rol ys => if flatV x = true ∧ ys.all flT = true then some (ys.any (eqT x)) else none
  | .lf x, .nd _ .rot ys => if flatV x = true ∧ ys.all flT = true then some (ys.any (eqT x)) else none
  | .lf x, .nd _ (.dK ks) _ => (keyOf x).map fun k => hasK ks k
  | .lf (.str x), .lf (.str y) => match x.cps.toList with
    | [c] => some (decide (c ∈ y.cps.toList))
    | _ => none
  | _, _ => none
def oIn : T → T → Option T := fun t s => (inB t s).map fun b => .lf (.bl b)
def oNotIn : T → T → Option T := fun t s => (inB t s).map fun b => .lf (.bl (!b))
def rInA (K : PySem.W.Frag) (neg : Bool) : R2 := fun x y H Q => rIn K neg x y H Q ∨ (∃ a o, y = .ref a ∧ DGet H a x o ∧ Q (.bl (if neg then !o.isSome else o.isSome)) H) ∨
  ∃ (c : Nat) (z : Str), x = .str ⟨#[c]⟩ ∧ y = .str z ∧ Q (.bl (if neg then !decide (c ∈ z.cps.toList) else decide (c ∈ z.cps.toList))) H
theorem op_inA {X : Cx} (hu : X.A.units + 1 < cLine) : OpR X (compareOp .In) (rInA X.K false) := by
  refine OpR.or op_in_seq (OpR.or ?_ op_in_sign)
  intro pins s σ H x y v u Q I rx ry h
  obtain ⟨a, o, rfl, g, q⟩ := h
  cases ry
  exact d_in hu I g rx fun s' I' => ⟨.bl o.isSome, H, I', rfl, q⟩
theorem op_notInA {X : Cx} (hu : X.A.units + 1 < cLine) : OpR X (compareOp .NotIn) (rInA X.K true) := by
  refine OpR.or op_notIn_seq (OpR.or ?_ op_notIn_sign)
  intro pins s σ H x y v u Q I rx ry h
  obtain ⟨a, o, rfl, g, q⟩ := h
  cases ry
  exact d_notIn hu I g rx fun s' I' => ⟨.bl (!o.isSome), H, I', rfl, q⟩
theorem flat_vs : ∀ {vs : List V} {ts : List T} {S : AS} {x : V}, Reps K mg F H vs ts S → ts.all flT = true → vs.all flatV = true ∧ inV x vs = ts.any (eqT x)
  | _, _, _, _, .nil _, _ => ⟨rfl, rfl⟩
  | _, _, _, x, .cons (t := t) r q _ _, h => by
    simp only [List.all_cons, Bool.and_eq_true] at h
    obtain ⟨h1, h2⟩ := flat_vs (x := x) q h.2
    cases t with
    | no => simp [flT] at h
    | nd _ _ _ => simp [flT] at h
    | lf w =>
      obtain ⟨e, _, _⟩ := r.lf_inv
      subst e
      refine ⟨by simp only [List.all_cons, Bool.and_eq_true]; exact ⟨h.1, h1⟩, ?_⟩
      unfold inV at h2 ⊢
      simp only [List.any_cons, h2, eqT]
theorem valV_zip (k : Key) : ∀ (ks : List Key) (vs : List V), ks.length = vs.length → (valV (ks.zip vs) k).isSome = hasK ks k
  | [], [], _ => rfl
  | [], _ :: _, h => by simp at h
  | _ :: _, [], h => by simp at h
  | a :: ks, v :: vs, h => by
    have ih := valV_zip k ks vs (by simpa using h)
    by_cases e : a = k
    · rw [List.zip_cons_cons, valV_pos e]; simp [hasK, e]
    · rw [List.zip_cons_cons, valV_neg e, ih]
      simp [hasK, e]
theorem inB_ok {x y : V} {t s : T} {R R2 : AS} {b neg : Bool} {Q : VK} (le : Le F H) (r1 : Rep K mg F H x t R) (r2 : Rep K mg F H y s R2) (h : inB t s = some b) (q : Q (.bl (if neg then !b else b)) H) : rInA K neg x y H Q := by
  have sq : ∀ {w : V} {o : Bool} {k : Kd} {ys : List T}, isSq k = true → Rep K mg F H y (.nd o k ys) R2 → Rep K mg F H x (.lf w) R → flatV w = true → ys.all flT = true → ys.any (eqT w) = b → rInA K neg x y H Q := by
    intro w o k ys hk r2 r1 f1 f2 e
    obtain ⟨a, vs, S0, rfl, p, _, hr⟩ := r2.nd_inv le
    obtain ⟨e1, _, _⟩ := r1.lf_inv
    subst e1
    obtain ⟨g1, g2⟩ := flat_vs (x := x) p f2
    refine .inl ⟨a, vs, rfl, hr.sq hk, f1, g1, ?_⟩
    rw [g2, e]
    exact q
  unfold inB at h
  split at h
  · split at h
    · rename_i c; exact sq rfl r2 r1 c.1 c.2 (Option.some.inj h)
    · cases h
  · split at h
    · rename_i c; exact sq rfl r2 r1 c.1 c.2 (Option.some.inj h)
    · cases h
  · split at h
    · rename_i c; exact sq rfl r2 r1 c.1 c.2 (Option.some.inj h)
    · cases h
  · split at h
    · rename_i c; exact sq rfl r2 r1 c.1 c.2 (Option.some.inj h)
    · cases h
  · obtain ⟨k, e1, e2⟩ := Option.map_eq_some_iff.mp h
    obtain ⟨a, vs, S0, rfl, p, _, hl, hr⟩ := r2.nd_inv le
    obtain ⟨e0, _, _⟩ := r1.lf_inv
    have ex := keyOf_some e1
    refine .inr (.inl ⟨a, _, rfl, .inl ⟨_, k, .inl hr, e0.trans ex, rfl⟩, ?_⟩)
    rw [valV_zip k _ _ hl, e2]
    exact q
  · split at h
    · rename_i c e
      cases h
      obtain ⟨e1, _, _⟩ := r1.lf_inv
      obtain ⟨e2, _, _⟩ := r2.lf_inv
      refine .inr (.inr ⟨c, _, ?_, e2, q⟩)
      rw [e1]
      congr 1
      exact TL.ext_tl (by show _ = [c]; exact e)
    · cases h
  · cases h
theorem v_in : Op2V K mg (rInA K false) oIn := by
  intro F H x y t s R R2 u Q le r1 r2 h q
  obtain ⟨b, e, rfl⟩ := Option.map_eq_some_iff.mp h
  exact inB_ok le r1 r2 e (q _ Emp (.lf rfl fun _ z => z))
theorem v_notIn : Op2V K mg (rInA K true) oNotIn := by
  intro F H x y t s R R2 u Q le r1 r2 h q
  obtain ⟨b, e, rfl⟩ := Option.map_eq_some_iff.mp h
  exact inB_ok le r1 r2 e (q _ Emp (.lf rfl fun _ z => z))

/-! ### len -/
def oLen : T → Option T
  | .nd _ .lst xs => some (.lf (.int xs.length))
  | .nd _ .tup xs => some (.lf (.int xs.length))
  | .nd _ .rol xs => some (.lf (.int xs.length))
  | .nd _ .rot xs => some (.lf (.int xs.length))
  | .nd _ (.dK ks) _ => some (.lf (.int ks.length))
  | .lf (.str x) => if x.length ≤ sizeLine then some (.lf (.int x.length)) else none
  | _ => none
def rLen (K : PySem.W.Frag) : List V → Hp → VK → Prop := fun xs H Q => (∃ p ys, xs = [.ref p] ∧ (SqL K H p ys ∨ SqT K H p ys) ∧ Q (.int ys.length) H) ∨ (∃ z, xs = [.str z] ∧ z.length ≤ sizeLine ∧ Q (.int z.length) H) ∨
  ∃ a kvs, xs = [.ref a] ∧ H a = some (.dK kvs) ∧ Q (.int kvs.length) H
theorem call_lenA {X : Cx} : CallR X (.builtin "len") (rLen X.K) := by
  refine CallR.or call_len_seq (CallR.or call_len_str ?_)
  intro pins s σ H xs us Q I r h
  obtain ⟨a, kvs, rfl, e, q⟩ := h
  obtain ⟨u, rfl, r1⟩ := vals1 r
  cases (show u = Value.ref a from r1)
  exact d_len I (.inl e) fun t s' I' => ⟨.int kvs.length, H, I', ⟨t, rfl⟩, q⟩
theorem v_len : Op1V K mg (fun x H Q => rLen K [x] H Q) oLen := by
  intro F H x t R u Q le r h q
  have sq : ∀ {o : Bool} {k : Kd} {ys : List T}, isSq k = true → Rep K mg F H x (.nd o k ys) R → u = .lf (.int ys.length) → rLen K [x] H Q := by
    intro o k ys hk r e
    obtain ⟨a, vs, S0, rfl, p, _, hr⟩ := r.nd_inv le
    refine .inl ⟨a, vs, rfl, hr.sq hk, ?_⟩
    rw [p.length (S := Emp)]
    exact q _ Emp (by rw [e]; exact .lf rfl fun _ z => z)
  unfold oLen at h
  split at h
  · exact sq rfl r (Option.some.inj h).symm
  · exact sq rfl r (Option.some.inj h).symm
  · exact sq rfl r (Option.some.inj h).symm
  · exact sq rfl r (Option.some.inj h).symm
  · cases h
    obtain ⟨a, vs, S0, rfl, p, _, hl, hr⟩ := r.nd_inv le
    refine .inr (.inr ⟨a, _, rfl, hr, ?_⟩)
    rw [List.length_zip, hl, Nat.min_self, ← hl]
    exact q _ Emp (.lf rfl fun _ z => z)
  · split at h
    · cases h
      exact .inr (.inl ⟨_, by rw [r.lf_inv.1], by assumption, q _ Emp (.lf rfl fun _ z => z)⟩)
    · cases h
  · cases h

/-! ### subscripts -/
def getK : List Key → List T → Key → Option T
  | a :: ks, x :: xs, k => if a = k then some x else getK ks xs k
  | _, _, _ => none
def oIx : T → T → Option T
  | .nd _ .lst xs, .lf (.int i) => atI xs i
  | .nd _ .tup xs, .lf (.int i) => atI xs i
  | .nd _ .rol xs, .lf (.int i) => atI xs i
  | .nd _ .rot xs, .lf (.int i) => atI xs i
  | .nd _ (.dK ks) xs, .lf x => (keyOf x).bind fun k => getK ks xs k
  | .lf (.str z), .lf (.int i) => if z.length ≤ sizeLine then (atI z.cps.toList i).map fun c => .lf (.str ⟨#[c]⟩) else none
  | _, _ => none
theorem ix_dict {X : Cx} (hu : X.A.units + 1 < cLine) : IxR X (fun x y H Q => ∃ a v, x = .ref a ∧ DGet H a y (some v) ∧ Q v H) := by
  intro value slice pins s σ H x y v u Q I rx ry h hs
  obtain ⟨a, w, rfl, g, q⟩ := h
  cases (show v = Value.ref a from rx)
  have hT := dict_typeIs I g
  unfold subscriptTail
  refine wpAny_bind ?_
  rw [getitemInPython_of_ne hT.not_modules]
  refine wpAny_bind (wpAny_specialOf hT PySem.F.slot_dict_getitem.lookup ?_)
  have fin : wpAny (model X.prog X.w) X.A (subscripted slice false (.ref a) u) (fun r s₃ => wpAny (model X.prog X.w) X.A (letTemporaryGo value (.ref a) r >>= fun _ => pure r) (EP X pins σ Q) X.xe s₃) X.xe s := by
    rw [hs]
    exact wpAny_operating (d_getItem hu I g ry fun w' s3 I3 rw' => wpAny_bind (wpAny_letTemporaryGo (wpAny_pure ⟨w, H, I3, rw', q⟩)))
  first
    | exact wpAny_pure (wpAny_bind fin)
    | exact wpAny_bind (wpAny_pure (wpAny_bind fin))
    | exact wpAny_bind fin
def rIxA (K : PySem.W.Frag) : R2 := fun x y H Q => rIxL K x y H Q ∨ rIxT K x y H Q ∨ rIxS x y H Q ∨ ∃ a v, x = .ref a ∧ DGet H a y (some v) ∧ Q v H
theorem ix_all {X : Cx} (hu : X.A.units + 1 < cLine) : IxR X (rIxA X.K) := IxR.or ix_list (IxR.or ix_tup (IxR.or ix_str (ix_dict hu)))
theorem Reps.atI {vs : List V} {ts : List T} {S : AS} (r : Reps K mg F H vs ts S) {i : Int} {t : T} (h : atI ts i = some t) : ∃ v R, atI vs i = some v ∧ Rep K mg F H v t R ∧ ∀ x, R x → S x := by
  unfold L2.atI at h ⊢
  rw [r.length (S := Emp)]
  obtain ⟨j, e1, e2⟩ := Option.bind_eq_some_iff.mp h
  obtain ⟨v, R, h1, h2, h3⟩ := r.get e2
  exact ⟨v, R, by rw [e1]; exact h1, h2, h3⟩
theorem getK_ok {k : Key} : ∀ {ks : List Key} {vs : List V} {ts : List T} {S : AS} {t : T}, Reps K mg F H vs ts S → ks.length = vs.length → getK ks ts k = some t → ∃ v R, valV (ks.zip vs) k = some v ∧ Rep K mg F H v t R ∧ ∀ x, R x → S x := by
  intro ks
  induction ks with
  | nil => intro vs ts S t r hl h; simp [getK] at h
  | cons a ks ih =>
    intro vs ts S t r hl h
    cases r with
    | nil _ => simp at hl
    | @cons v t0 vs ts _ S1 S2 r q d hS =>
      unfold getK at h
      by_cases e : a = k
      · rw [if_pos e] at h
        cases h
        exact ⟨v, S1, by rw [List.zip_cons_cons, valV_pos e], r, fun x z => (hS x).mpr (.inl z)⟩
      · rw [if_neg e] at h
        obtain ⟨v', R, h1, h2, h3⟩ := ih q (by simpa using hl) h
        exact ⟨v', R, by rw [List.zip_cons_cons, valV_neg e]; exact h1, h2, fun x z => (hS x).mpr (.inr (h3 x z))⟩
/-- with the custody of the part -/
theorem ixA {x y : V} {t s u : T} {R R2 : AS} {Q : VK} (le : Le F H) (r1 : Rep K mg F H x t R) (r2 : Rep K mg F H y s R2) (h : oIx t s = some u) (q : ∀ v R', Rep K mg F H v u R' → (∀ x, R' x → R x) → Q v H) : rIxA K x y H Q := by
  unfold oIx at h
  split at h
  · obtain ⟨a, vs, S0, rfl, p, hs, hr⟩ := r1.nd_inv le
    obtain ⟨v, R', e1, e2, e3⟩ := p.atI h
    exact .inl ⟨a, vs, _, v, rfl, r2.lf_inv.1, SqL.of hr, e1, q v R' e2 fun x z => hs x (e3 x z)⟩
  · obtain ⟨a, vs, S0, rfl, p, hs, hr⟩ := r1.nd_inv le
    obtain ⟨v, R', e1, e2, e3⟩ := p.atI h
    exact .inr (.inl ⟨a, vs, _, v, rfl, r2.lf_inv.1, SqT.of hr, e1, q v R' e2 fun x z => hs x (e3 x z)⟩)
  · obtain ⟨a, vs, S0, rfl, p, hs, hr⟩ := r1.nd_inv le
    obtain ⟨v, R', e1, e2, e3⟩ := p.atI h
    exact .inl ⟨a, vs, _, v, rfl, r2.lf_inv.1, hr, e1, q v R' e2 fun x z => hs x (e3 x z)⟩
  · obtain ⟨a, vs, S0, rfl, p, hs, hr⟩ := r1.nd_inv le
    obtain ⟨v, R', e1, e2, e3⟩ := p.atI h
    exact .inr (.inl ⟨a, vs, _, v, rfl, r2.lf_inv.1, hr, e1, q v R' e2 fun x z => hs x (e3 x z)⟩)
  · obtain ⟨k, e1, e2⟩ := Option.bind_eq_some_iff.mp h
    obtain ⟨a, vs, S0, rfl, p, hs, hl, hr⟩ := r1.nd_inv le
    obtain ⟨v, R', g1, g2, g3⟩ := getK_ok p hl e2
    exact .inr (.inr (.inr ⟨a, v, rfl, .inl ⟨_, k, .inl hr, (r2.lf_inv.1).trans (keyOf_some e1), g1.symm⟩, q v R' g2 fun x z => hs x (g3 x z)⟩))
  · split at h
    · obtain ⟨c, e1, rfl⟩ := Option.map_eq_some_iff.mp h
      exact .inr (.inr (.inl ⟨_, _, c, r1.lf_inv.1, r2.lf_inv.1, by assumption, e1, q _ Emp (.lf rfl fun _ z => z) fun _ z => z.elim⟩))
    · cases h
  · cases h
theorem v_ix : Op2V K mg (rIxA K) oIx := fun F H x y t s R R2 u Q le r1 r2 h q => ixA le r1 r2 h fun v R' r _ => q v R' r

/-! ### list(), sorted() -/
def oList : T → Option T
  | .nd _ .lst xs => if clns xs = true then some (.nd true .lst xs) else none
  | .nd _ .rol xs => if clns xs = true then some (.nd true .lst xs) else none
  | .nd _ .tup xs => if clns xs = true then some (.nd true .lst xs) else none
  | .nd _ .rot xs => if clns xs = true then some (.nd true .lst xs) else none
  | _ => none
def rListC (K : PySem.W.Frag) : List V → Hp → VK → Prop := fun xs H Q => ∃ p ys, xs = [.ref p] ∧ (SqL K H p ys ∨ SqT K H p ys) ∧ ∀ l, H l = none → Q (.ref l) (upd H l (.lst ys))
theorem e_list : Op1E K mg (fun x H Q => rListC K [x] H Q) oList := by
  intro F H x t R u Q le r h q
  have sq : ∀ {o : Bool} {k : Kd} {ys : List T}, isSq k = true → Rep K mg F H x (.nd o k ys) R → clns ys = true → u = .nd true .lst ys → rListC K [x] H Q := by
    intro o k ys hk r c e
    obtain ⟨a, vs, S0, rfl, p, _, hr⟩ := r.nd_inv le
    refine ⟨a, vs, rfl, hr.sq hk, fun l hl => ?_⟩
    obtain ⟨g1, g2, g3⟩ := new_one (k := .lst) (o := .lst vs) le hl rfl (p.clean0 c)
    exact q _ _ _ _ g1 g2 (by rw [e]; exact g3)
  unfold oList at h
  split at h
  all_goals first
    | (split at h
       · exact sq rfl r (by assumption) (Option.some.inj h).symm
       · cases h)
    | cases h
/-- the ints of a list of leaves -/
def intsOf : List T → Option (List Int)
  | [] => some []
  | .lf (.int i) :: ts => (intsOf ts).map fun is => i :: is
  | _ => none
def ins (x : Int) : List Int → List Int
  | [] => [x]
  | y :: ys => if x ≤ y then x :: y :: ys else y :: ins x ys
def isort : List Int → List Int
  | [] => []
  | x :: xs => ins x (isort xs)
theorem ins_perm (x : Int) : ∀ ys : List Int, (ins x ys).Perm (x :: ys)
  | [] => .refl _
  | y :: ys => by
    unfold ins
    split
    · exact .refl _
    · exact (List.Perm.cons y (ins_perm x ys)).trans (List.Perm.swap x y ys)
theorem isort_perm : ∀ xs : List Int, (isort xs).Perm xs
  | [] => .refl _
  | x :: xs => (ins_perm x (isort xs)).trans (List.Perm.cons x (isort_perm xs))
theorem ins_sorted (x : Int) : ∀ ys : List Int, ys.Pairwise (· ≤ ·) → (ins x ys).Pairwise (· ≤ ·)
  | [], _ => by simp [ins]
  | y :: ys, h => by
    unfold ins
    split
    · rename_i c
      refine List.pairwise_cons.mpr ⟨fun z hz => ?_, h⟩
      rcases List.mem_cons.mp hz with rfl | hz
      · exact c
      · exact Int.le_trans c ((List.pairwise_cons.mp h).1 z hz)
    · rename_i c
      refine List.pairwise_cons.mpr ⟨fun z hz => ?_, ins_sorted x ys (List.pairwise_cons.mp h).2⟩
      rcases List.mem_cons.mp ((ins_perm x ys).mem_iff.mp hz) with rfl | hz
      · omega
      · exact (List.pairwise_cons.mp h).1 z hz
theorem isort_sorted : ∀ xs : List Int, (isort xs).Pairwise (· ≤ ·)
  | [] => .nil
  | x :: xs => ins_sorted x _ (isort_sorted xs)
theorem sorted_uniq : ∀ {a b : List Int}, a.Perm b → a.Pairwise (· ≤ ·) → b.Pairwise (· ≤ ·) → a = b
  | [], b, p, _, _ => (List.Perm.nil_eq p)
  | x :: xs, [], p, _, _ => by simp at p
  | x :: xs, y :: ys, p, h1, h2 => by
    have e : x = y := by
      have m1 : x ∈ y :: ys := p.mem_iff.mp (List.mem_cons_self ..)
      have m2 : y ∈ x :: xs := p.mem_iff.mpr (List.mem_cons_self ..)
      rcases List.mem_cons.mp m1 with e | m1
      · exact e
      · rcases List.mem_cons.mp m2 with e | m2
        · exact e.symm
        · have a1 := (List.pairwise_cons.mp h2).1 x m1
          have a2 := (List.pairwise_cons.mp h1).1 y m2
          omega
    subst e
    rw [sorted_uniq (List.Perm.cons_inv p) (List.pairwise_cons.mp h1).2 (List.pairwise_cons.mp h2).2]
def lfI (i : Int) : T := .lf (.int i)
theorem intsOf_some : ∀ {ts : List T} {is : List Int}, intsOf ts = some is → ts = is.map lfI
  | [], is, h => by simp [intsOf] at h; subst h; rfl
  | t :: ts, is, h => by
    unfold intsOf at h
    split at h
    · rename_i e; cases e
    · rename_i i ts' e
      obtain ⟨is', e1, rfl⟩ := Option.map_eq_some_iff.mp h
      cases e
      rw [List.map_cons, ← intsOf_some e1]
      rfl
    · cases h
theorem reps_ints : ∀ {is : List Int} {vs : List V} {S : AS}, Reps K mg F H vs (is.map lfI) S → vs = is.map V.int
  | [], _, _, r => by cases r with | nil _ => rfl
  | i :: is, _, _, r => by
    cases r with
    | cons r q _ _ => rw [reps_ints q, List.map_cons, (r.lf_inv).1]
theorem ints_reps : ∀ (is : List Int), Reps K mg F H (is.map V.int) (is.map lfI) Emp
  | [] => .nil fun _ z => z
  | i :: is => .cons (S1 := Emp) (S2 := Emp) (.lf rfl fun _ z => z) (ints_reps is) dj_emp fun x => ⟨fun z => z.elim, fun z => z.elim id id⟩
theorem clns_ints : ∀ is : List Int, clns (is.map lfI) = true
  | [] => rfl
  | i :: is => by rw [List.map_cons, clns, clns_ints is]; rfl
/-- sorted of a list of ints; of a dict with int keys, its keys -/
def oSorted : T → Option T
  | .nd _ .lst xs => (intsOf xs).map fun is => .nd true .lst ((isort is).map lfI)
  | .nd _ .rol xs => (intsOf xs).map fun is => .nd true .lst ((isort is).map lfI)
  | .nd _ (.dK ks) _ => (intsOf (ks.map fun k => .lf (kV k))).bind fun is => if is.length < 64 then some (.nd true .lst ((isort is).map lfI)) else none
  | _ => none
def rSortA (K : PySem.W.Frag) : List V → Hp → VK → Prop := fun xs H Q => rSortedI K xs H Q ∨ ∃ (a : Addr) (kvs : List (Key × V)) (ks : List Int), xs = [.ref a] ∧ Rd H a (.dK kvs) ∧ kvs.map (·.1) = ks.map Sum.inl ∧ ks.length < 64 ∧ ∀ (ys : List Int) (p : Addr), ys.Perm ks → ys.Pairwise (· ≤ ·) → H p = none → Q (.ref p) (upd H p (.lst (ys.map V.int)))
theorem call_sortA {X : Cx} (hc : X.calm = true) : CallR X (.builtin "sorted") (rSortA X.K) := CallR.or cr_sortedI (call_sortedDI hc)
theorem fin_sort {is ys : List Int} {p : Addr} {u : T} {Q : VK} (le : Le F H) (hp : H p = none) (h1 : ys.Perm is) (h2 : ys.Pairwise (· ≤ ·)) (e : u = .nd true .lst ((isort is).map lfI))
    (q : ∀ v F' H' R', Stp F H Emp F' H' R' → Le F' H' → Rep K mg F' H' v u R' → Q v H') : Q (.ref p) (upd H p (.lst (ys.map V.int))) := by
  have e2 : ys = isort is := sorted_uniq (h1.trans (isort_perm is).symm) h2 (isort_sorted is)
  subst e2
  obtain ⟨g1, g2, g3⟩ := new_one (K := K) (mg := mg) (k := .lst) (o := .lst ((isort is).map V.int)) le hp rfl (ints_reps (isort is))
  exact q _ _ _ _ g1 g2 (by rw [e]; exact g3)
theorem keys_ints : ∀ {ks : List Key} {is : List Int}, intsOf (ks.map fun k => .lf (kV k)) = some is → ks = is.map Sum.inl
  | [], is, h => by simp [intsOf] at h; subst h; rfl
  | .inl i :: ks, is, h => by
    simp only [List.map_cons, kV, intsOf, Option.map_eq_some_iff] at h
    obtain ⟨is', e1, rfl⟩ := h
    rw [List.map_cons, ← keys_ints e1]
  | .inr x :: ks, is, h => by simp [kV, intsOf] at h
theorem e_sorted : Op1E K mg (fun x H Q => rSortA K [x] H Q) oSorted := by
  intro F H x t R u Q le r h q
  have sq : ∀ {o : Bool} {k : Kd} {ys : List T} {is : List Int}, (∀ {a : Addr} {vs : List V}, Here K mg H a k vs → SqL K H a vs) → Rep K mg F H x (.nd o k ys) R → intsOf ys = some is → u = .nd true .lst ((isort is).map lfI) → rSortA K [x] H Q := by
    intro o k ys is hk r c e
    obtain ⟨a, vs, S0, rfl, p, _, hr⟩ := r.nd_inv le
    have e1 := intsOf_some c
    subst e1
    have e2 := reps_ints p
    subst e2
    exact .inl ⟨a, is, rfl, hk hr, fun ys p h1 h2 hp => fin_sort le hp h1 h2 e q⟩
  unfold oSorted at h
  split at h
  · obtain ⟨is, e1, e2⟩ := Option.map_eq_some_iff.mp h
    exact sq (k := .lst) (fun z => SqL.of z) r e1 e2.symm
  · obtain ⟨is, e1, e2⟩ := Option.map_eq_some_iff.mp h
    exact sq (k := .rol) (fun z => z) r e1 e2.symm
  · obtain ⟨is, e1, e2⟩ := Option.bind_eq_some_iff.mp h
    split at e2
    · rename_i c
      obtain ⟨a, vs, S0, rfl, p, _, hl, hr⟩ := r.nd_inv le
      refine .inr ⟨a, _, is, rfl, .inl hr, ?_, c, fun ys p h1 h2 hp => fin_sort le hp h1 h2 (Option.some.inj e2).symm q⟩
      rw [List.map_fst_zip (by omega)]
      exact keys_ints e1
    · cases e2
  · cases h

/-! ### isinstance of built-in types -/
def tyN : T → Option String
  | .lf .non => some "NoneType"
  | .lf (.bl _) => some "bool"
  | .lf (.int _) => some "int"
  | .lf (.str _) => some "str"
  | .nd _ .lst _ => some "list"
  | .nd _ .tup _ => some "tuple"
  | .nd _ (.dK _) _ => some "dict"
  | _ => none
def isiB (a b : String) : Bool := a == b || (a == "bool" && b == "int")
def isiOk (a b : String) : Bool := (["NoneType", "bool", "int", "str", "list", "tuple", "dict"].contains a) && (["bool", "int", "str", "list", "tuple", "dict"].contains b)
def oIsi (b : String) : T → Option T := fun t => (tyN t).map fun a => .lf (.bl (isiB a b))
theorem kit_all : ∀ a ∈ ["NoneType", "bool", "int", "str", "list", "tuple", "dict"], ∀ b ∈ ["bool", "int", "str", "list", "tuple", "dict"], kitB a b = some (isiB a b) := by decide +kernel
theorem tyN_ok {x : V} {t : T} {R : AS} {a : String} (le : Le F H) (r : Rep K mg F H x t R) (h : tyN t = some a) : TyX K H x (.type a) ∧ a ∈ ["NoneType", "bool", "int", "str", "list", "tuple", "dict"] := by
  unfold tyN at h
  split at h
  · cases h; rw [r.lf_inv.1]; exact ⟨.base .non, by decide⟩
  · cases h; rw [r.lf_inv.1]; exact ⟨.base (.bl _), by decide⟩
  · cases h; rw [r.lf_inv.1]; exact ⟨.base (.int _), by decide⟩
  · cases h; rw [r.lf_inv.1]; exact ⟨.base (.str _), by decide⟩
  · cases h; obtain ⟨a, vs, S0, rfl, p, _, hr⟩ := r.nd_inv le; exact ⟨.base (.lst hr), by decide⟩
  · cases h; obtain ⟨a, vs, S0, rfl, p, _, hr⟩ := r.nd_inv le; exact ⟨.base (.tup hr), by decide⟩
  · cases h; obtain ⟨a, vs, S0, rfl, p, _, hl, hr⟩ := r.nd_inv le; exact ⟨.base (.dK hr), by decide⟩
  · cases h
theorem v_isi {b : String} (hb : b ∈ ["bool", "int", "str", "list", "tuple", "dict"]) : Op1V K mg (fun x H Q => rIsi K [x, .ty b] H Q) (oIsi b) := by
  intro F H x t R u Q le r h q
  obtain ⟨a, e1, rfl⟩ := Option.map_eq_some_iff.mp h
  obtain ⟨ty, ha⟩ := tyN_ok le r e1
  exact ⟨x, _, _, _, _, rfl, .ty b, ty, kit_ty (kit_all a ha b hb), q _ Emp (.lf rfl fun _ z => z)⟩
end
end Tr


set_option Elab.async false
set_option linter.all false
set_option maxRecDepth 100000
set_option maxHeartbeats 4000000
/-! D5: expressions put together; arguments, calls. -/
namespace Tr
open PySem PySem.Spec PyProof.Rows L2

section
variable {X : Cx} {op : Operator} {co : CmpOp} {a b : Expr} {pos : Pos} {r : R2} {o : T → T → Option T} {va vb : DV} {da db : DE}
/-! ### two operands -/
theorem sv_bin (ho : OpR X (binaryOp op) r) (hv : Op2V X.K X.mg r o) (ha : SV X a va) (hb : SV X b vb) : SV X (.BinOp a op b pos) (o2V o va vb) := pew (pe_op ho ha hb) fun _ _ _ => i2V hv
theorem sr_binv (ho : OpR X (binaryOp op) r) (hv : Op2V X.K X.mg r o) (ha : SR X a da) (hb : SV X b vb) : SR X (.BinOp a op b pos) (o2v o da vb) := pew (pe_op ho ha hb) fun _ _ _ => i2v hv
theorem sr_binc (ho : OpR X (binaryOp op) r) (hv : Op2V X.K X.mg r o) (ha : SR X a da) (hb : SR X b db) : SR X (.BinOp a op b pos) (o2c o da db) := pew (pe_op ho ha hb) fun _ _ _ => i2c hv
theorem sr_bino (ho : OpR X (binaryOp op) r) (hv : Op2V X.K X.mg r o) (ha : SE X a da) (hb : SR X b db) : SR X (.BinOp a op b pos) (o2o o da db) := pew (pe_op ho ha hb) fun _ _ _ => i2o hv
theorem se_binv (ho : OpR X (binaryOp op) r) (hv : Op2E X.K X.mg r o) (ha : SR X a da) (hb : SV X b vb) : SE X (.BinOp a op b pos) (o2v o da vb) := pew (pe_op ho ha hb) fun _ _ _ => i2vE hv
theorem se_binc (ho : OpR X (binaryOp op) r) (hv : Op2E X.K X.mg r o) (ha : SR X a da) (hb : SR X b db) : SE X (.BinOp a op b pos) (o2c o da db) := pew (pe_op ho ha hb) fun _ _ _ => i2cE hv
theorem se_bino (ho : OpR X (binaryOp op) r) (hv : Op2E X.K X.mg r o) (ha : SE X a da) (hb : SR X b db) : SE X (.BinOp a op b pos) (o2o o da db) := pew (pe_op ho ha hb) fun _ _ _ => i2oE hv
theorem sv_cmp (ho : OpR X (compareOp co) r) (hv : Op2V X.K X.mg r o) (hm : behindInMarks co b = false) (ha : SV X a va) (hb : SV X b vb) : SV X (.Compare a [co] [b] pos) (o2V o va vb) := pew (pe_cmpR ho ha hb hm) fun _ _ _ => i2V hv
theorem sr_cmpv (ho : OpR X (compareOp co) r) (hv : Op2V X.K X.mg r o) (hm : behindInMarks co b = false) (ha : SR X a da) (hb : SV X b vb) : SR X (.Compare a [co] [b] pos) (o2v o da vb) := pew (pe_cmpR ho ha hb hm) fun _ _ _ => i2v hv
theorem sr_cmpc (ho : OpR X (compareOp co) r) (hv : Op2V X.K X.mg r o) (hm : behindInMarks co b = false) (ha : SR X a da) (hb : SR X b db) : SR X (.Compare a [co] [b] pos) (o2c o da db) := pew (pe_cmpR ho ha hb hm) fun _ _ _ => i2c hv
theorem sr_cmpo (ho : OpR X (compareOp co) r) (hv : Op2V X.K X.mg r o) (hm : behindInMarks co b = false) (ha : SE X a da) (hb : SR X b db) : SR X (.Compare a [co] [b] pos) (o2o o da db) := pew (pe_cmpR ho ha hb hm) fun _ _ _ => i2o hv
theorem st_cmp (ho : OpR X (compareOp co) r) (hv : Op2V X.K X.mg r o) (hm : behindInMarks co b = false) (ha : SV X a va) (hb : SV X b vb) : ST X (.Compare a [co] [b] pos) (vr (o2V o va vb)) := ptw (pt_cmpR ho ha hb hm) fun _ _ _ h => i2V hv (vr_imp h)
theorem st_cmpv (ho : OpR X (compareOp co) r) (hv : Op2V X.K X.mg r o) (hm : behindInMarks co b = false) (ha : SR X a da) (hb : SV X b vb) : ST X (.Compare a [co] [b] pos) (o2v o da vb) := ptw (pt_cmpR ho ha hb hm) fun _ _ _ h => i2v hv h
theorem st_cmpc (ho : OpR X (compareOp co) r) (hv : Op2V X.K X.mg r o) (hm : behindInMarks co b = false) (ha : SR X a da) (hb : SR X b db) : ST X (.Compare a [co] [b] pos) (o2c o da db) := ptw (pt_cmpR ho ha hb hm) fun _ _ _ h => i2c hv h
theorem st_cmpo (ho : OpR X (compareOp co) r) (hv : Op2V X.K X.mg r o) (hm : behindInMarks co b = false) (ha : SE X a da) (hb : SR X b db) : ST X (.Compare a [co] [b] pos) (o2o o da db) := ptw (pt_cmpR ho ha hb hm) fun _ _ _ h => i2o hv h
/-! ### subscripts -/
theorem sv_ix (hu : X.A.units + 1 < cLine) (ha : SV X a va) (hb : SV X b vb) (hs : PlainIx b := by exact fun _ _ => rfl) : SV X (.Subscript a b pos) (o2V oIx va vb) := pew (pe_ix (ix_all hu) ha hb hs) fun _ _ _ => i2V v_ix
theorem sr_ixv (hu : X.A.units + 1 < cLine) (ha : SR X a da) (hb : SV X b vb) (hs : PlainIx b := by exact fun _ _ => rfl) : SR X (.Subscript a b pos) (o2v oIx da vb) := pew (pe_ix (ix_all hu) ha hb hs) fun _ _ _ => i2v v_ix
theorem sr_ixc (hu : X.A.units + 1 < cLine) (ha : SR X a da) (hb : SR X b db) (hs : PlainIx b := by exact fun _ _ => rfl) : SR X (.Subscript a b pos) (o2c oIx da db) := pew (pe_ix (ix_all hu) ha hb hs) fun _ _ _ => i2c v_ix
/-- a part of a thing of one's own, the rest let go -/
theorem se_ix (hu : X.A.units + 1 < cLine) (ha : SE X a da) (hb : SV X b vb) (hs : PlainIx b := by exact fun _ _ => rfl) : SE X (.Subscript a b pos) (o2v oIx da vb) := pew (pe_ix (ix_all hu) ha hb hs) fun σ H Q q => by
  obtain ⟨F, env, S, t, env', ok, hd, q⟩ := q
  obtain ⟨x, y, h1, h3, h4⟩ := o2v_some hd
  refine ⟨F, env, S, x, _, ok, h1, fun v F1 H1 S1 R st ok1 r dj => ⟨F1, env', S1, y, ok1, h3, fun w R' r' => ?_⟩⟩
  exact ixA ok1.le r r' h4 fun v' R'' r'' hs => q v' F1 H1 S1 R'' (st.weak fun z hz => hz.elim .inl fun z => .inr (hs _ z)) ok1 r'' fun z a b => dj z a (hs z b)
/-! ### one operand -/
theorem sv_neg (ha : SV X a va) : SV X (.UnaryOp .USub a pos) (o1V oNeg va) := pew (pe_un un_neg ha) fun _ _ _ => i1V v_neg
theorem sr_neg (ha : SR X a da) : SR X (.UnaryOp .USub a pos) (o1 oNeg da) := pew (pe_un un_neg ha) fun _ _ _ => i1R v_neg
end
def oNot : T → Option T
  | .lf (.bl b) => some (.lf (.bl (!b)))
  | _ => none
theorem v_not {K : PySem.W.Frag} {mg : Mg} : Op1V K mg (fun x H Q => ∃ c, x = .bl c ∧ Q (.bl (!c)) H) oNot := by
  intro F H x t R u Q le r h q
  unfold oNot at h
  split at h
  · cases h; exact ⟨_, r.lf_inv.1, q _ Emp (.lf rfl fun _ z => z)⟩
  · cases h
theorem tR_mono {K : PySem.W.Frag} {mg : Mg} {d : DE} {σ : L2.St} {H : Hp} {Q Q' : VK} (h : tR K mg d σ H Q) (m : ∀ v H, Q v H → Q' v H) : tR K mg d σ H Q' := by
  obtain ⟨F, env, S, t, env', ok, hd, q⟩ := h
  exact ⟨F, env, S, t, env', ok, hd, fun v F' H' S' R a b c => m _ _ (q v F' H' S' R a b c)⟩
def dAnd (da db : DE) : DE := fun env => match da env with
  | some (.lf (.bl true), e) => db e
  | some (.lf (.bl false), e) => some (.lf (.bl false), e)
  | _ => none
def dOr (da db : DE) : DE := fun env => match da env with
  | some (.lf (.bl true), e) => some (.lf (.bl true), e)
  | some (.lf (.bl false), e) => db e
  | _ => none
section
variable {X : Cx} {a b : Expr} {rest : List Expr} {pos : Pos} {da db : DE} {K : PySem.W.Frag} {mg : Mg} {σ : L2.St} {H : Hp} {Q : VK}
theorem sr_not (ha : SR X a da) : SR X (.UnaryOp .Not a pos) (o1 oNot da) := pew (pe_not ha) fun _ _ _ h => i1R v_not h
theorem st_not (ha : ST X a da) : ST X (.UnaryOp .Not a pos) (o1 oNot da) := ptw (pt_not ha) fun σ H Q h => by
  have h2 := i1R v_not h
  refine tR_mono h2 fun v H ⟨c, e, k, e2, q⟩ => ?_
  cases e2
  exact ⟨c, e, q⟩
theorem and_imp (h : tR K mg (dAnd da db) σ H Q) : tR K mg da σ H fun x H1 => ∃ c, x = .bl c ∧ if c = true then tR K mg db σ H1 Q else Q (.bl false) H1 := by
  obtain ⟨F, env, S, t, env', ok, hd, q⟩ := h
  unfold dAnd at hd
  split at hd
  · rename_i e e1
    exact ⟨F, env, S, _, e, ok, e1, fun v F' H' S' R st ok' r => ⟨true, r.lf_inv.1, by
      rw [if_pos rfl]
      exact ⟨F', e, S', t, env', ok', hd, fun v2 F2 H2 S2 R2 st2 ok2 r2 => q v2 F2 H2 S2 R2 (st.trans st2) ok2 r2⟩⟩⟩
  · rename_i e e1
    cases hd
    exact ⟨F, env, S, _, _, ok, e1, fun v F' H' S' R st ok' r => ⟨false, r.lf_inv.1, by
      rw [if_neg Bool.false_ne_true]
      exact q _ F' H' S' Emp st ok' (.lf rfl fun _ z => z)⟩⟩
  · cases hd
theorem or_imp (h : tR K mg (dOr da db) σ H Q) : tR K mg da σ H fun x H1 => ∃ c, x = .bl c ∧ if c = true then Q (.bl true) H1 else tR K mg db σ H1 Q := by
  obtain ⟨F, env, S, t, env', ok, hd, q⟩ := h
  unfold dOr at hd
  split at hd
  · rename_i e e1
    cases hd
    exact ⟨F, env, S, _, _, ok, e1, fun v F' H' S' R st ok' r => ⟨true, r.lf_inv.1, by
      rw [if_pos rfl]
      exact q _ F' H' S' Emp st ok' (.lf rfl fun _ z => z)⟩⟩
  · rename_i e e1
    exact ⟨F, env, S, _, e, ok, e1, fun v F' H' S' R st ok' r => ⟨false, r.lf_inv.1, by
      rw [if_neg Bool.false_ne_true]
      exact ⟨F', e, S', t, env', ok', hd, fun v2 F2 H2 S2 R2 st2 ok2 r2 => q v2 F2 H2 S2 R2 (st.trans st2) ok2 r2⟩⟩⟩
  · cases hd
theorem sr_and1 {op} (ha : SR X a da) : SR X (.BoolOp op [a] pos) da := pe_one ha
theorem sr_and (ha : SR X a da) (hb : SR X (.BoolOp .And (b :: rest) pos) db) : SR X (.BoolOp .And (a :: b :: rest) pos) (dAnd da db) := pew (pe_and ha hb) fun _ _ _ => and_imp
theorem sr_or (ha : SR X a da) (hb : SR X (.BoolOp .Or (b :: rest) pos) db) : SR X (.BoolOp .Or (a :: b :: rest) pos) (dOr da db) := pew (pe_or ha hb) fun _ _ _ => or_imp
/-- and, or as tests -/
def SW (X : Cx) (e : Expr) (d : DE) : Prop := PW X e (tTest (tR X.K X.mg d))
theorem SW.t {e : Expr} (h : SW X e da) : ST X e da := PW.pt h
theorem sw_and1 (ha : ST X a da) : SW X (.BoolOp .And [a] pos) da := pw_and1 ha
theorem sw_or1 (ha : ST X a da) : SW X (.BoolOp .Or [a] pos) da := pw_or1 ha
theorem pww {e : Expr} {t t' : TT} (h : PW X e t) (i : ∀ σ H Q, t' σ H Q → t σ H Q) : PW X e t' := ⟨fun wh pins s σ H Q I q => h.run wh pins s σ H Q I (i σ H Q q)⟩
theorem sw_and (ha : ST X a da) (hb : SW X (.BoolOp .And (b :: rest) pos) db) : SW X (.BoolOp .And (a :: b :: rest) pos) (dAnd da db) := pww (pw_and ha hb) fun σ H Q h => by
  refine tR_mono (and_imp h) fun v H1 ⟨c, e, q⟩ => ⟨c, e, ?_⟩
  cases c with
  | true => rw [if_pos rfl] at q ⊢; exact q
  | false =>
    rw [if_neg Bool.false_ne_true] at q ⊢
    obtain ⟨k, e, q⟩ := q
    cases e
    exact q
theorem sw_or (ha : ST X a da) (hb : SW X (.BoolOp .Or (b :: rest) pos) db) : SW X (.BoolOp .Or (a :: b :: rest) pos) (dOr da db) := pww (pw_or ha hb) fun σ H Q h => by
  refine tR_mono (or_imp h) fun v H1 ⟨c, e, q⟩ => ⟨c, e, ?_⟩
  cases c with
  | false => rw [if_neg Bool.false_ne_true] at q ⊢; exact q
  | true =>
    rw [if_pos rfl] at q ⊢
    obtain ⟨k, e, q⟩ := q
    cases e
    exact q
end

/-! ### arguments -/
abbrev DA := List T → Option (List T × List T)
/-- the arguments that are lent, by their slots -/
def Bor (σ : L2.St) (bs : List (Option Nat)) (vs : List V) : Prop := ∀ (j i : Nat), bs[j]? = some (some i) → ∃ v, vs[j]? = some v ∧ σ[i]? = some (some v)
def tA (K : PySem.W.Frag) (mg : Mg) (bs : List (Option Nat)) (d : DA) : TA := fun σ H Q => ∃ F env S ts env', Ok K mg F H σ env S ∧ d env = some (ts, env') ∧
  ∀ vs F' H' S' R, Stp F H S F' H' (Cup S' R) → Ok K mg F' H' σ env' S' → Reps K mg F' H' vs ts R → Dj S' R → Bor σ bs vs → Q vs H'
def SA (X : Cx) (es : List Expr) (bs : List (Option Nat)) (d : DA) : Prop := PA X es (tA X.K X.mg bs d)
theorem paw {X : Cx} {es : List Expr} {t t' : TA} (h : PA X es t) (i : ∀ σ H Q, t' σ H Q → t σ H Q) : PA X es t' := ⟨fun pos pins s σ H Q I q => h.run pos pins s σ H Q I (i σ H Q q)⟩
def aNil : DA := fun env => some ([], env)
def aCons (da : DE) (dr : DA) : DA := fun env => (da env).bind fun p => (dr p.2).map fun q => (p.1 :: q.1, q.2)
section
variable {X : Cx} {e : Expr} {es : List Expr} {d : DE} {dr : DA} {bs : List (Option Nat)} {K : PySem.W.Frag} {mg : Mg} {σ : L2.St} {H : Hp}
theorem aCons_some {env : List T} {ts e2 : List T} (h : aCons d dr env = some (ts, e2)) : ∃ t e1 ts', d env = some (t, e1) ∧ dr e1 = some (ts', e2) ∧ ts = t :: ts' := by
  obtain ⟨⟨t, e1⟩, h1, h2⟩ := Option.bind_eq_some_iff.mp h
  obtain ⟨⟨ts', e2'⟩, h3, h4⟩ := Option.map_eq_some_iff.mp h2
  cases h4
  exact ⟨t, e1, ts', h1, h3, rfl⟩
theorem sa_nil : SA X [] [] aNil := paw pa_nil fun σ H Q ⟨F, env, S, ts, e, ok, h, q⟩ => by
  cases h
  exact q [] F H S Emp (Stp.refl.weak fun _ z => z.elim id fun z => z.elim) ok (.nil fun _ z => z) dj_emp fun j i h => by simp at h
/-- two custodies behind one another -/
theorem join_step {F F1 F2 H H1 H2 : Hp} {S S1 S2 R1 R2 : AS} (a : Stp F H S F1 H1 (Cup S1 R1)) (hR : ∀ x, R1 x → ∃ o, H1 x = some o) (dj : Dj S1 R1) (b : Stp F1 H1 S1 F2 H2 (Cup S2 R2)) :
    Stp F H S F2 H2 (Cup S2 (Cup R1 R2)) ∧ Dj R1 R2 ∧ Dj S2 R1 := by
  have d := b.dj hR dj
  refine ⟨(a.trans (b.frame R1)).weak fun x z => ?_, fun x z y => d x (.inr y) z, fun x z y => d x (.inl z) y⟩
  rcases z with z | z | z
  · exact .inl (.inl z)
  · exact .inr z
  · exact .inl (.inr z)
theorem cons_imp {Q : List V → Hp → Prop} (ta : TE) (hta : ∀ σ H Q, tE K mg d σ H Q → ta σ H Q) (h : tA K mg (none :: bs) (aCons d dr) σ H Q) : tCons ta (tA K mg bs dr) σ H Q := by
  obtain ⟨F, env, S, ts, e2, ok, hd, q⟩ := h
  obtain ⟨t, e1, ts', h1, h2, rfl⟩ := aCons_some hd
  refine hta _ _ _ ⟨F, env, S, t, e1, ok, h1, fun v F1 H1 S1 R1 st ok1 r dj => ⟨F1, e1, S1, ts', e2, ok1, h2, fun vs F2 H2 S2 R2 st2 ok2 r2 dj2 bo => ?_⟩⟩
  obtain ⟨g1, g2, g3⟩ := join_step st (fun x z => (r.dom x z).1) dj st2
  refine q (v :: vs) F2 H2 S2 (Cup R1 R2) g1 ok2 (.cons (r.keep st2 dj) r2 g2 fun _ => Iff.rfl) (fun x a b => b.elim (g3 x a) (dj2 x a)) fun j i hj => ?_
  cases j with
  | zero => simp at hj
  | succ j => exact bo j i (by simpa using hj)
theorem sa_cons (ha : SE X e d) (hr : SA X es bs dr) (hs : starEach (e :: es) X.env = (false, eval e X.env) :: starEach es X.env := by rfl) : SA X (e :: es) (none :: bs) (aCons d dr) :=
  paw (pa_cons ha hr hs) fun _ _ _ h => cons_imp _ (fun _ _ _ z => z) h
/-- a name that is lent -/
theorem sa_lend {i : Nat} {x : Str} {pos : Pos} (hr : SA X es bs dr) (hN : X.N[i]? = some x := by rfl) (hv : Vis X.env.scope x := by first | exact Or.inl rfl | exact Or.inr (Or.inl rfl) | exact Or.inr (Or.inr rfl)) (hd : (x == ("__debug__" : Str)) = false := by decide)
    (hcd : (x == ("__classdict__" : Str)) = false := by decide) (hs : starEach (.Name x pos :: es) X.env = (false, eval (.Name x pos) X.env) :: starEach es X.env := by rfl) : SA X (.Name x pos :: es) (some i :: bs) (aCons (gM i) dr) :=
  paw (pa_cons (pe_var hN hv hd hcd) hr hs) fun σ H Q h => by
    obtain ⟨F, env, S, ts, e2, ok, hd, q⟩ := h
    obtain ⟨t, e1, ts', h1, h2, rfl⟩ := aCons_some hd
    unfold gM at h1
    cases e0 : gV i env with
    | none => rw [e0] at h1; cases h1
    | some t' =>
      rw [e0] at h1; cases h1
      obtain ⟨g1, g2⟩ := gV_some e0
      obtain ⟨v, A, B, ev, r, d, hS, rest⟩ := ok.st.slot g1 g2
      have ok1 : Ok X.K X.mg F H σ (env.set i .no) (Cup Emp B) := ⟨ok.le, by
        have := rest F H (some v) .no Emp (Le.refl _) (fun y z => ⟨rfl, (ok.st.dom y ((hS y).mpr (.inr z))).2⟩) (.no fun _ z => z) emp_dj
        rwa [set_self' ev] at this⟩
      have st1 : Stp F H S F H (Cup (Cup Emp B) A) := ⟨Le.refl _, fun _ _ z _ => z, fun _ _ z => .inl z, fun y z => .inl ((hS y).mpr (z.elim (fun z => .inr (z.elim (fun z => z.elim) id)) .inl))⟩
      have dj1 : Dj (Cup Emp B) A := fun y z a => z.elim (fun z => z.elim) fun z => d y a z
      refine ⟨v, ev, F, _, _, ts', e2, ok1, h2, fun vs F2 H2 S2 R2 st2 ok2 r2 dj2 bo => ?_⟩
      obtain ⟨k1, k2, k3⟩ := join_step st1 (fun x z => (r.dom x z).1) dj1 st2
      refine q (v :: vs) F2 H2 S2 (Cup A R2) k1 ok2 (.cons (r.keep st2 dj1) r2 k2 fun _ => Iff.rfl) (fun x a b => b.elim (k3 x a) (dj2 x a)) fun j k hj => ?_
      cases j with
      | zero => simp at hj; subst hj; exact ⟨v, rfl, ev⟩
      | succ j => exact bo j k (by simpa using hj)
end

/-! ### what a def promises -/
abbrev FT := List T → Option (T × List T)
def spD (K : PySem.W.Frag) (mg : Mg) (n : Nat) (f : FT) : Sp := fun vs H Q _ => vs.length = n ∧ ∃ F S ts r ts', Le F H ∧ Reps K mg F H vs ts S ∧ f ts = some (r, ts') ∧
  ∀ v F' H' R S', Stp F H S F' H' (Cup R S') → Le F' H' → Rep K mg F' H' v r R → Reps K mg F' H' vs ts' S' → Dj R S' → Q v H'
/-- what was lent is put back -/
def wb : List (Option Nat) → List T → List T → Option (List T)
  | some i :: bs, t :: ts, env => match env[i]? with
    | some .no => wb bs ts (env.set i t)
    | _ => none
  | none :: bs, _ :: ts, env => wb bs ts env
  | [], _, env => some env
  | _, _, _ => none
def dCall (f : FT) (bs : List (Option Nat)) (dv : List V) (da : DA) : DE := fun env => (da env).bind fun p => (f (p.1 ++ dv.map .lf)).bind fun r => (wb bs r.2 p.2).map fun e => (r.1, e)
section
variable {K : PySem.W.Frag} {mg : Mg} {F H : Hp} {σ : L2.St}
theorem wb_ok : ∀ {bs : List (Option Nat)} {ts env env' : List T} {vs : List V} {S S' : AS}, wb bs ts env = some env' → Ok K mg F H σ env S → Reps K mg F H vs ts S' → Dj S S' → Bor σ bs vs → ∃ S2, Ok K mg F H σ env' S2 ∧ ∀ x, S2 x → S x ∨ S' x := by
  intro bs
  induction bs with
  | nil => intro ts env env' vs S S' h ok r dj bo; simp [wb] at h; subst h; exact ⟨S, ok, fun _ z => .inl z⟩
  | cons b bs ih =>
    intro ts env env' vs S S' h ok r dj bo
    cases ts with
    | nil => cases b <;> simp [wb] at h
    | cons t ts =>
      cases r with
      | @cons v _ vs _ _ S1 S2 r q d hS =>
        have bo' : Bor σ bs vs := fun j i e => by
          obtain ⟨w, e1, e2⟩ := bo (j + 1) i (by simpa using e)
          exact ⟨w, by simpa using e1, e2⟩
        cases b with
        | none =>
          rw [wb] at h
          obtain ⟨S3, g1, g2⟩ := ih h ok q (fun x a b => dj x a ((hS x).mpr (.inr b))) bo'
          exact ⟨S3, g1, fun x z => (g2 x z).elim .inl fun z => .inr ((hS x).mpr (.inr z))⟩
        | some i =>
          rw [wb] at h
          split at h
          · rename_i e0
            obtain ⟨s, A, B, e1, e2, e3, e4, rest⟩ := ok.st.split e0
            obtain ⟨w, ew, es⟩ := bo 0 i rfl
            simp at ew
            subst ew
            rw [e1] at es
            have es' : s = some v := by simpa using es
            subst es'
            have B_S : ∀ x, B x → S x := fun x z => (e4 x).mpr (.inr z)
            have hn := rest F H (some v) t S1 (Le.refl _) (fun y z => ⟨rfl, (ok.st.dom y (B_S y z)).2⟩) r fun x a b => dj x (B_S x b) ((hS x).mpr (.inl a))
            rw [set_self' e1] at hn
            obtain ⟨S3, g1, g2⟩ := ih h ⟨ok.le, hn⟩ q (fun x a b => a.elim (fun a => d x a b) fun a => dj x (B_S x a) ((hS x).mpr (.inr b))) bo'
            exact ⟨S3, g1, fun x z => (g2 x z).elim (fun z => z.elim (fun z => .inr ((hS x).mpr (.inl z))) fun z => .inl (B_S x z)) fun z => .inr ((hS x).mpr (.inr z))⟩
          · cases h
theorem dvs_reps : ∀ {dv : List V}, dv.all sc = true → Reps K mg F H dv (dv.map .lf) Emp
  | [], _ => .nil fun _ z => z
  | v :: dv, h => by
    simp only [List.all_cons, Bool.and_eq_true] at h
    exact .cons (S1 := Emp) (S2 := Emp) (.lf h.1 fun _ z => z) (dvs_reps h.2) dj_emp fun x => ⟨fun z => z.elim, fun z => z.elim id id⟩
theorem Bor.app {bs : List (Option Nat)} {vs ws : List V} (h : Bor σ bs vs) : Bor σ bs (vs ++ ws) := fun j i e => by
  obtain ⟨v, e1, e2⟩ := h j i e
  exact ⟨v, by rw [List.getElem?_append_left (List.getElem?_eq_some_iff.mp e1).1]; exact e1, e2⟩
theorem dCall_some {f : FT} {bs : List (Option Nat)} {dv : List V} {da : DA} {env : List T} {t : T} {e : List T} (h : dCall f bs dv da env = some (t, e)) :
    ∃ ts e1 ts', da env = some (ts, e1) ∧ f (ts ++ dv.map .lf) = some (t, ts') ∧ wb bs ts' e1 = some e := by
  obtain ⟨⟨ts, e1⟩, h1, h2⟩ := Option.bind_eq_some_iff.mp h
  obtain ⟨⟨r, ts'⟩, h3, h4⟩ := Option.bind_eq_some_iff.mp h2
  obtain ⟨e', h5, h6⟩ := Option.map_eq_some_iff.mp h4
  cases h6
  exact ⟨ts, e1, ts', h1, h3, h5⟩
/-- the callee's end -/
theorem call_end {F0 H0 F1 H1 : Hp} {S S1 R : AS} {e1 e : List T} {f : FT} {bs : List (Option Nat)} {vs : List V} {ts ts' : List T} {t : T} {n : Nat} {Q : VK} {E : XK}
    (st : Stp F0 H0 S F1 H1 (Cup S1 R)) (ok1 : Ok K mg F1 H1 σ e1 S1) (r : Reps K mg F1 H1 vs ts R) (dj : Dj S1 R) (bo : Bor σ bs vs) (hf : f ts = some (t, ts')) (hw : wb bs ts' e1 = some e) (hn : vs.length = n)
    (q : ∀ v F' H' S' R', Stp F0 H0 S F' H' (Cup S' R') → Ok K mg F' H' σ e S' → Rep K mg F' H' v t R' → Dj S' R' → Q v H') : spD K mg n f vs H1 Q E := by
  refine ⟨hn, F1, R, ts, t, ts', ok1.le, r, hf, fun v F' H' R' S' st2 le2 r2 rs dj2 => ?_⟩
  have ok2 := ok1.keep st2 dj.symm le2
  have dj3 : Dj S1 (Cup R' S') := fun x a b => (st2.dj (fun y z => (ok1.st.dom y z).1) dj.symm) x b a
  obtain ⟨S2, g1, g2⟩ := wb_ok hw ok2 rs (fun x a b => dj3 x a (.inr b)) bo
  refine q v F' H' S2 R' ((st.trans (st2.frameL S1)).weak fun x z => ?_) g1 r2 fun x a b => ?_
  · exact z.elim (fun z => (g2 x z).elim .inl fun z => .inr (.inr z)) fun z => .inr (.inl z)
  · exact (g2 x a).elim (fun z => dj3 x z (.inl b)) fun z => dj2 x b z
/-- a def's mirror takes that many arguments -/
def FLen (f : FT) (n : Nat) : Prop := ∀ ts r, f ts = some r → ts.length = n
theorem call_imp {f : FT} {bs : List (Option Nat)} {dv : List V} {da : DA} {n : Nat} {Q : VK} {E : XK} (hdv : dv.all sc = true) (hn : FLen f n) (h : tE K mg (dCall f bs dv da) σ H Q) : tCall (spD K mg n f) dv E (tA K mg bs da) σ H Q := by
  obtain ⟨F, env, S, t, e, ok, hd, q⟩ := h
  obtain ⟨ts, e1, ts', h1, h2, h3⟩ := dCall_some hd
  refine ⟨F, env, S, ts, e1, ok, h1, fun vs F1 H1 S1 R st ok1 r dj bo => ?_⟩
  have rr := (Reps.append (dvs_reps hdv) r dj_emp).iff (S' := R) fun x => ⟨.inl, fun z => z.elim id fun z => z.elim⟩
  exact call_end (Q := Q) (E := E) st ok1 rr dj bo.app h2 h3 ((rr.length (S := Emp)).trans (hn _ _ h2)) q
end
end Tr


set_option Elab.async false
set_option linter.all false
set_option maxRecDepth 100000
set_option maxHeartbeats 4000000
/-! D6: calls of defs, methods, constructors; displays, attributes, built-ins. -/
namespace Tr
open PySem PySem.Spec PyProof.Rows L2

section
variable {X : Cx} {f : Addr} {fd : FuncData} {ps : List Str} {k n : Nat} {g : FT} {x : Str} {p pos apos : Pos} {e o : Expr} {es : List Expr} {bs : List (Option Nat)} {da : DA} {dv : List V} {ds : List Value}
theorem se_call (F : FnOk X.prog X.w X.K X.mg X.base CX0 k f fd ps (spD X.K X.mg n g)) (hn : FLen g n) (hr : Room k X.A) (hg : Gl X x) (hm : X.mg x = some (.ref f)) (hk : PySem.W.keepIn X.K (.ref f) = true) (hb : Binds X.K fd ps ds) (hd : Vals dv ds) (ha : SA X (e :: es) bs da)
    (hs : dv.all sc = true := by rfl) (hdb : (x == ("__debug__" : Str)) = false := by decide) (he : starEach (e :: es) X.env = (false, eval e X.env) :: starEach es X.env := by rfl) (hpl : (backTo pos (starEach es X.env)).any (·.1) = false := by rfl) :
    SE X (.Call (.Name x p) (e :: es) [] pos) (dCall g bs dv da) := pew (pe_call F hr hg hm hk hb hd pass0 ha hdb he hpl) fun _ _ _ h => call_imp hs hn h
theorem nil_imp {K : PySem.W.Frag} {mg : Mg} {σ : L2.St} {H : Hp} {Q : List V → Hp → Prop} (h : tA K mg [] aNil σ H Q) : tNil σ H Q := by
  obtain ⟨F, env, S, ts, e, ok, h, q⟩ := h
  cases h
  exact q [] F H S Emp (Stp.refl.weak fun _ z => z.elim id fun z => z.elim) ok (.nil fun _ z => z) dj_emp fun j i h => by simp at h
theorem se_call0 (F : FnOk X.prog X.w X.K X.mg X.base CX0 k f fd ps (spD X.K X.mg n g)) (hn : FLen g n) (hr : Room k X.A) (hg : Gl X x) (hm : X.mg x = some (.ref f)) (hk : PySem.W.keepIn X.K (.ref f) = true) (hb : Binds X.K fd ps ds) (hd : Vals dv ds)
    (hs : dv.all sc = true := by rfl) (hdb : (x == ("__debug__" : Str)) = false := by decide) :
    SE X (.Call (.Name x p) [] [] pos) (dCall g [] dv aNil) := pew (pe_call0 F hr hg hm hk hb hd pass0 hdb) fun _ _ _ h => nil_imp (call_imp hs hn h)
end

/-! ### methods: the receiver's class is looked at -/
/-- an instance of the class c without an attribute m -/
def isIns (c m : Str) : T → Bool
  | .nd _ (.ins c' ns) _ => decide (c' = c) && ns.all fun a => decide (¬ a = m)
  | _ => false
def dMeth (c m : Str) (f : FT) (b0 : Option Nat) (bs : List (Option Nat)) (dv : List V) (d0 : DE) (da : DA) : DE := fun env => (d0 env).bind fun p => if isIns c m p.1 = true then dCall f (b0 :: bs) dv (fun _ => (da p.2).map fun q => (p.1 :: q.1, q.2)) env else none
section
variable {K : PySem.W.Frag} {mg : Mg} {F H : Hp} {σ : L2.St}
theorem lookup_zip_none {m : Str} : ∀ {ns : List Str} {vs : List V}, (ns.all fun a => decide (¬ a = m)) = true → (ns.zip vs).lookup m = none
  | [], _, _ => rfl
  | _ :: _, [], _ => rfl
  | a :: ns, v :: vs, h => by
    simp only [List.all_cons, Bool.and_eq_true, decide_eq_true_eq] at h
    have ih := lookup_zip_none (vs := vs) h.2
    have e : (m == a) = false := beq_eq_false_iff_ne.mpr fun z => h.1 z.symm
    rw [List.zip_cons_cons, List.lookup_cons, e]
    exact ih
theorem isIns_ok {c m : Str} {C : Addr} {v : V} {t : T} {R : AS} (le : Le F H) (hc : mg c = some (.ref C)) (r : Rep K mg F H v t R) (h : isIns c m t = true) : ∃ a dx fs, v = .ref a ∧ H a = some (.ins C dx fs) ∧ fs.lookup m = none := by
  unfold isIns at h
  split at h
  · rename_i o c' ns xs
    simp only [Bool.and_eq_true, decide_eq_true_eq] at h
    obtain ⟨h1, h2⟩ := h
    subst h1
    obtain ⟨a, vs, S0, rfl, q, _, hl, C', dx, hr, hm⟩ := r.nd_inv le
    rw [hc] at hm
    cases hm
    exact ⟨a, dx, _, rfl, hr, lookup_zip_none (by simpa using h2)⟩
  · cases h
theorem dMeth_some {c m : Str} {f : FT} {b0 : Option Nat} {bs : List (Option Nat)} {dv : List V} {d0 : DE} {da : DA} {env : List T} {t : T} {e : List T} (h : dMeth c m f b0 bs dv d0 da env = some (t, e)) :
    ∃ t0 e0 ts e1 ts', d0 env = some (t0, e0) ∧ isIns c m t0 = true ∧ da e0 = some (ts, e1) ∧ f (t0 :: (ts ++ dv.map .lf)) = some (t, ts') ∧ wb (b0 :: bs) ts' e1 = some e := by
  obtain ⟨⟨t0, e0⟩, h1, h2⟩ := Option.bind_eq_some_iff.mp h
  split at h2
  · rename_i hi
    obtain ⟨ts, e1, ts', h3, h4, h5⟩ := dCall_some h2
    obtain ⟨⟨us, e2⟩, h6, h7⟩ := Option.map_eq_some_iff.mp h3
    cases h7
    exact ⟨t0, e0, us, _, ts', h1, hi, h6, h4, h5⟩
  · cases h2
/-- the receiver is one's own value -/
theorem meth_imp {c m : Str} {C : Addr} {f : FT} {bs : List (Option Nat)} {dv : List V} {d0 : DE} {da : DA} {n : Nat} {Q : VK} {E : XK} (hc : mg c = some (.ref C)) (hdv : dv.all sc = true) (hn : FLen f n) (h : tE K mg (dMeth c m f none bs dv d0 da) σ H Q) :
    tMeth C m (spD K mg n f) dv E (tE K mg d0) (tA K mg bs da) σ H Q := by
  obtain ⟨F, env, S, t, e, ok, hd, q⟩ := h
  obtain ⟨t0, e0, ts, e1, ts', h1, hi, h2, h3, h4⟩ := dMeth_some hd
  refine ⟨F, env, S, t0, e0, ok, h1, fun v F1 H1 S1 R1 st ok1 r dj => ?_⟩
  obtain ⟨a, dx, fs, ev, g1, g2⟩ := isIns_ok ok1.le hc r hi
  refine ⟨a, dx, fs, ev, g1, g2, F1, e0, S1, ts, e1, ok1, h2, fun vs F2 H2 S2 R2 st2 ok2 r2 dj2 bo => ?_⟩
  obtain ⟨k1, k2, k3⟩ := join_step st (fun x z => (r.dom x z).1) dj st2
  have rr := (Reps.append (dvs_reps hdv) r2 dj_emp).iff (S' := R2) fun x => ⟨.inl, fun z => z.elim id fun z => z.elim⟩
  have rc : Reps K mg F2 H2 (v :: (vs ++ dv)) (t0 :: (ts ++ dv.map .lf)) (Cup R1 R2) := .cons (r.keep st2 dj) rr k2 fun _ => Iff.rfl
  refine call_end (bs := none :: bs) k1 ok2 rc (fun x a b => b.elim (k3 x a) (dj2 x a)) (fun j i hj => ?_) h3 h4 ((rc.length (S := Emp)).trans (hn _ _ h3)) q
  cases j with
  | zero => simp at hj
  | succ j => exact bo.app j i (by simpa using hj)
/-- the receiver is a name that is lent -/
theorem methL_imp {c m : Str} {C : Addr} {f : FT} {i : Nat} {bs : List (Option Nat)} {dv : List V} {da : DA} {n : Nat} {Q : VK} {E : XK} (hc : mg c = some (.ref C)) (hdv : dv.all sc = true) (hn : FLen f n) (h : tE K mg (dMeth c m f (some i) bs dv (gM i) da) σ H Q) :
    tMeth C m (spD K mg n f) dv E (tVar i) (tA K mg bs da) σ H Q := by
  obtain ⟨F, env, S, t, e, ok, hd, q⟩ := h
  obtain ⟨t0, e0, ts, e1, ts', h1, hi, h2, h3, h4⟩ := dMeth_some hd
  unfold gM at h1
  cases eq0 : gV i env with
  | none => rw [eq0] at h1; cases h1
  | some t' =>
    rw [eq0] at h1; cases h1
    obtain ⟨g1, g2⟩ := gV_some eq0
    obtain ⟨v, A, B, ev, r, d, hS, rest⟩ := ok.st.slot g1 g2
    have ok1 : Ok K mg F H σ (env.set i .no) (Cup Emp B) := ⟨ok.le, by
      have := rest F H (some v) .no Emp (Le.refl _) (fun y z => ⟨rfl, (ok.st.dom y ((hS y).mpr (.inr z))).2⟩) (.no fun _ z => z) emp_dj
      rwa [set_self' ev] at this⟩
    have st1 : Stp F H S F H (Cup (Cup Emp B) A) := ⟨Le.refl _, fun _ _ z _ => z, fun _ _ z => .inl z, fun y z => .inl ((hS y).mpr (z.elim (fun z => .inr (z.elim (fun z => z.elim) id)) .inl))⟩
    have dj1 : Dj (Cup Emp B) A := fun y z a => z.elim (fun z => z.elim) fun z => d y a z
    obtain ⟨a, dx, fs, ev', k1, k2⟩ := isIns_ok ok.le hc r hi
    refine ⟨v, ev, a, dx, fs, ev', k1, k2, F, _, _, ts, e1, ok1, h2, fun vs F2 H2 S2 R2 st2 ok2 r2 dj2 bo => ?_⟩
    obtain ⟨k1, k2, k3⟩ := join_step st1 (fun x z => (r.dom x z).1) dj1 st2
    have rr := (Reps.append (dvs_reps hdv) r2 dj_emp).iff (S' := R2) fun x => ⟨.inl, fun z => z.elim id fun z => z.elim⟩
    have rc : Reps K mg F2 H2 (v :: (vs ++ dv)) (t0 :: (ts ++ dv.map .lf)) (Cup A R2) := .cons (r.keep st2 dj1) rr k2 fun _ => Iff.rfl
    refine call_end (bs := some i :: bs) k1 ok2 rc (fun x a b => b.elim (k3 x a) (dj2 x a)) (fun j k hj => ?_) h3 h4 ((rc.length (S := Emp)).trans (hn _ _ h3)) q
    cases j with
    | zero => simp at hj; subst hj; exact ⟨v, rfl, ev⟩
    | succ j => exact bo.app j k (by simpa using hj)
end
section
variable {X : Cx} {C f : Addr} {fd : FuncData} {ps : List Str} {k n : Nat} {g : FT} {c m x : Str} {p pos apos : Pos} {e o : Expr} {es : List Expr} {bs : List (Option Nat)} {d0 : DE} {da : DA} {dv : List V} {ds : List Value}
theorem se_meth {pl : Sem Bool} (hc : X.mg c = some (.ref C)) (cl : Cls X.K C) (hm : Meth X.K C m f) (F : FnOk X.prog X.w X.K X.mg X.base CX0 k f fd ps (spD X.K X.mg n g)) (hn : FLen g n) (hr : Room k X.A) (hb : Binds X.K fd ps ds) (hd : Vals dv ds) (ho : SE X o d0) (ha : SA X (e :: es) bs da)
    (hs : dv.all sc = true := by rfl) (hst : starEach (e :: es) X.env = (false, eval e X.env) :: starEach es X.env := by rfl) (hpl : (backTo pos (starEach es X.env)).any (·.1) = false := by rfl)
    (ht : eval (.Call (.Attribute o m apos) (e :: es) [] pos) X.env = (do
      let ov ← eval o X.env
      standAt apos.atName
      let (f, first) ← holding [ov] (getMethod ov m pl)
      callWith pos f first (backTo pos (starEach (e :: es) X.env)) (backToKw pos (keywordEach [] X.env))) := by rfl) :
    SE X (.Call (.Attribute o m apos) (e :: es) [] pos) (dMeth c m g none bs dv d0 da) := pew (pe_meth (pl := pl) ho cl hm F hr hb hd pass0 ha hst hpl ht) fun _ _ _ h => meth_imp hc hs hn h
theorem se_meth0 {pl : Sem Bool} (hc : X.mg c = some (.ref C)) (cl : Cls X.K C) (hm : Meth X.K C m f) (F : FnOk X.prog X.w X.K X.mg X.base CX0 k f fd ps (spD X.K X.mg n g)) (hn : FLen g n) (hr : Room k X.A) (hb : Binds X.K fd ps ds) (hd : Vals dv ds) (ho : SE X o d0)
    (hs : dv.all sc = true := by rfl)
    (ht : eval (.Call (.Attribute o m apos) [] [] pos) X.env = (do
      let ov ← eval o X.env
      standAt apos.atName
      let (f, first) ← holding [ov] (getMethod ov m pl)
      callWith pos f first (backTo pos (starEach [] X.env)) (backToKw pos (keywordEach [] X.env))) := by rfl) :
    SE X (.Call (.Attribute o m apos) [] [] pos) (dMeth c m g none [] dv d0 aNil) := pew (pe_meth0 (pl := pl) ho cl hm F hr hb hd pass0 ht) fun _ _ _ h => by
      have h2 := meth_imp (E := E0) hc hs hn h
      obtain ⟨F, env, S, t, e, ok, hd, q⟩ := h2
      exact ⟨F, env, S, t, e, ok, hd, fun v F' H' S' R a b c d => by
        obtain ⟨a, dx, fs, e1, e2, e3, e4⟩ := q v F' H' S' R a b c d
        exact ⟨a, dx, fs, e1, e2, e3, nil_imp e4⟩⟩
theorem se_methL {pl : Sem Bool} {i : Nat} {px : Pos} (hc : X.mg c = some (.ref C)) (cl : Cls X.K C) (hm : Meth X.K C m f) (F : FnOk X.prog X.w X.K X.mg X.base CX0 k f fd ps (spD X.K X.mg n g)) (hn : FLen g n) (hr : Room k X.A) (hb : Binds X.K fd ps ds) (hd : Vals dv ds) (ha : SA X (e :: es) bs da)
    (hN : X.N[i]? = some x := by rfl) (hv : Vis X.env.scope x := by first | exact Or.inl rfl | exact Or.inr (Or.inl rfl) | exact Or.inr (Or.inr rfl)) (hdd : (x == ("__debug__" : Str)) = false := by decide) (hcd : (x == ("__classdict__" : Str)) = false := by decide)
    (hs : dv.all sc = true := by rfl) (hst : starEach (e :: es) X.env = (false, eval e X.env) :: starEach es X.env := by rfl) (hpl : (backTo pos (starEach es X.env)).any (·.1) = false := by rfl)
    (ht : eval (.Call (.Attribute (.Name x px) m apos) (e :: es) [] pos) X.env = (do
      let ov ← eval (.Name x px) X.env
      standAt apos.atName
      let (f, first) ← holding [ov] (getMethod ov m pl)
      callWith pos f first (backTo pos (starEach (e :: es) X.env)) (backToKw pos (keywordEach [] X.env))) := by rfl) :
    SE X (.Call (.Attribute (.Name x px) m apos) (e :: es) [] pos) (dMeth c m g (some i) bs dv (gM i) da) := pew (pe_meth (pl := pl) (pe_var hN hv hdd hcd) cl hm F hr hb hd pass0 ha hst hpl ht) fun _ _ _ h => methL_imp hc hs hn h
theorem se_methL0 {pl : Sem Bool} {i : Nat} {px : Pos} (hc : X.mg c = some (.ref C)) (cl : Cls X.K C) (hm : Meth X.K C m f) (F : FnOk X.prog X.w X.K X.mg X.base CX0 k f fd ps (spD X.K X.mg n g)) (hn : FLen g n) (hr : Room k X.A) (hb : Binds X.K fd ps ds) (hd : Vals dv ds)
    (hN : X.N[i]? = some x := by rfl) (hv : Vis X.env.scope x := by first | exact Or.inl rfl | exact Or.inr (Or.inl rfl) | exact Or.inr (Or.inr rfl)) (hdd : (x == ("__debug__" : Str)) = false := by decide) (hcd : (x == ("__classdict__" : Str)) = false := by decide)
    (hs : dv.all sc = true := by rfl)
    (ht : eval (.Call (.Attribute (.Name x px) m apos) [] [] pos) X.env = (do
      let ov ← eval (.Name x px) X.env
      standAt apos.atName
      let (f, first) ← holding [ov] (getMethod ov m pl)
      callWith pos f first (backTo pos (starEach [] X.env)) (backToKw pos (keywordEach [] X.env))) := by rfl) :
    SE X (.Call (.Attribute (.Name x px) m apos) [] [] pos) (dMeth c m g (some i) [] dv (gM i) aNil) := pew (pe_meth0 (pl := pl) (pe_var hN hv hdd hcd) cl hm F hr hb hd pass0 ht) fun _ _ _ h => by
      obtain ⟨v, ev, a, dx, fs, e1, e2, e3, e4⟩ := methL_imp (E := E0) hc hs hn h
      exact ⟨v, ev, a, dx, fs, e1, e2, e3, nil_imp e4⟩
end

/-! ### making an instance -/
def dMake (c : Str) (f : FT) (bs : List (Option Nat)) (dv : List V) (da : DA) : DE := fun env => (da env).bind fun p => match f (.nd true (.ins c []) [] :: (p.1 ++ dv.map .lf)) with
  | some (.lf .non, t :: ts') => (wb bs ts' p.2).map fun e => (t, e)
  | _ => none
section
variable {K : PySem.W.Frag} {mg : Mg} {σ : L2.St} {H : Hp}
theorem make_imp {c : Str} {C : Addr} {f : FT} {bs : List (Option Nat)} {dv : List V} {da : DA} {n : Nat} {Q : VK} {E : XK} (hc : mg c = some (.ref C)) (hdv : dv.all sc = true) (hn : FLen f n) (h : tE K mg (dMake c f bs dv da) σ H Q) : tMake C (spD K mg n f) dv E (tA K mg bs da) σ H Q := by
  obtain ⟨F, env, S, t, e, ok, hd, q⟩ := h
  obtain ⟨⟨ts, e1⟩, h1, h2⟩ := Option.bind_eq_some_iff.mp hd
  split at h2
  · rename_i t0 ts' h3
    obtain ⟨e', h4, h5⟩ := Option.map_eq_some_iff.mp h2
    cases h5
    refine ⟨F, env, S, ts, e1, ok, h1, fun vs F1 H1 S1 R st ok1 r dj bo => fun x dx hx hdx ne => ?_⟩
    have hxR : ¬ R x := fun z => by obtain ⟨⟨o, e⟩, _⟩ := r.dom x z; rw [hx] at e; cases e
    have hxS : ¬ S1 x := fun z => by obtain ⟨⟨o, e⟩, _⟩ := ok1.st.dom x z; rw [hx] at e; cases e
    -- the heap with the new instance
    have st2 : Stp F1 H1 Emp F1 (upd (upd H1 dx (.own x)) x (.ins C dx [])) (fun y => y = x) := by
      refine ⟨Le.refl _, fun a o e _ => ?_, fun _ _ e => .inl e, fun a e => .inr (by rw [e]; exact hx)⟩
      rw [upd_ne (ne_of_none e hx), upd_ne (ne_of_none e hdx)]
      exact e
    have le2 : Le F1 (upd (upd H1 dx (.own x)) x (.ins C dx [])) := fun a o e => st2.kp a o (ok1.le a o e) fun z => z
    obtain ⟨a1, a2, a3⟩ := fin_new (σ := σ) (st.weak fun _ z => .inl z) ok1 st2 le2
    have rv := r.keep st2 emp_dj
    have rr := (Reps.append (dvs_reps hdv) rv dj_emp).iff (S' := R) fun x => ⟨.inl, fun z => z.elim id fun z => z.elim⟩
    have rx : Rep K mg F1 (upd (upd H1 dx (.own x)) x (.ins C dx [])) (.ref x) (.nd true (.ins c []) []) (fun y => y = x) :=
      .own (o := .ins C dx []) (vs := []) (S0 := Emp) upd_same (ok1.le.nn hx) ⟨rfl, C, dx, rfl, hc⟩ (.nil fun _ z => z) (fun z => z) fun y => ⟨.inl, fun z => z.elim id fun z => z.elim⟩
    have rc : Reps K mg F1 (upd (upd H1 dx (.own x)) x (.ins C dx [])) (.ref x :: (vs ++ dv)) (.nd true (.ins c []) [] :: (ts ++ dv.map .lf)) (Cup (fun y => y = x) R) := .cons rx rr (fun y a b => hxR (a ▸ b)) fun _ => Iff.rfl
    refine ⟨(rc.length (S := Emp)).trans (hn _ _ h3), F1, _, _, _, _, le2, rc, h3, fun v F' H' R' S' st3 le3 r3 rs dj3 => ⟨(r3.lf_inv).1, ?_⟩⟩
    cases rs with
    | @cons _ _ _ _ _ T1 T2 q1 q2 d hT =>
      have stA : Stp F H S F' H' (Cup S1 (Cup R' S')) := by
        have b1 : Stp F1 H1 (Cup S1 R) F1 (upd (upd H1 dx (.own x)) x (.ins C dx [])) (Cup S1 (Cup (fun y => y = x) R)) := by
          have := st2.frame (Cup S1 R)
          exact (this.big fun y z => z.elim (fun z => z.elim) id).weak fun y z => z.elim (fun z => .inr (.inl z)) fun z => z.elim (fun z => .inl z) fun z => .inr (.inr z)
        exact (st.trans b1).trans (st3.frameL S1)
      have djS : Dj (Cup (fun y => y = x) R) S1 := fun y a b => a.elim (fun a => hxS (a ▸ b)) fun a => dj y b a
      have ok3 := a2.keep st3 djS le3
      have dj4 : Dj S1 (Cup R' S') := fun y a b => (st3.dj (fun y z => (a2.st.dom y z).1) djS) y b a
      obtain ⟨S2, g1, g2⟩ := wb_ok (bs := bs) h4 ok3 q2 (fun y a b => dj4 y a (.inr ((hT y).mpr (.inr b)))) (fun j i e => by
        obtain ⟨w, e1, e2⟩ := bo j i e
        exact ⟨w, by rw [List.getElem?_append_left (List.getElem?_eq_some_iff.mp e1).1]; exact e1, e2⟩)
      refine q (.ref x) F' H' S2 T1 (stA.weak fun y z => ?_) g1 q1 fun y a b => ?_
      · exact z.elim (fun z => (g2 y z).elim .inl fun z => .inr (.inr ((hT y).mpr (.inr z)))) fun z => .inr (.inr ((hT y).mpr (.inl z)))
      · exact (g2 y a).elim (fun z => dj4 y z (.inr ((hT y).mpr (.inl b)))) fun z => d y b z
  · cases h2
end
section
variable {X : Cx} {C f : Addr} {fd : FuncData} {ps : List Str} {k n : Nat} {g : FT} {x : Str} {p pos apos : Pos} {e o : Expr} {es : List Expr} {bs : List (Option Nat)} {da : DA} {dv : List V} {ds : List Value}
theorem se_make (M : Mk X.K C f) (F : FnOk X.prog X.w X.K X.mg X.base CX0 k f fd ps (spD X.K X.mg n g)) (hn : FLen g n) (hr : Room (k + 1) X.A) (hg : Gl X x) (hm : X.mg x = some (.ref C)) (hb : Binds X.K fd ps ds) (hd : Vals dv ds) (ha : SA X (e :: es) bs da)
    (hs : dv.all sc = true := by rfl) (hdb : (x == ("__debug__" : Str)) = false := by decide) (he : starEach (e :: es) X.env = (false, eval e X.env) :: starEach es X.env := by rfl) (hpl : (backTo pos (starEach es X.env)).any (·.1) = false := by rfl) :
    SE X (.Call (.Name x p) (e :: es) [] pos) (dMake x g bs dv da) := pew (pe_make M F hr hg hm hb hd pass0 ha hdb he hpl) fun _ _ _ h => make_imp hm hs hn h
end

/-! ### displays -/
def dLst (da : DA) : DE := fun env => (da env).bind fun p => if p.1.length ≤ sizeLine then some (.nd true .lst p.1, p.2) else none
def dTup (da : DA) : DE := fun env => (da env).bind fun p => if p.1.length ≤ sizeLine then some (.nd false .tup p.1, p.2) else none
def dDic : DE := fun env => some (.nd true (.dK []) [], env)
section
variable {X : Cx} {pos : Pos} {es : List Expr} {da : DA} {bs : List (Option Nat)}
theorem se_lst (ha : SA X es bs da) : SE X (.List es pos) (dLst da) := pew (pe_lst ha) fun σ H Q h => by
  obtain ⟨F, env, S, t, e, ok, hd, q⟩ := h
  obtain ⟨⟨ts, e1⟩, h1, h2⟩ := Option.bind_eq_some_iff.mp hd
  split at h2
  · rename_i hl
    cases h2
    refine ⟨F, env, S, ts, _, ok, h1, fun vs F1 H1 S1 R st ok1 r dj bo => ⟨by rw [r.length (S := Emp)]; exact hl, fun p hp => ?_⟩⟩
    have fp : F1 p = none := ok1.le.nn hp
    have hpS : ∀ y, S1 y → y ≠ p := fun y z e => by obtain ⟨⟨o, e'⟩, _⟩ := ok1.st.dom y z; rw [e, hp] at e'; cases e'
    have hpR : ∀ y, R y → y ≠ p := fun y z e => by obtain ⟨⟨o, e'⟩, _⟩ := r.dom y z; rw [e, hp] at e'; cases e'
    have st2 : Stp F1 H1 Emp F1 (upd H1 p (.lst vs)) (fun y => y = p) := ⟨Le.refl _, fun a o e _ => by rw [upd_ne (ne_of_none e hp)]; exact e, fun _ _ e => .inl e, fun a e => .inr (by rw [e]; exact hp)⟩
    have le2 : Le F1 (upd H1 p (.lst vs)) := fun a o e => st2.kp a o (ok1.le a o e) fun z => z
    refine q (.ref p) F1 (upd H1 p (.lst vs)) S1 (Cup (fun y => y = p) R) ?_ (ok1.keep st2 emp_dj le2) (.own upd_same fp rfl (r.keep st2 emp_dj) (fun z => hpR p z rfl) fun _ => Iff.rfl) fun y a b => b.elim (hpS y a) (dj y a)
    have b1 := (st2.frame (Cup S1 R)).big (R := Cup S1 R) fun y z => z.elim (fun z => z.elim) id
    exact (st.trans b1).weak fun y z => z.elim (fun z => .inr (.inl z)) fun z => z.elim .inl fun z => .inr (.inr z)
  · cases h2
theorem se_tup {k : Nat} (ha : SA X es bs da) : SE X (.Tuple es k pos) (dTup da) := pew (pe_tup ha) fun σ H Q h => by
  obtain ⟨F, env, S, t, e, ok, hd, q⟩ := h
  obtain ⟨⟨ts, e1⟩, h1, h2⟩ := Option.bind_eq_some_iff.mp hd
  split at h2
  · rename_i hl
    cases h2
    refine ⟨F, env, S, ts, _, ok, h1, fun vs F1 H1 S1 R st ok1 r dj bo => ⟨by rw [r.length (S := Emp)]; exact hl, fun p hp => ?_⟩⟩
    have fp : F1 p = none := ok1.le.nn hp
    have ff : Le F1 (upd F1 p (.tup vs)) := fun a o e => by rw [upd_ne (ne_of_none e fp)]; exact e
    have st2 : Stp F1 H1 Emp (upd F1 p (.tup vs)) (upd H1 p (.tup vs)) Emp := ⟨ff, fun a o e _ => by rw [upd_ne (ne_of_none e hp)]; exact e, fun a o e => by
      by_cases h : a = p
      · exact .inr (.inr (by rw [h]; exact hp))
      · rw [upd_ne h] at e; exact .inl e, fun a z => z.elim⟩
    have le2 : Le (upd F1 p (.tup vs)) (upd H1 p (.tup vs)) := fun a o e => by
      by_cases h : a = p
      · subst h; rw [upd_same] at e ⊢; exact e
      · rw [upd_ne h] at e ⊢; exact ok1.le a o e
    refine q (.ref p) _ (upd H1 p (.tup vs)) S1 R ?_ (ok1.keep st2 emp_dj le2) (.frz upd_same rfl (r.keep st2 emp_dj)) dj
    have b1 := (st2.frame (Cup S1 R)).big (R := Cup S1 R) fun y z => z.elim (fun z => z.elim) id
    exact (st.trans b1).weak fun y z => .inr z
  · cases h2
theorem se_dic : SE X (.Dict [] [] pos) dDic := pew pe_dnewK fun σ H Q h p hp => by
  obtain ⟨F, env, S, t, e, ok, hd, q⟩ := h
  cases hd
  obtain ⟨g1, g2, g3⟩ := new_one (K := X.K) (mg := X.mg) (k := .dK []) (o := .dK []) (vs := []) (xs := []) ok.le hp ⟨rfl, rfl⟩ (.nil fun _ z => z)
  obtain ⟨a, b, c⟩ := fin_new Stp.refl ok g1 g2
  exact q _ _ _ _ _ a b g3 c
end

/-! ### attributes -/
def getF : List Str → List T → Str → Option T
  | n :: ns, x :: xs, f => if n = f then some x else getF ns xs f
  | _, _, _ => none
/-- o.f of an instance of the class c -/
def oFld (c f : Str) : T → Option T
  | .nd _ (.ins c' ns) xs => if c' = c then getF ns xs f else none
  | _ => none
section
variable {K : PySem.W.Frag} {mg : Mg} {F H : Hp}
theorem getF_ok {f : Str} : ∀ {ns : List Str} {vs : List V} {ts : List T} {S : AS} {t : T}, Reps K mg F H vs ts S → ns.length = vs.length → getF ns ts f = some t → ∃ v R, (ns.zip vs).lookup f = some v ∧ Rep K mg F H v t R ∧ ∀ x, R x → S x := by
  intro ns
  induction ns with
  | nil => intro vs ts S t r hl h; simp [getF] at h
  | cons a ns ih =>
    intro vs ts S t r hl h
    cases r with
    | nil _ => simp at hl
    | @cons v t0 vs ts _ S1 S2 r q d hS =>
      unfold getF at h
      by_cases e : a = f
      · rw [if_pos e] at h
        cases h
        subst e
        exact ⟨v, S1, by rw [List.zip_cons_cons, List.lookup_cons, beq_self_eq_true], r, fun x z => (hS x).mpr (.inl z)⟩
      · rw [if_neg e] at h
        obtain ⟨v', R, h1, h2, h3⟩ := ih q (by simpa using hl) h
        have e' : (f == a) = false := beq_eq_false_iff_ne.mpr fun z => e z.symm
        exact ⟨v', R, by rw [List.zip_cons_cons, List.lookup_cons, e']; exact h1, h2, fun x z => (hS x).mpr (.inr (h3 x z))⟩
def rFld (K : PySem.W.Frag) (f : Str) : V → Hp → VK → Prop := fun x H Q => ∃ a C dx fs v, x = .ref a ∧ H a = some (.ins C dx fs) ∧ Cls K C ∧ NoAttr K C f ∧ fs.lookup f = some v ∧ Q v H
theorem fldA {c f : Str} {C : Addr} {x : V} {t u : T} {R : AS} {Q : VK} (hc : mg c = some (.ref C)) (cl : Cls K C) (na : NoAttr K C f) (le : Le F H) (r : Rep K mg F H x t R) (h : oFld c f t = some u) (q : ∀ v R', Rep K mg F H v u R' → (∀ x, R' x → R x) → Q v H) : rFld K f x H Q := by
  unfold oFld at h
  split at h
  · split at h
    · rename_i e
      subst e
      obtain ⟨a, vs, S0, rfl, p, hs, hl, C', dx, hr, hm⟩ := r.nd_inv le
      rw [hc] at hm
      cases hm
      obtain ⟨v, R', g1, g2, g3⟩ := getF_ok p hl h
      exact ⟨a, C, dx, _, v, rfl, hr, cl, na, g1, q v R' g2 fun x z => hs x (g3 x z)⟩
    · cases h
  · cases h
theorem v_fld {c f : Str} {C : Addr} (hc : mg c = some (.ref C)) (cl : Cls K C) (na : NoAttr K C f) : Op1V K mg (rFld K f) (oFld c f) := fun F H x t R u Q le r h q => fldA hc cl na le r h fun v R' r _ => q v R' r
end
section
variable {X : Cx} {e : Expr} {c f : Str} {C : Addr} {pos : Pos} {d : DV} {de : DE}
theorem sv_fld (hc : X.mg c = some (.ref C)) (cl : Cls X.K C) (na : NoAttr X.K C f) (he : SV X e d) (hb : attributeBase e f X.env (eval e X.env) = eval e X.env := by rfl) : SV X (.Attribute e f pos) (o1V (oFld c f) d) := pew (pe_fld he hb) fun _ _ _ => i1V (v_fld hc cl na)
theorem sr_fld (hc : X.mg c = some (.ref C)) (cl : Cls X.K C) (na : NoAttr X.K C f) (he : SR X e de) (hb : attributeBase e f X.env (eval e X.env) = eval e X.env := by rfl) : SR X (.Attribute e f pos) (o1 (oFld c f) de) := pew (pe_fld he hb) fun _ _ _ => i1R (v_fld hc cl na)
end

/-! ### built-ins of one argument -/
section
variable {X : Cx} {e : Expr} {x : Str} {id : String} {p pos : Pos} {d : DV} {de : DE} {r : List V → Hp → VK → Prop} {o : T → Option T}
theorem sv_b1 (hc : CallR X (.builtin id) r) (hv : Op1V X.K X.mg (fun x H Q => r [x] H Q) o) (hb : bootBuiltins x = some (.builtin id)) (hg : Gl X x) (hm : X.mg x = none) (ha : SV X e d) (hn : x ≠ "__name__" := by decide) (hdb : (x == ("__debug__" : Str)) = false := by decide)
    (hs : starEach (e :: []) X.env = (false, eval e X.env) :: starEach [] X.env := by rfl) : SV X (.Call (.Name x p) [e] [] pos) (o1V o d) := pew (pe_callB hc hg hm hb (pa_cons ha pa_nil hs) hn hdb (he := hs)) fun _ _ _ h => i1V hv h
theorem sr_b1 (hc : CallR X (.builtin id) r) (hv : Op1V X.K X.mg (fun x H Q => r [x] H Q) o) (hb : bootBuiltins x = some (.builtin id)) (hg : Gl X x) (hm : X.mg x = none) (ha : SR X e de) (hn : x ≠ "__name__" := by decide) (hdb : (x == ("__debug__" : Str)) = false := by decide)
    (hs : starEach (e :: []) X.env = (false, eval e X.env) :: starEach [] X.env := by rfl) : SR X (.Call (.Name x p) [e] [] pos) (o1 o de) := pew (pe_callB hc hg hm hb (pa_cons ha pa_nil hs) hn hdb (he := hs)) fun _ _ _ h => i1R hv h
theorem se_b1 (hc : CallR X (.builtin id) r) (hv : Op1E X.K X.mg (fun x H Q => r [x] H Q) o) (hb : bootBuiltins x = some (.builtin id)) (hg : Gl X x) (hm : X.mg x = none) (ha : SR X e de) (hn : x ≠ "__name__" := by decide) (hdb : (x == ("__debug__" : Str)) = false := by decide)
    (hs : starEach (e :: []) X.env = (false, eval e X.env) :: starEach [] X.env := by rfl) : SE X (.Call (.Name x p) [e] [] pos) (o1 o de) := pew (pe_callB hc hg hm hb (pa_cons ha pa_nil hs) hn hdb (he := hs)) fun _ _ _ h => i1E hv h
theorem sv_t1 (hc : CallR X (.type id) r) (hv : Op1V X.K X.mg (fun x H Q => r [x] H Q) o) (hb : bootBuiltins x = some (.type id)) (hg : Gl X x) (hm : X.mg x = none) (ha : SV X e d) (hn : x ≠ "__name__" := by decide) (hdb : (x == ("__debug__" : Str)) = false := by decide)
    (hs : starEach (e :: []) X.env = (false, eval e X.env) :: starEach [] X.env := by rfl) : SV X (.Call (.Name x p) [e] [] pos) (o1V o d) := pew (pe_callTy hc hg hm hb (pa_cons ha pa_nil hs) hn hdb (he := hs)) fun _ _ _ h => i1V hv h
theorem se_t1 (hc : CallR X (.type id) r) (hv : Op1E X.K X.mg (fun x H Q => r [x] H Q) o) (hb : bootBuiltins x = some (.type id)) (hg : Gl X x) (hm : X.mg x = none) (ha : SR X e de) (hn : x ≠ "__name__" := by decide) (hdb : (x == ("__debug__" : Str)) = false := by decide)
    (hs : starEach (e :: []) X.env = (false, eval e X.env) :: starEach [] X.env := by rfl) : SE X (.Call (.Name x p) [e] [] pos) (o1 o de) := pew (pe_callTy hc hg hm hb (pa_cons ha pa_nil hs) hn hdb (he := hs)) fun _ _ _ h => i1E hv h
/-- isinstance(e, T), T a built-in type -/
theorem sv_isi {b : String} {y : Str} {py : Pos} (hb : b ∈ ["bool", "int", "str", "list", "tuple", "dict"]) (hbt : bootBuiltins y = some (.type b)) (hgi : Gl X "isinstance") (hmi : X.mg "isinstance" = none) (hgy : Gl X y) (hmy : X.mg y = none) (ha : SV X e d)
    (hn : y ≠ "__name__" := by decide) (hdb : (y == ("__debug__" : Str)) = false := by decide)
    (hs : starEach (e :: [.Name y py]) X.env = (false, eval e X.env) :: starEach [.Name y py] X.env := by rfl) (hs2 : starEach [.Name y py] X.env = (false, eval (.Name y py) X.env) :: starEach [] X.env := by rfl) (hpl : (backTo pos (starEach [.Name y py] X.env)).any (·.1) = false := by rfl) :
    SV X (.Call (.Name "isinstance" p) [e, .Name y py] [] pos) (o1V (oIsi b) d) :=
  pew (pe_callB call_isi hgi hmi (by decide +kernel) (pa_cons ha (pa_cons (pe_bltn hgy hmy hbt (show RelV (.ty b) (.type b) from rfl) hn hdb) pa_nil hs2) hs) (he := hs) (hpl := hpl)) fun _ _ _ h => i1V (v_isi hb) h
theorem sr_isi {b : String} {y : Str} {py : Pos} (hb : b ∈ ["bool", "int", "str", "list", "tuple", "dict"]) (hbt : bootBuiltins y = some (.type b)) (hgi : Gl X "isinstance") (hmi : X.mg "isinstance" = none) (hgy : Gl X y) (hmy : X.mg y = none) (ha : SR X e de)
    (hn : y ≠ "__name__" := by decide) (hdb : (y == ("__debug__" : Str)) = false := by decide)
    (hs : starEach (e :: [.Name y py]) X.env = (false, eval e X.env) :: starEach [.Name y py] X.env := by rfl) (hs2 : starEach [.Name y py] X.env = (false, eval (.Name y py) X.env) :: starEach [] X.env := by rfl) (hpl : (backTo pos (starEach [.Name y py] X.env)).any (·.1) = false := by rfl) :
    SR X (.Call (.Name "isinstance" p) [e, .Name y py] [] pos) (o1 (oIsi b) de) :=
  pew (pe_callB call_isi hgi hmi (by decide +kernel) (pa_cons ha (pa_cons (pe_bltn hgy hmy hbt (show RelV (.ty b) (.type b) from rfl) hn hdb) pa_nil hs2) hs) (he := hs) (hpl := hpl)) fun _ _ _ h => i1R (v_isi hb) h
end
end Tr


set_option Elab.async false
set_option linter.all false
set_option pp.maxSteps 3000
set_option maxRecDepth 100000
set_option maxHeartbeats 4000000
/-! D7: statements, loops, defs. -/
namespace Tr
open PySem PySem.Spec PyProof.Rows L2

inductive Fl where
  | nx | rt (t : T) | bk | ct
abbrev DS := List T → Option (Fl × List T)
section
variable (K : PySem.W.Frag) (mg : Mg)
def fin (D : Ends) (r : Fl) (F H : Hp) (R : AS) (σ : L2.St) : Prop := match r with
  | .nx => D.nx σ H
  | .bk => D.bk σ H
  | .ct => D.ct σ H
  | .rt t => ∀ v, Rep K mg F H v t R → D.rt v H
/-- off the slots W nothing is stored -/
structure Off (W : List Nat) (σ σ' : L2.St) : Prop where
  at_ : ∀ i, i ∉ W → σ'[i]? = σ[i]?
  len : σ'.length = σ.length
/-- what is wanted behind -/
def Cont' (D : Ends) (W : List Nat) (F H : Hp) (S : AS) (σ : L2.St) (r : Fl) (env' : List T) : Prop :=
  ∀ F' H' S' R σ', Stp F H S F' H' (Cup S' R) → Ok K mg F' H' σ' env' S' → Off W σ σ' → Dj S' R → fin K mg D r F' H' R σ'
def tS (W : List Nat) (d : DS) : TS := fun D σ H => ∃ F env S r env', Ok K mg F H σ env S ∧ d env = some (r, env') ∧ Cont' K mg D W F H S σ r env'
end
def SS (X : Cx) (st : Stmt) (W : List Nat) (d : DS) : Prop := PS X st (tS X.K X.mg W d)
def SSs (X : Cx) (st : List Stmt) (W : List Nat) (d : DS) : Prop := PSs X st (tS X.K X.mg W d)
theorem psw {X : Cx} {st : Stmt} {t t' : TS} (h : PS X st t) (i : ∀ D σ H, t' D σ H → t D σ H) : PS X st t' := ⟨fun pins s σ H D I q => h.run pins s σ H D I (i D σ H q)⟩
theorem pssw {X : Cx} {st : List Stmt} {t t' : TS} (h : PSs X st t) (i : ∀ D σ H, t' D σ H → t D σ H) : PSs X st t' := ⟨fun pins s σ H D I q => h.run pins s σ H D I (i D σ H q)⟩
theorem Off.refl {W : List Nat} {σ : L2.St} : Off W σ σ := ⟨fun _ _ => rfl, rfl⟩
theorem Off.trans {W : List Nat} {a b c : L2.St} (h : Off W a b) (k : Off W b c) : Off W a c := ⟨fun i n => (k.at_ i n).trans (h.at_ i n), k.len.trans h.len⟩
theorem Off.mono {W W' : List Nat} {a b : L2.St} (h : Off W a b) (k : ∀ i, i ∈ W → i ∈ W') : Off W' a b := ⟨fun i n => h.at_ i fun z => n (k i z), h.len⟩
theorem Off.set {σ : L2.St} {i : Nat} {v : Option V} : Off [i] σ (σ.set i v) := ⟨fun j n => by
  rw [List.getElem?_set_ne]
  intro e
  exact n (by simp [e]), by rw [List.length_set]⟩
def dSeq (a b : DS) : DS := fun env => match a env with
  | some (.nx, e) => b e
  | some (r, e) => some (r, e)
  | none => none
def dIf (c : DE) (a b : DS) : DS := fun env => match c env with
  | some (.lf (.bl true), e) => a e
  | some (.lf (.bl false), e) => b e
  | _ => none
def dSet (i : Nat) (d : DE) : DS := fun env => match d env with
  | some (t, e) => if i < e.length then some (.nx, e.set i t) else none
  | none => none
def dRet (d : DE) : DS := fun env => (d env).map fun p => (.rt p.1, p.2)
def dRetN : DS := fun env => some (.rt (.lf .non), env)
def dEx (d : DE) : DS := fun env => (d env).map fun p => (.nx, p.2)
def dNx : DS := fun env => some (.nx, env)
def dBk : DS := fun env => some (.bk, env)
def dCt : DS := fun env => some (.ct, env)
def dFail : DS := fun _ => none
section
variable {K : PySem.W.Frag} {mg : Mg} {D : Ends} {σ σ' : L2.St} {H H' F F' : Hp} {S S' R : AS} {W W1 W2 : List Nat} {env env' : List T} {r : Fl}
theorem Cont'.step (c : Cont' K mg D W F H S σ r env') (st : Stp F H S F' H' (Cup S' R)) (of : Off W σ σ') : Cont' K mg D W F' H' S' σ' r env' := fun F2 H2 S2 R2 σ2 st2 ok of2 dj =>
  c F2 H2 S2 R2 σ2 ((st.weak fun _ z => .inl z).trans st2) ok (of.trans of2) dj
theorem Cont'.sub (c : Cont' K mg D W F H S σ r env') (h : ∀ i, i ∈ W1 → i ∈ W) : Cont' K mg D W1 F H S σ r env' := fun F2 H2 S2 R2 σ2 st2 ok of2 dj => c F2 H2 S2 R2 σ2 st2 ok (of2.mono h) dj
/-- right away -/
theorem Cont'.now (c : Cont' K mg D W F H S σ .nx env') (st : Stp F H S F' H' S') (ok : Ok K mg F' H' σ' env' S') (of : Off W σ σ') : D.nx σ' H' :=
  c F' H' S' Emp σ' (st.weak fun _ z => z.elim id fun z => z.elim) ok of dj_emp
theorem seq_imp {a b : DS} (h : tS K mg (W1 ++ W2) (dSeq a b) D σ H) : tSeq (tS K mg W1 a) (tS K mg W2 b) D σ H := by
  obtain ⟨F, env, S, r, env', ok, hd, c⟩ := h
  unfold dSeq at hd
  split at hd
  · rename_i e h1
    refine ⟨F, env, S, .nx, e, ok, h1, fun F1 H1 S1 R1 σ1 st1 ok1 of1 dj1 => ?_⟩
    exact ⟨F1, e, S1, r, env', ok1, hd, (c.step st1 (of1.mono fun i z => List.mem_append_left _ z)).sub fun i z => List.mem_append_right _ z⟩
  · rename_i r' e hne h1
    cases hd
    refine ⟨F, env, S, r, env', ok, h1, fun F1 H1 S1 R1 σ1 st1 ok1 of1 dj1 => ?_⟩
    have q := c F1 H1 S1 R1 σ1 st1 ok1 (of1.mono fun i z => List.mem_append_left _ z) dj1
    cases r with
    | nx => exact (hne rfl).elim
    | rt t => exact q
    | bk => exact q
    | ct => exact q
  · cases hd
theorem if_imp {c : DE} {a b : DS} (h : tS K mg (W1 ++ W2) (dIf c a b) D σ H) : tIfS (tTest (tR K mg c)) (tS K mg W1 a) (tS K mg W2 b) D σ H := by
  obtain ⟨F, env, S, r, env', ok, hd, q⟩ := h
  unfold dIf at hd
  split at hd
  · rename_i e h1
    refine ⟨F, env, S, _, e, ok, h1, fun v F1 H1 S1 R1 st1 ok1 r1 => ⟨true, r1.lf_inv.1, ?_⟩⟩
    refine iteT ?_
    exact ⟨F1, e, S1, r, env', ok1, hd, (q.step (R := Emp) (st1.weak fun _ z => z.elim id fun z => z.elim) .refl).sub fun i z => List.mem_append_left _ z⟩
  · rename_i e h1
    refine ⟨F, env, S, _, e, ok, h1, fun v F1 H1 S1 R1 st1 ok1 r1 => ⟨false, r1.lf_inv.1, ?_⟩⟩
    refine iteF ?_
    exact ⟨F1, e, S1, r, env', ok1, hd, (q.step (R := Emp) (st1.weak fun _ z => z.elim id fun z => z.elim) .refl).sub fun i z => List.mem_append_right _ z⟩
  · cases hd
/-- a value stored in a slot -/
theorem store_ok' {v : V} {t : T} {i : Nat} (ok : Ok K mg F H σ env S) (r : Rep K mg F H v t R) (dj : Dj S R) (hi : i < env.length) : ∃ S2, Ok K mg F H (σ.set i (some v)) (env.set i t) S2 ∧ (∀ x, S2 x → S x ∨ R x) := by
  obtain ⟨s, A, B, e1, e2, e3, e4, rest⟩ := ok.st.split (List.getElem?_eq_getElem hi)
  refine ⟨Cup R B, ⟨ok.le, rest F H (some v) t R (Le.refl _) (fun y z => ⟨rfl, (ok.st.dom y ((e4 y).mpr (.inr z))).2⟩) r fun x a b => dj x ((e4 x).mpr (.inr b)) a⟩, fun x z => z.elim .inr fun z => .inl ((e4 x).mpr (.inr z))⟩
theorem set_imp {i : Nat} {d : DE} (h : tS K mg [i] (dSet i d) D σ H) : tAsg (tE K mg d) (gName i) D σ H := by
  obtain ⟨F, env, S, r, env', ok, hd, q⟩ := h
  unfold dSet at hd
  split at hd
  · rename_i t e h1
    split at hd
    · rename_i hi
      cases hd
      refine ⟨F, env, S, t, e, ok, h1, fun v F1 H1 S1 R1 st1 ok1 r1 dj1 => ?_⟩
      obtain ⟨S2, ok2, sub⟩ := store_ok' ok1 r1 dj1 hi
      exact q.now (st1.weak sub) ok2 Off.set
    · cases hd
  · cases hd
theorem ret_imp {d : DE} (h : tS K mg [] (dRet d) D σ H) : tRet (tE K mg d) D σ H := by
  obtain ⟨F, env, S, r, env', ok, hd, q⟩ := h
  obtain ⟨⟨t, e⟩, h1, h2⟩ := Option.map_eq_some_iff.mp hd
  cases h2
  exact ⟨F, env, S, t, _, ok, h1, fun v F1 H1 S1 R1 st1 ok1 r1 dj1 => q F1 H1 S1 R1 σ st1 ok1 .refl dj1 v r1⟩
theorem ex_imp {d : DE} (h : tS K mg [] (dEx d) D σ H) : tDrop (tE K mg d) D σ H := by
  obtain ⟨F, env, S, r, env', ok, hd, q⟩ := h
  obtain ⟨⟨t, e⟩, h1, h2⟩ := Option.map_eq_some_iff.mp hd
  cases h2
  exact ⟨F, env, S, t, _, ok, h1, fun v F1 H1 S1 R1 st1 ok1 r1 dj1 => q.now (st1.weak fun _ z => .inl z) ok1 .refl⟩
end
section
variable {X : Cx} {st : Stmt} {sts : List Stmt} {W W1 W2 : List Nat} {a b : DS} {e c : Expr} {d : DE} {pos pos' : Pos} {i : Nat} {x : Str} {xs ys : List Stmt}
theorem ss_cons (h1 : SS X st W1 a) (h2 : SSs X sts W2 b) : SSs X (st :: sts) (W1 ++ W2) (dSeq a b) := pssw (pss_cons h1 h2) fun _ _ _ => seq_imp
theorem ss_one (h1 : SS X st W a) : SSs X [st] W a := pss_one h1
theorem ss_nil : SSs X [] [] dNx := pssw pss_nil fun D σ H ⟨F, env, S, r, env', ok, hd, q⟩ => by cases hd; exact q.now .refl ok .refl
theorem ss_pass : SS X (.Pass pos) [] dNx := psw ps_pass fun D σ H ⟨F, env, S, r, env', ok, hd, q⟩ => by cases hd; exact q.now .refl ok .refl
theorem ss_brk : SS X (.Break pos) [] dBk := psw ps_break fun D σ H ⟨F, env, S, r, env', ok, hd, q⟩ => by cases hd; exact q F H S Emp σ (Stp.refl.weak fun _ z => z.elim id fun z => z.elim) ok .refl dj_emp
theorem ss_cnt : SS X (.Continue pos) [] dCt := psw ps_continue fun D σ H ⟨F, env, S, r, env', ok, hd, q⟩ => by cases hd; exact q F H S Emp σ (Stp.refl.weak fun _ z => z.elim id fun z => z.elim) ok .refl dj_emp
theorem ss_fail : SS X st [] dFail := psw ps_never fun D σ H ⟨F, env, S, r, env', ok, hd, q⟩ => by cases hd
theorem ss_if (hc : ST X c d) (h1 : SSs X xs W1 a) (h2 : SSs X ys W2 b) : SS X (.If c xs ys pos) (W1 ++ W2) (dIf d a b) := psw (ps_if hc h1 h2) fun _ _ _ => if_imp
theorem ss_set (hN : X.N.Nodup) (hi : X.N[i]? = some x) (hx : Loc X.env.scope x) (he : SE X e d) (hs : swapsWith e (some (.Name x pos')) pos.line X.env = pure false := by rfl) (hf : X.fn x = true ∨ X.env.scope.names.lookup x = some .local := by first | exact .inl rfl | exact .inr rfl | assumption) :
    SS X (.Assign [.Name x pos'] e pos) [i] (dSet i d) := psw (ps_set hN hi hx he hs hf) fun _ _ _ => set_imp
theorem ss_ret (he : SE X e d) : SS X (.Return (some e) pos) [] (dRet d) := psw (ps_ret he) fun _ _ _ => ret_imp
theorem ss_retN : SS X (.Return none pos) [] dRetN := psw ps_retN fun D σ H ⟨F, env, S, r, env', ok, hd, q⟩ => by
  cases hd
  exact q F H S Emp σ (Stp.refl.weak fun _ z => z.elim id fun z => z.elim) ok .refl dj_emp .non (.lf rfl fun _ z => z)
theorem ss_ex (he : SE X e d) (hs : swapsWith e none pos.line X.env = pure false := by rfl) : SS X (.Expr e pos) [] (dEx d) := psw (ps_expr he hs) fun _ _ _ => ex_imp
end

/-! ### while -/
def dWh (c : DE) (d : DS) : Nat → DS
  | 0, _ => none
  | n + 1, env => match c env with
    | some (.lf (.bl true), e) => match d e with
      | some (.nx, e2) => dWh c d n e2
      | some (.ct, e2) => dWh c d n e2
      | some (.bk, e2) => some (.nx, e2)
      | some (.rt t, e2) => some (.rt t, e2)
      | none => none
    | some (.lf (.bl false), e) => some (.nx, e)
    | _ => none
section
variable {K : PySem.W.Frag} {mg : Mg} {D : Ends} {σ σ' : L2.St} {H H' F F' : Hp} {S S' R : AS} {W W1 W2 : List Nat} {env env' : List T} {r : Fl}
theorem while_imp {c : DE} {d : DS} {n : Nat} (h : tS K mg W (dWh c d n) D σ H) : tWhile (tTest (tR K mg c)) (tS K mg W d) D σ H := by
  refine ⟨fun m σ H => tS K mg W (dWh c d m) D σ H, ⟨n, h⟩, ?_⟩
  rintro m σ H ⟨F, env, S, r, env', ok, hd, q⟩
  cases m with
  | zero => simp [dWh] at hd
  | succ m =>
    rw [dWh] at hd
    split at hd
    · rename_i e h1
      refine ⟨F, env, S, _, e, ok, h1, fun v F1 H1 S1 R1 st1 ok1 r1 => ⟨true, r1.lf_inv.1, ?_⟩⟩
      refine iteT ?_
      refine ⟨fun σ' H' => tS K mg W (dWh c d m) D σ' H', fun σ' H' z => ⟨m, Nat.lt_succ_self m, z⟩, ?_⟩
      have q1 := q.step (R := Emp) (st1.weak fun _ z => z.elim id fun z => z.elim) .refl
      split at hd
      · rename_i e2 h2
        exact ⟨F1, e, S1, .nx, e2, ok1, h2, fun F2 H2 S2 R2 σ2 st2 ok2 of2 dj2 => ⟨F2, e2, S2, r, env', ok2, hd, q1.step st2 of2⟩⟩
      · rename_i e2 h2
        exact ⟨F1, e, S1, .ct, e2, ok1, h2, fun F2 H2 S2 R2 σ2 st2 ok2 of2 dj2 => ⟨F2, e2, S2, r, env', ok2, hd, q1.step st2 of2⟩⟩
      · rename_i e2 h2
        cases hd
        exact ⟨F1, e, S1, .bk, _, ok1, h2, fun F2 H2 S2 R2 σ2 st2 ok2 of2 dj2 => q1 F2 H2 S2 R2 σ2 st2 ok2 of2 dj2⟩
      · rename_i t e2 h2
        cases hd
        exact ⟨F1, e, S1, .rt t, _, ok1, h2, fun F2 H2 S2 R2 σ2 st2 ok2 of2 dj2 => q1 F2 H2 S2 R2 σ2 st2 ok2 of2 dj2⟩
      · cases hd
    · rename_i e h1
      cases hd
      refine ⟨F, env, S, _, _, ok, h1, fun v F1 H1 S1 R1 st1 ok1 r1 => ⟨false, r1.lf_inv.1, ?_⟩⟩
      refine iteF ?_
      exact q.now st1 ok1 .refl
    · cases hd
theorem ss_while {X : Cx} {c : Expr} {body : List Stmt} {dc : DE} {d : DS} {pos : Pos} (n : Nat) (hp : PassesOwn (model X.prog X.w) X.A X.env X.xe) (hc : ST X c dc) (hb : SSs X body W d) : SS X (.While c body [] pos) W (dWh dc d n) :=
  psw (ps_while hp hc hb) fun _ _ _ => while_imp
end

/-! ### what is walked -/
abbrev DI := List T → Option (List T × List T)
section
variable (K : PySem.W.Frag) (mg : Mg)
/-- the iterator hands out these things, one after another -/
def Good (its : List T) (J : It) (F H : Hp) (S : AS) : Prop := ∀ (i : Nat) (F2 H2 : Hp) (S2 : AS), Stp F H S F2 H2 S2 → Le F2 H2 →
  (∀ t, its[i]? = some t → J.go i H2 ∧ ∀ x H3, J.yld i H2 x H3 → ∃ F3, Stp F2 H2 Emp F3 H3 Emp ∧ Le F3 H3 ∧ Rep K mg F3 H3 x t Emp) ∧ (its.length ≤ i → J.stop i H2)
def tI (d : DI) : TI := fun σ H Rk => ∃ F env S its env', Ok K mg F H σ env S ∧ d env = some (its, env') ∧ ∀ J F' H' S', Stp F H S F' H' S' → Ok K mg F' H' σ env' S' → Good K mg its J F' H' S' → Rk J H'
/-- a target: the thing goes into the slots -/
abbrev DG := T → List T → Option (List T)
def tG (W : List Nat) (dg : DG) : TG := fun v σ H Q => ∃ F env S R t env', Ok K mg F H σ env S ∧ Rep K mg F H v t R ∧ Dj S R ∧ dg t env = some env' ∧ ∀ σ' S', Ok K mg F H σ' env' S' → (∀ x, S' x → S x ∨ R x) → Off W σ σ' → Q σ' H
end
def SI (X : Cx) (tg iter : Expr) (d : DI) : Prop := PI X tg iter (tI X.K X.mg d)
def SG (X : Cx) (tg : Expr) (W : List Nat) (dg : DG) : Prop := PG X tg (tG X.K X.mg W dg)
theorem piw {X : Cx} {tg iter : Expr} {t t' : TI} (h : PI X tg iter t) (i : ∀ σ H R, t' σ H R → t σ H R) : PI X tg iter t' := ⟨fun pins s σ H R I q => h.run pins s σ H R I (i σ H R q)⟩
theorem pgw {X : Cx} {tg : Expr} {t t' : TG} (h : PG X tg t) (i : ∀ v σ H Q, t' v σ H Q → t v σ H Q) : PG X tg t' := ⟨fun pins s σ H v u Q I r q => h.run pins s σ H v u Q I r (i v σ H Q q)⟩
def gN (i : Nat) : DG := fun t env => if i < env.length then some (env.set i t) else none
def gT2 (a b : DG) : DG := fun t env => match t with
  | .nd _ .tup [x, y] => (a x env).bind fun e => b y e
  | _ => none
def gT3 (a b c : DG) : DG := fun t env => match t with
  | .nd _ .tup [x, y, z] => (a x env).bind fun e => (b y e).bind fun e => c z e
  | _ => none
section
variable {X : Cx} {i : Nat} {x : Str} {pos : Pos}
theorem sg_name (hN : X.N.Nodup) (hi : X.N[i]? = some x) (hx : Loc X.env.scope x) (hf : X.fn x = true ∨ X.env.scope.names.lookup x = some .local := by first | exact .inl rfl | exact .inr rfl | assumption) : SG X (.Name x pos) [i] (gN i) :=
  pgw (pg_name hN hi hx hf) fun v σ H Q ⟨F, env, S, R, t, env', ok, r, dj, hd, q⟩ => by
    unfold gN at hd
    split at hd
    · rename_i hl
      cases hd
      obtain ⟨S2, ok2, sub⟩ := store_ok' ok r dj hl
      exact q _ S2 ok2 sub Off.set
    · cases hd
theorem sg_two {a b : Expr} {W1 W2 : List Nat} {da db : DG} {k : Nat} (hc : X.calm = true) (ha : SG X a W1 da) (hb : SG X b W2 db) (h1 : (assignEach [a, b] X.env).map (·.2) = assign a X.env :: (assignEach [b] X.env).map (·.2) := by rfl) (h2 : (assignEach [b] X.env).map (·.2) = assign b X.env :: (assignEach [] X.env).map (·.2) := by rfl)
    (hn : (assignEach [a, b] X.env).length = 2 := by rfl) (hst : (assignEach [a, b] X.env).findIdx? (·.1) = none := by rfl) : SG X (.Tuple [a, b] k pos) (W1 ++ W2) (gT2 da db) :=
  pgw (pg_tup hc (pgs_cons ha (pgs_cons hb pgs_nil h2) h1) hn hst) fun v σ H Q ⟨F, env, S, R, t, env', ok, r, dj, hd, q⟩ => by
    unfold gT2 at hd
    split at hd
    · rename_i o x y
      obtain ⟨e1, g1, g2⟩ := Option.bind_eq_some_iff.mp hd
      obtain ⟨a, vs, S0, rfl, p, hs, hr⟩ := r.nd_inv ok.le
      cases p with
      | @cons v1 _ vs _ _ A1 B1 r1 p1 d1 hS1 =>
        cases p1 with
        | @cons v2 _ vs _ _ A2 B2 r2 p2 d2 hS2 =>
          cases p2 with
          | nil _ =>
            refine ⟨a, [v1, v2], rfl, SqT.of hr, rfl, v1, [v2], rfl, F, env, S, A1, x, e1, ok, r1, fun z s u => dj z s (hs z ((hS1 z).mpr (.inl u))), g1, fun σ1 S1 ok1 sub1 of1 => ?_⟩
            refine ⟨v2, [], rfl, F, e1, S1, A2, y, env', ok1, r2, fun z s u => (sub1 z s).elim (fun s => dj z s (hs z ((hS1 z).mpr (.inr ((hS2 z).mpr (.inl u)))))) (fun s => d1 z s ((hS2 z).mpr (.inl u))), g2, fun σ2 S2 ok2 sub2 of2 => ⟨rfl, ?_⟩⟩
            refine q σ2 S2 ok2 (fun z s => ?_) ((of1.mono fun i z => List.mem_append_left _ z).trans (of2.mono fun i z => List.mem_append_right _ z))
            rcases sub2 z s with s | s
            · exact (sub1 z s).elim .inl fun s => .inr (hs z ((hS1 z).mpr (.inl s)))
            · exact .inr (hs z ((hS1 z).mpr (.inr ((hS2 z).mpr (.inl s)))))
    · cases hd
theorem sg_three {a b c : Expr} {W1 W2 W3 : List Nat} {da db dc : DG} {k : Nat} (hc : X.calm = true) (ha : SG X a W1 da) (hb : SG X b W2 db) (hcc : SG X c W3 dc) (h1 : (assignEach [a, b, c] X.env).map (·.2) = assign a X.env :: (assignEach [b, c] X.env).map (·.2) := by rfl) (h2 : (assignEach [b, c] X.env).map (·.2) = assign b X.env :: (assignEach [c] X.env).map (·.2) := by rfl)
    (h3 : (assignEach [c] X.env).map (·.2) = assign c X.env :: (assignEach [] X.env).map (·.2) := by rfl)
    (hn : (assignEach [a, b, c] X.env).length = 3 := by rfl) (hst : (assignEach [a, b, c] X.env).findIdx? (·.1) = none := by rfl) : SG X (.Tuple [a, b, c] k pos) (W1 ++ (W2 ++ W3)) (gT3 da db dc) :=
  pgw (pg_tup hc (pgs_cons ha (pgs_cons hb (pgs_cons hcc pgs_nil h3) h2) h1) hn hst) fun v σ H Q ⟨F, env, S, R, t, env', ok, r, dj, hd, q⟩ => by
    unfold gT3 at hd
    split at hd
    · rename_i o x y z
      obtain ⟨e1, g1, g2⟩ := Option.bind_eq_some_iff.mp hd
      obtain ⟨e2, g3, g4⟩ := Option.bind_eq_some_iff.mp g2
      obtain ⟨a, vs, S0, rfl, p, hs, hr⟩ := r.nd_inv ok.le
      cases p with
      | @cons v1 _ vs _ _ A1 B1 r1 p1 d1 hS1 =>
        cases p1 with
        | @cons v2 _ vs _ _ A2 B2 r2 p2 d2 hS2 =>
          cases p2 with
          | @cons v3 _ vs _ _ A3 B3 r3 p3 d3 hS3 =>
            cases p3 with
            | nil _ =>
              have i1 : ∀ z, A1 z → S0 z := fun z u => (hS1 z).mpr (.inl u)
              have i2 : ∀ z, A2 z → B1 z := fun z u => (hS2 z).mpr (.inl u)
              have i3 : ∀ z, A3 z → B2 z := fun z u => (hS3 z).mpr (.inl u)
              have i3' : ∀ z, A3 z → B1 z := fun z u => (hS2 z).mpr (.inr (i3 z u))
              have ib : ∀ z, B1 z → S0 z := fun z u => (hS1 z).mpr (.inr u)
              refine ⟨a, [v1, v2, v3], rfl, SqT.of hr, rfl, v1, [v2, v3], rfl, F, env, S, A1, x, e1, ok, r1, fun z s u => dj z s (hs z (i1 z u)), g1, fun σ1 S1 ok1 sub1 of1 => ?_⟩
              refine ⟨v2, [v3], rfl, F, e1, S1, A2, y, e2, ok1, r2, fun z s u => (sub1 z s).elim (fun s => dj z s (hs z (ib z (i2 z u)))) (fun s => d1 z s (i2 z u)), g3, fun σ2 S2 ok2 sub2 of2 => ?_⟩
              refine ⟨v3, [], rfl, F, e2, S2, A3, z, env', ok2, r3, fun z s u => (sub2 z s).elim (fun s => (sub1 z s).elim (fun s => dj z s (hs z (ib z (i3' z u)))) fun s => d1 z s (i3' z u)) (fun s => d2 z s (i3 z u)), g4, fun σ3 S3 ok3 sub3 of3 => ⟨rfl, ?_⟩⟩
              refine q σ3 S3 ok3 (fun z s => ?_) ((of1.mono fun i z => List.mem_append_left _ z).trans ((of2.mono fun i z => List.mem_append_right _ (List.mem_append_left _ z)).trans (of3.mono fun i z => List.mem_append_right _ (List.mem_append_right _ z))))
              rcases sub3 z s with s | s
              · rcases sub2 z s with s | s
                · exact (sub1 z s).elim .inl fun s => .inr (hs z (i1 z s))
                · exact .inr (hs z (ib z (i2 z s)))
              · exact .inr (hs z (ib z (i3' z s)))
    · cases hd
end
/-- the turns -/
def dFr (dg : DG) (d : DS) : List T → DS
  | [], env => some (.nx, env)
  | t :: ts, env => match dg t env with
    | some e => match d e with
      | some (.nx, e2) => dFr dg d ts e2
      | some (.ct, e2) => dFr dg d ts e2
      | some (.bk, e2) => some (.nx, e2)
      | some (.rt t, e2) => some (.rt t, e2)
      | none => none
    | none => none
def dFor (di : DI) (dg : DG) (d : DS) : DS := fun env => (di env).bind fun p => dFr dg d p.1 p.2
section
variable {K : PySem.W.Frag} {mg : Mg} {D : Ends} {σ σ' : L2.St} {H H' F F' : Hp} {S S' R : AS} {W W1 W2 : List Nat} {env env' : List T} {r : Fl}
/-- the loop, over an iterator that is good -/
theorem for_core {dg : DG} {d : DS} {its : List T} {J : It} {F0 H0 : Hp} {S0 : AS} {σ0 : L2.St} {e0 : List T} (hG : Good K mg its J F0 H0 S0) (ok0 : Ok K mg F0 H0 σ0 e0 S0) (hd0 : dFr dg d its e0 = some (r, env')) (c0 : Cont' K mg D (W1 ++ W2) F0 H0 S0 σ0 r env') :
    ∃ Wi : Nat → Nat → L2.St → Hp → Prop, (∃ m, Wi 0 m σ0 H0) ∧ ∀ i m σ H, Wi i m σ H →
      (J.stop i H ∧ D.nx σ H) ∨ (J.go i H ∧ ∃ N : L2.St → Hp → Prop, (∀ σ' H', N σ' H' → ∃ m', m' < m ∧ Wi (i + 1) m' σ' H') ∧ ∀ x H', J.yld i H x H' → tG K mg W1 dg x σ H' fun σ2 H2 => tS K mg W2 d { D with nx := N, ct := N, bk := D.nx } σ2 H2) := by
  refine ⟨fun i m σ H => m = its.length - i ∧ i ≤ its.length ∧ ∃ F env S, Stp F0 H0 S0 F H S ∧ Ok K mg F H σ env S ∧ dFr dg d (its.drop i) env = some (r, env') ∧ Cont' K mg D (W1 ++ W2) F H S σ r env', ⟨its.length, rfl, Nat.zero_le _, F0, e0, S0, .refl, ok0, hd0, c0⟩, ?_⟩
  rintro i m σ H ⟨rfl, hi, F, env, S, st, ok, hd, c⟩
  obtain ⟨g1, g2⟩ := hG i F H S st ok.le
  by_cases hlt : i < its.length
  · obtain ⟨go, yl⟩ := g1 _ (List.getElem?_eq_getElem hlt)
    rw [List.drop_eq_getElem_cons hlt, dFr] at hd
    refine .inr ⟨go, fun σ' H' => ∃ F env S, Stp F0 H0 S0 F H' S ∧ Ok K mg F H' σ' env S ∧ dFr dg d (its.drop (i + 1)) env = some (r, env') ∧ Cont' K mg D (W1 ++ W2) F H' S σ' r env', fun σ' H' z => ⟨its.length - (i + 1), by omega, rfl, hlt, z⟩, fun x H3 y => ?_⟩
    obtain ⟨F3, st3, le3, r3⟩ := yl x H3 y
    have ok3 := ok.keep st3 emp_dj le3
    have a0 : Stp F H (Cup Emp S) F3 H3 (Cup Emp S) := st3.frame S
    have st3' : Stp F H S F3 H3 S := (a0.big (R := S) fun z u => Or.elim u (fun u => False.elim u) id).weak fun z u => Or.inr u
    split at hd
    · rename_i e h1
      refine ⟨F3, env, S, Emp, its[i], e, ok3, r3, dj_emp, h1, fun σ1 S1 ok1 sub1 of1 => ?_⟩
      have st4 : Stp F H S F3 H3 (Cup S1 Emp) := st3'.weak fun z u => u.elim (fun u => (sub1 z u).elim id fun u => u.elim) fun u => u.elim
      have c1 := c.step st4 (of1.mono fun i z => List.mem_append_left _ z)
      have st5 : Stp F0 H0 S0 F3 H3 S1 := st.trans (st4.weak fun _ z => .inl z)
      split at hd
      · rename_i e2 h2
        refine ⟨F3, e, S1, .nx, e2, ok1, h2, fun F2 H2 S2 R2 σ2 st2 ok2 of2 dj2 => ?_⟩
        exact ⟨F2, e2, S2, st5.trans (st2.weak fun _ z => .inl z), ok2, hd, c1.step st2 (of2.mono fun i z => List.mem_append_right _ z)⟩
      · rename_i e2 h2
        refine ⟨F3, e, S1, .ct, e2, ok1, h2, fun F2 H2 S2 R2 σ2 st2 ok2 of2 dj2 => ?_⟩
        exact ⟨F2, e2, S2, st5.trans (st2.weak fun _ z => .inl z), ok2, hd, c1.step st2 (of2.mono fun i z => List.mem_append_right _ z)⟩
      · rename_i e2 h2
        cases hd
        exact ⟨F3, e, S1, .bk, _, ok1, h2, fun F2 H2 S2 R2 σ2 st2 ok2 of2 dj2 => c1 F2 H2 S2 R2 σ2 st2 ok2 (of2.mono fun i z => List.mem_append_right _ z) dj2⟩
      · rename_i t e2 h2
        cases hd
        exact ⟨F3, e, S1, .rt t, _, ok1, h2, fun F2 H2 S2 R2 σ2 st2 ok2 of2 dj2 => c1 F2 H2 S2 R2 σ2 st2 ok2 (of2.mono fun i z => List.mem_append_right _ z) dj2⟩
      · cases hd
    · cases hd
  · have e : i = its.length := by omega
    subst e
    rw [List.drop_length] at hd
    cases hd
    exact .inl ⟨g2 (Nat.le_refl _), c.now .refl ok .refl⟩
theorem for_imp {di : DI} {dg : DG} {d : DS} (h : tS K mg (W1 ++ W2) (dFor di dg d) D σ H) : tFor (tI K mg di) (tG K mg W1 dg) (tS K mg W2 d) D σ H := by
  obtain ⟨F, env, S, r, env', ok, hd, q⟩ := h
  obtain ⟨⟨its, e⟩, h1, h2⟩ := Option.bind_eq_some_iff.mp hd
  exact ⟨F, env, S, its, e, ok, h1, fun J F1 H1 S1 st1 ok1 g1 => for_core g1 ok1 h2 (q.step (R := Emp) (st1.weak fun _ z => z.elim id fun z => z.elim) .refl)⟩
theorem ss_for {X : Cx} {tg iter : Expr} {body : List Stmt} {di : DI} {dg : DG} {d : DS} {pos : Pos} (hp : PassesOwn (model X.prog X.w) X.A X.env X.xe) (hc : X.calm = true) (hi : SI X tg iter di) (hg : SG X tg W1 dg) (hb : SSs X body W2 d)
    (hs : ∀ x, foldedSetIterable iter X.env x = pure x := by intro _; rfl) : SS X (.For tg iter body [] pos) (W1 ++ W2) (dFor di dg d) := psw (ps_for hp hc hi hg hb hs) fun _ _ _ => for_imp
end

/-! ### a def -/
/-- the parameters behind the body: those that are never stored -/
def outs : List Bool → List T → List T
  | b :: bs, t :: ts => (if b = true then t else .no) :: outs bs ts
  | _, _ => []
def dFun (keep : List Bool) (n : Nat) (d : DS) : FT := fun ts => if ts.length = keep.length then match d (ts ++ List.replicate (n - keep.length) .no) with
    | some (.rt t, e) => some (t, outs keep e)
    | some (.nx, e) => some (.lf .non, outs keep e)
    | _ => none
  else none
theorem dFun_len {keep : List Bool} {n : Nat} {d : DS} {m : Nat} (h : keep.length = m) : FLen (dFun keep n d) m := fun ts r e => by
  unfold dFun at e
  split at e
  · rw [← h]; assumption
  · cases e
section
variable {K : PySem.W.Frag} {mg : Mg} {F H : Hp}
theorem start_rep : ∀ {vs : List V} {ts : List T} {S : AS} {k : Nat}, Reps K mg F H vs ts S → StR K mg F H (vs.map some ++ List.replicate k none) (ts ++ List.replicate k .no) S
  | _, _, S, 0, .nil h => .nil h
  | _, _, S, k + 1, .nil h => .cons (S1 := S) (S2 := S) ⟨rfl, h⟩ (start_rep (k := k) (.nil h)) (fun x a => (h x a).elim) fun x => ⟨.inl, fun z => z.elim id id⟩
  | _, _, _, k, .cons r q d hS => .cons r (start_rep q) d hS
theorem outs_rep : ∀ {keep : List Bool} {vs : List V} {σ : L2.St} {env : List T} {S : AS}, keep.length = vs.length → StR K mg F H σ env S → (∀ (i : Nat) (v : V), keep[i]? = some true → vs[i]? = some v → σ[i]? = some (some v)) → vs.length ≤ σ.length →
    ∃ S', Reps K mg F H vs (outs keep env) S' ∧ ∀ x, S' x → S x
  | [], [], _, env, S, _, _, _, _ => ⟨Emp, (show Reps K mg F H [] [] Emp from .nil fun _ z => z), fun _ z => z.elim⟩
  | [], _ :: _, _, _, _, h, _, _, _ => by simp at h
  | _ :: _, [], _, _, _, h, _, _, _ => by simp at h
  | b :: keep, v :: vs, [], _, _, _, _, _, h => by simp at h
  | b :: keep, v :: vs, s :: σ, env, S, hl, r, hk, hle => by
    cases r with
    | @cons _ t _ env _ S1 S2 r q d hS =>
      obtain ⟨S', g1, g2⟩ := outs_rep (keep := keep) (vs := vs) (by simpa using hl) q (fun i w h1 h2 => by simpa using hk (i + 1) w (by simpa using h1) (by simpa using h2)) (by simpa using hle)
      cases b with
      | false =>
        refine ⟨S', ?_, fun x z => (hS x).mpr (.inr (g2 x z))⟩
        rw [outs, if_neg Bool.false_ne_true]
        exact .cons (S1 := Emp) (S2 := S') (.no fun _ z => z) g1 emp_dj fun x => ⟨.inr, fun z => z.elim (fun z => z.elim) id⟩
      | true =>
        have e := hk 0 v rfl rfl
        simp at e
        subst e
        refine ⟨Cup S1 S', ?_, fun x z => z.elim (fun z => (hS x).mpr (.inl z)) fun z => (hS x).mpr (.inr (g2 x z))⟩
        rw [outs, if_pos rfl]
        exact .cons r g1 (fun x a b => d x a (g2 x b)) fun _ => Iff.rfl
end
section
variable {P : Program} {w : World} {K : PySem.W.Frag} {mg : Mg} {base : Heap}
theorem def_end {n : Nat} {N ps : List Str} {W : List Nat} {d : DS} {keep : List Bool} {vs : List V} {H : Hp} {Q : VK} {E : XK} (hk : keep.length = ps.length) (hN : N.length = n) (hW : ∀ i ∈ W, keep[i]? ≠ some true) (h : spD K mg ps.length (dFun keep n d) vs H Q E) :
    tS K mg W d { nx := fun _ H' => Q .non H', rt := Q } (L2.start N vs) H := by
  obtain ⟨hl, F0, S0, ts, r, ts', le, rp, hf, q⟩ := h
  have hln : N.length - vs.length = n - keep.length := by rw [hN, hl, hk]
  have hst : StR K mg F0 H (L2.start N vs) (ts ++ List.replicate (n - keep.length) .no) S0 := by
    unfold L2.start
    rw [hln]
    exact start_rep rp
  have tail : ∀ {σ' : L2.St} {e : List T} {F' H' : Hp} {S' R : AS} {v : V}, Stp F0 H S0 F' H' (Cup S' R) → Ok K mg F' H' σ' e S' → Off W (L2.start N vs) σ' → Dj S' R → outs keep e = ts' → Rep K mg F' H' v r R → Q v H' := by
    intro σ' e F' H' S' R v st ok of dj ho rv
    have hkv : keep.length = vs.length := by rw [hk, hl]
    have hlen : vs.length ≤ σ'.length := by
      rw [of.len]
      unfold L2.start
      simp
    obtain ⟨S'', g1, g2⟩ := outs_rep hkv ok.st (fun i v h1 h2 => by
      have hn : i ∉ W := fun z => hW i z h1
      rw [of.at_ i hn]
      unfold L2.start
      obtain ⟨h3, h4⟩ := List.getElem?_eq_some_iff.mp h2
      rw [List.getElem?_append_left (by simpa using h3)]
      simp [h4, h3]) hlen
    exact q v F' H' R S'' (st.weak fun x z => z.elim .inr fun z => .inl (g2 x z)) ok.le rv (by rw [← ho]; exact g1) fun x a b => dj x (g2 x b) a
  unfold dFun at hf
  split at hf
  · split at hf
    · rename_i t e h1
      cases hf
      exact ⟨F0, _, S0, _, _, ⟨le, hst⟩, h1, fun F' H' S' R σ' st ok of dj v rv => tail st ok of dj rfl rv⟩
    · rename_i e h1
      cases hf
      exact ⟨F0, _, S0, _, _, ⟨le, hst⟩, h1, fun F' H' S' R σ' st ok of dj => tail (R := Emp) (st.weak fun _ z => z.elim .inl fun z => z.elim) ok of dj_emp rfl (.lf rfl fun _ z => z)⟩
    · cases hf
  · cases hf
theorem ok_def {n : Nat} {x qual : Str} {st : Stmt} {f : Addr} {fd : FuncData} {N ps : List Str} {k : Nat} {W : List Nat} {d : DS} {keep : List Bool} (F : Fun K x qual st f fd) (S : FnScope N ps (defScope st)) (hk : keep.length = ps.length) (hN : N.length = n) (hW : ∀ i ∈ W, keep[i]? ≠ some true)
    (hb : ∀ (cdv : Value) (A : Around) (outer : List Env) (s : Shared) (H : Hp) (E : XK), Room k (A.deeper (envOfC qual (defScope st) s.heap.objs.size f cdv)) →
      SSs (cxOf CX0 P w K mg base N qual (defScope st) f cdv A outer s H E).nox (defBody st) W d) : FnOk P w K mg base CX0 (k + 1) f fd ps (spD K mg ps.length (dFun keep n d)) := by
  refine F.ok S (fun vs H Q E h => h.1) (fun cdv A outer s H vs Q E hr h => ?_)
  exact ⟨_, hb cdv A outer s H E hr, def_end hk hN hW h⟩
end
end Tr


set_option Elab.async false
set_option linter.all false
set_option maxRecDepth 100000
set_option maxHeartbeats 4000000
/-! D8: what is walked; comprehensions. -/
namespace Tr
open PySem PySem.Spec PyProof.Rows L2

section
variable {K : PySem.W.Frag} {mg : Mg} {F H : Hp}
/-- a range -/
def dRng (d : DE) : DI := fun env => match d env with
  | some (.lf (.int j), e) => if -(2 ^ 62) ≤ j ∧ j < 2 ^ 62 then some ((List.range j.toNat).map fun (k : Nat) => lfI k, e) else none
  | _ => none
def dRng2 (a b : DV) : DI := fun env => match a env, b env with
  | some (.lf (.int i)), some (.lf (.int j)) => if (-(2 ^ 62) ≤ i ∧ i < 2 ^ 62) ∧ -(2 ^ 62) ≤ j ∧ j < 2 ^ 62 then some ((List.range (j - i).toNat).map fun (k : Nat) => lfI (i + k), env) else none
  | _, _ => none
theorem good_rng {lo : Int} {n : Nat} {S : AS} : Good K mg ((List.range n).map fun (k : Nat) => lfI (lo + k)) (Itr lo n) F H S := fun i F2 H2 S2 st le => by
  refine ⟨fun t h => ?_, fun h => by
    have h' : n ≤ i := by simpa using h
    exact h'⟩
  have hi : i < n := by
    have := (List.getElem?_eq_some_iff.mp h).1
    simpa using this
  rw [List.getElem?_map, List.getElem?_range hi] at h
  cases h
  refine ⟨hi, fun x H3 y => ?_⟩
  obtain ⟨e1, e2⟩ := y
  subst e1 e2
  exact ⟨F2, .refl, le, .lf rfl fun _ z => z⟩
theorem si_rng {X : Cx} {tg e : Expr} {d : DE} {p pos : Pos} (hg : Gl X "range") (hm : X.mg "range" = none) (ha : SR X e d) (hs : starEach [e] X.env = [(false, eval e X.env)] := by rfl) : SI X tg (.Call (.Name "range" p) [e] [] pos) (dRng d) :=
  piw (pi_range1 hg hm (pa_cons ha pa_nil hs) hs) fun σ H R ⟨F, env, S, its, env', ok, hd, q⟩ => by
    unfold dRng at hd
    split at hd
    · rename_i j e1 h1
      split at hd
      · rename_i hj
        cases hd
        refine ⟨F, env, S, _, _, ok, h1, fun v F1 H1 S1 R1 st ok1 r => ⟨j, by rw [r.lf_inv.1], hj.1, hj.2, ?_⟩⟩
        refine q (Itr 0 j.toNat) F1 H1 S1 st ok1 ?_
        have := good_rng (K := X.K) (mg := X.mg) (F := F1) (H := H1) (lo := 0) (n := j.toNat) (S := S1)
        simpa using this
      · cases hd
    · cases hd
theorem si_rng2 {X : Cx} {tg a b : Expr} {da db : DV} {p pos : Pos} (hg : Gl X "range") (hm : X.mg "range" = none) (ha : SV X a da) (hb : SV X b db) (hs : starEach [a, b] X.env = [(false, eval a X.env), (false, eval b X.env)] := by rfl) (hs2 : starEach [b] X.env = [(false, eval b X.env)] := by rfl) :
    SI X tg (.Call (.Name "range" p) [a, b] [] pos) (dRng2 da db) :=
  piw (pi_range2 hg hm (pa_cons ha (pa_cons hb pa_nil hs2) (hs.trans (by rw [hs2]))) hs hs2) fun σ H R ⟨F, env, S, its, env', ok, hd, q⟩ => by
    unfold dRng2 at hd
    split at hd
    · rename_i i j h1 h2
      split at hd
      · rename_i hj
        cases hd
        refine ⟨F, _, S, _, ok, h1, fun v R1 r1 => ⟨F, _, S, _, ok, h2, fun w R2 r2 => ⟨i, j, by rw [r1.lf_inv.1, r2.lf_inv.1], ⟨hj.1.1, hj.1.2, hj.2.1, hj.2.2⟩, ?_⟩⟩⟩
        exact q (Itr i (j - i).toNat) F H S .refl ok good_rng
      · cases hd
    · cases hd

/-! ### lists, tuples -/
/-- where a node stands is nobody else's -/
theorem Rep.stays {v : V} {o : Bool} {k : Kd} {xs : List T} {R S : AS} (le : Le F H) (r : Rep K mg F H v (.nd o k xs) R) (dj : Dj S R) (hS : ∀ x, S x → F x = none) :
    ∃ a vs S0, v = .ref a ∧ Reps K mg F H vs xs S0 ∧ (∀ x, S0 x → R x) ∧ ∀ F2 H2 S2, Stp F H S F2 H2 S2 → Le F2 H2 → Here K mg H2 a k vs := by
  cases r with
  | own h1 h2 c r na hS' => exact ⟨_, _, _, rfl, r, fun x z => (hS' x).mpr (.inr z), fun F2 H2 S2 st le2 => .of (st.kp _ _ h1 fun z => dj _ z ((hS' _).mpr (.inl rfl))) c⟩
  | frz h c r => exact ⟨_, _, _, rfl, r, fun _ z => z, fun F2 H2 S2 st le2 => .of (le2 _ _ (st.ff _ _ h)) c⟩
  | rol h r => exact ⟨_, _, _, rfl, r, fun _ z => z, fun F2 H2 S2 st le2 => (st.ff.trans le2).sqL h⟩
  | rot h r => exact ⟨_, _, _, rfl, r, fun _ z => z, fun F2 H2 S2 st le2 => (st.ff.trans le2).sqT h⟩
def itemsL : T → Option (List T)
  | .nd _ .lst xs => some (frzs xs)
  | .nd _ .rol xs => some (frzs xs)
  | _ => none
def itemsT : T → Option (List T)
  | .nd _ .tup xs => some (frzs xs)
  | .nd _ .rot xs => some (frzs xs)
  | _ => none
def dIt (f : T → Option (List T)) (d : DE) : DI := fun env => (d env).bind fun p => (f p.1).map fun its => (its, p.2)
theorem frzs_get {xs : List T} {i : Nat} {t : T} (h : (frzs xs)[i]? = some t) : ∃ u, xs[i]? = some u ∧ t = frz u := by
  rw [frzs_map, List.getElem?_map] at h
  obtain ⟨u, h1, h2⟩ := Option.map_eq_some_iff.mp h
  exact ⟨u, h1, h2.symm⟩
mutual
theorem cln_frz : ∀ t : T, cln (frz t) = true
  | .no => by rw [frz, cln]
  | .lf _ => by rw [frz, cln]
  | .nd _ _ xs => by rw [frz, cln, clns_frz xs]; rfl
theorem clns_frz : ∀ ts : List T, clns (frzs ts) = true
  | [] => by rw [frzs, clns]
  | t :: ts => by rw [frzs, clns, cln_frz t, clns_frz ts]; rfl
end
mutual
theorem frz_cln : ∀ t : T, cln t = true → frz t = t
  | .no, _ => by rw [frz]
  | .lf _, _ => by rw [frz]
  | .nd o k xs, h => by
    simp only [cln, Bool.and_eq_true, Bool.not_eq_true'] at h
    rw [frz, frzs_cln xs h.2, h.1]
theorem frzs_cln : ∀ ts : List T, clns ts = true → frzs ts = ts
  | [], _ => by rw [frzs]
  | t :: ts, h => by
    simp only [clns, Bool.and_eq_true] at h
    rw [frzs, frz_cln t h.1, frzs_cln ts h.2]
end
/-- the things of a value of one's own, all frozen -/
theorem items_frozen {σ : L2.St} {env : List T} {F0 H0 : Hp} {S0 S R : AS} {v : V} {o : Bool} {k : Kd} {xs : List T} (st : Stp F0 H0 S0 F H (Cup S R)) (ok : Ok K mg F H σ env S) (r : Rep K mg F H v (.nd o k xs) R) (dj : Dj S R) :
    ∃ F' a vs, v = .ref a ∧ Stp F0 H0 S0 F' H S ∧ Ok K mg F' H σ env S ∧ Reps K mg F' H vs (frzs xs) Emp ∧ ∀ F2 H2 S2, Stp F' H S F2 H2 S2 → Le F2 H2 → Here K mg H2 a k vs := by
  have ff := frF_le (A := R) ok.le
  have stF : Stp F H (Cup S R) (frF F H R) H S := frF_stp ok.le (fun _ z => .inr z) fun _ z => .inl z
  have stF' : Stp F H R (frF F H R) H Emp := frF_stp ok.le (fun _ z => z) fun _ z => z.elim
  have ok' := ok.keep stF' dj.symm ff.2
  have r' : Rep K mg (frF F H R) H v (frz (.nd o k xs)) Emp := r.freeze ff.1 (fun x z => frF_in z) fun _ z => z
  rw [frz] at r'
  obtain ⟨a, vs, S1, rfl, p, hs, hr⟩ := r'.stays (S := S) ff.2 dj_emp fun x z => (ok'.st.dom x z).2
  exact ⟨frF F H R, a, vs, rfl, st.trans stF, ok', p.clean0 (clns_frz xs), hr⟩
theorem good_list {a : Addr} {vs : List V} {its : List T} {S : AS} (r : Reps K mg F H vs its Emp) (hr : ∀ F2 H2 S2, Stp F H S F2 H2 S2 → Le F2 H2 → SqL K H2 a vs) : Good K mg its (Itl K a) F H S := fun i F2 H2 S2 st le => by
  have hq := hr F2 H2 S2 st le
  refine ⟨fun t h => ?_, fun h => ⟨vs, hq, by rw [r.length (S := Emp)]; exact h⟩⟩
  obtain ⟨v, R, e1, e2, e3⟩ := r.get h
  refine ⟨⟨vs, v, hq, e1⟩, fun x H3 y => ?_⟩
  obtain ⟨e4, y⟩ := y
  subst e4
  have e5 := (y vs hq).symm.trans e1
  cases e5
  exact ⟨F2, .refl, le, (e2.iff (S' := Emp) fun x => ⟨fun z => z.elim, fun z => e3 x z⟩).frame st.ff fun _ z => z.elim⟩
theorem good_tup {a : Addr} {vs : List V} {its : List T} {S : AS} (r : Reps K mg F H vs its Emp) (hr : ∀ F2 H2 S2, Stp F H S F2 H2 S2 → Le F2 H2 → SqT K H2 a vs) : Good K mg its (Itt K a) F H S := fun i F2 H2 S2 st le => by
  have hq := hr F2 H2 S2 st le
  refine ⟨fun t h => ?_, fun h => ⟨vs, hq, by rw [r.length (S := Emp)]; exact h⟩⟩
  obtain ⟨v, R, e1, e2, e3⟩ := r.get h
  refine ⟨⟨vs, v, hq, e1⟩, fun x H3 y => ?_⟩
  obtain ⟨e4, y⟩ := y
  subst e4
  have e5 := (y vs hq).symm.trans e1
  cases e5
  exact ⟨F2, .refl, le, (e2.iff (S' := Emp) fun x => ⟨fun z => z.elim, fun z => e3 x z⟩).frame st.ff fun _ z => z.elim⟩
theorem dIt_some {f : T → Option (List T)} {d : DE} {env its e : List T} (h : dIt f d env = some (its, e)) : ∃ t, d env = some (t, e) ∧ f t = some its := by
  obtain ⟨⟨t, e1⟩, h1, h2⟩ := Option.bind_eq_some_iff.mp h
  obtain ⟨its', h3, h4⟩ := Option.map_eq_some_iff.mp h2
  cases h4
  exact ⟨t, h1, h3⟩
theorem itemsL_some {t : T} {its : List T} (h : itemsL t = some its) : ∃ o k xs, t = .nd o k xs ∧ its = frzs xs ∧ ∀ (K : PySem.W.Frag) (mg : Mg) (H : Hp) (a : Addr) (vs : List V), Here K mg H a k vs → SqL K H a vs := by
  unfold itemsL at h
  split at h
  · cases h; exact ⟨_, _, _, rfl, rfl, fun _ _ _ _ _ z => SqL.of z⟩
  · cases h; exact ⟨_, _, _, rfl, rfl, fun _ _ _ _ _ z => z⟩
  · cases h
theorem itemsT_some {t : T} {its : List T} (h : itemsT t = some its) : ∃ o k xs, t = .nd o k xs ∧ its = frzs xs ∧ ∀ (K : PySem.W.Frag) (mg : Mg) (H : Hp) (a : Addr) (vs : List V), Here K mg H a k vs → SqT K H a vs := by
  unfold itemsT at h
  split at h
  · cases h; exact ⟨_, _, _, rfl, rfl, fun _ _ _ _ _ z => SqT.of z⟩
  · cases h; exact ⟨_, _, _, rfl, rfl, fun _ _ _ _ _ z => z⟩
  · cases h
theorem si_list {X : Cx} {tg l : Expr} {d : DE} (hl : SE X l d) : SI X tg l (dIt itemsL d) := piw (pi_list hl) fun σ H Rk ⟨F, env, S, its, e, ok, hd, q⟩ => by
  obtain ⟨t, h1, h2⟩ := dIt_some hd
  obtain ⟨o, k, xs, rfl, rfl, hk⟩ := itemsL_some h2
  refine ⟨F, env, S, _, e, ok, h1, fun v F1 H1 S1 R1 st ok1 r dj => ?_⟩
  obtain ⟨F', a, vs, rfl, st', ok', p, hr⟩ := items_frozen st ok1 r dj
  exact ⟨a, rfl, ⟨vs, hk _ _ _ _ _ (hr F' H1 S1 .refl ok'.le)⟩, q _ F' H1 S1 st' ok' (good_list p fun F2 H2 S2 s l => hk _ _ _ _ _ (hr F2 H2 S2 s l))⟩
theorem si_tup {X : Cx} {tg l : Expr} {d : DE} (hl : SE X l d) : SI X tg l (dIt itemsT d) := piw (pi_tup hl) fun σ H Rk ⟨F, env, S, its, e, ok, hd, q⟩ => by
  obtain ⟨t, h1, h2⟩ := dIt_some hd
  obtain ⟨o, k, xs, rfl, rfl, hk⟩ := itemsT_some h2
  refine ⟨F, env, S, _, e, ok, h1, fun v F1 H1 S1 R1 st ok1 r dj => ?_⟩
  obtain ⟨F', a, vs, rfl, st', ok', p, hr⟩ := items_frozen st ok1 r dj
  exact ⟨a, rfl, ⟨vs, hk _ _ _ _ _ (hr F' H1 S1 .refl ok'.le)⟩, q _ F' H1 S1 st' ok' (good_tup p fun F2 H2 S2 s l => hk _ _ _ _ _ (hr F2 H2 S2 s l))⟩
/-- a text, sign by sign -/
def itemsS : T → Option (List T)
  | .lf (.str x) => some (x.cps.toList.map fun c => .lf (.str ⟨#[c]⟩))
  | _ => none
theorem si_str {X : Cx} {tg l : Expr} {d : DE} (hl : SR X l d) : SI X tg l (dIt itemsS d) := piw (pi_str hl) fun σ H Rk ⟨F, env, S, its, e, ok, hd, q⟩ => by
  obtain ⟨t, h1, h2⟩ := dIt_some hd
  unfold itemsS at h2
  split at h2
  · rename_i x
    cases h2
    refine ⟨F, env, S, _, e, ok, h1, fun v F1 H1 S1 R1 st ok1 r => ⟨x, r.lf_inv.1, q _ F1 H1 S1 st ok1 fun i F2 H2 S2 st2 le => ⟨fun t h => ?_, fun h => ?_⟩⟩⟩
    · have hi : i < x.cps.size := by
        have := (List.getElem?_eq_some_iff.mp h).1
        simpa using this
      refine ⟨hi, fun y H3 z => ?_⟩
      obtain ⟨e1, c, e2, e3⟩ := z
      subst e1 e3
      rw [List.getElem?_map] at h
      obtain ⟨c', h3, h4⟩ := Option.map_eq_some_iff.mp h
      have : c' = c := by
        have e2' : x.cps.toList[i]? = some c := by simpa using e2
        rw [e2'] at h3
        exact (Option.some.inj h3).symm
      subst this h4
      exact ⟨F2, .refl, le, .lf rfl fun _ z => z⟩
    · have : x.cps.size ≤ i := by simpa using h
      exact this
  · cases h2
end
end Tr


set_option Elab.async false
set_option linter.all false
set_option maxRecDepth 100000
set_option maxHeartbeats 4000000
/-! D9: list comprehensions. -/
namespace Tr
open PySem PySem.Spec PyProof.Rows L2

/-- the block's own slots emptied -/
def wipeT : List T → List Nat → List T
  | env, [] => env
  | env, v :: vs => (wipeT env vs).set v .no
/-- .. and given back -/
def backT (old : List T) : List T → List Nat → List T
  | env, [] => env
  | env, v :: vs => backT old (env.set v (old.getD v .no)) vs
/-- the slots hold nothing owned -/
def cleanAt (env : List T) (vs : List Nat) : Bool := vs.all fun v => decide (v < env.length) && cln (env.getD v .no)
/-- the turns: the things made so far -/
def dLr (dg : DG) (dc de : DE) (vs : List Nat) : List T → List T → List T → Option (List T × List T)
  | [], acc, env => some (acc, env)
  | t :: ts, acc, env => (dg t env).bind fun e => match dc e with
    | some (.lf (.bl true), e1) => (de e1).bind fun p => if acc.length < sizeLine then dLr dg dc de vs ts (acc ++ [p.1]) (wipeT p.2 vs) else none
    | some (.lf (.bl false), e1) => dLr dg dc de vs ts acc (wipeT e1 vs)
    | _ => none
def dLc (di : DI) (dg : DG) (dc de : DE) (vs : List Nat) : DE := fun env => (di env).bind fun p => if cleanAt p.2 vs = true then
  (dLr dg dc de vs p.1 [] (wipeT p.2 vs)).map fun q => (.nd true .lst q.1, backT p.2 q.2 vs) else none
section
variable {K : PySem.W.Frag} {mg : Mg} {F H : Hp} {σ : L2.St}
theorem wipe_rep {env : List T} {S : AS} (ok : Ok K mg F H σ env S) : ∀ vs : List Nat, ∃ S', Ok K mg F H (wipe σ vs) (wipeT env vs) S' ∧ ∀ x, S' x → S x
  | [] => ⟨S, ok, fun _ z => z⟩
  | v :: vs => by
    obtain ⟨S1, ok1, h1⟩ := wipe_rep ok vs
    by_cases hv : v < (wipeT env vs).length
    · obtain ⟨s, A, B, e1, e2, e3, e4, rest⟩ := ok1.st.split (List.getElem?_eq_getElem hv)
      refine ⟨Cup Emp B, ⟨ok.le, ?_⟩, fun x z => z.elim (fun z => z.elim) fun z => h1 x ((e4 x).mpr (.inr z))⟩
      exact rest F H none .no Emp (Le.refl _) (fun y z => ⟨rfl, (ok1.st.dom y ((e4 y).mpr (.inr z))).2⟩) ⟨rfl, fun _ z => z⟩ emp_dj
    · refine ⟨S1, ⟨ok.le, ?_⟩, h1⟩
      have hl := ok1.st.length
      rw [wipe, wipeT, List.set_eq_of_length_le (by omega), List.set_eq_of_length_le (by omega)]
      exact ok1.st
theorem wipeT_length (env : List T) : ∀ vs : List Nat, (wipeT env vs).length = env.length
  | [] => rfl
  | v :: vs => by rw [wipeT, List.length_set, wipeT_length env vs]
/-- what stands in the slots, clean, wherever one is -/
def SlotsOk (K : PySem.W.Frag) (mg : Mg) (F H : Hp) (σ : L2.St) (old : List T) (vs : List Nat) : Prop := ∀ v ∈ vs, ∃ s, σ[v]? = some s ∧ RepO K mg F H s (old.getD v .no) Emp
theorem slots_ok {env : List T} {S : AS} (ok : Ok K mg F H σ env S) {vs : List Nat} (c : cleanAt env vs = true) : SlotsOk K mg F H σ env vs := fun v hv => by
  have h := List.all_eq_true.mp c v hv
  simp only [Bool.and_eq_true, decide_eq_true_eq] at h
  obtain ⟨s, A, B, e1, e2, _⟩ := ok.st.split (List.getElem?_eq_getElem h.1)
  have e : env.getD v .no = env[v] := by rw [List.getD_eq_getElem?_getD, List.getElem?_eq_getElem h.1]; rfl
  refine ⟨s, e1, ?_⟩
  rw [e]
  rw [e] at h
  cases s with
  | none => exact ⟨e2.1, fun _ z => z⟩
  | some w => exact Rep.clean0 e2 h.2
theorem SlotsOk.stay {F' H' : Hp} {old : List T} {vs : List Nat} (ff : Le F F') (h : SlotsOk K mg F H σ old vs) : SlotsOk K mg F' H' σ old vs := fun v hv => by
  obtain ⟨s, e, r⟩ := h v hv
  exact ⟨s, e, r.frame ff fun _ z => z.elim⟩
theorem back_rep {old : List T} : ∀ {vs : List Nat} {env : List T} {S : AS}, vs.Nodup → Ok K mg F H (wipe σ vs) env S → SlotsOk K mg F H σ old vs → ∃ S', Ok K mg F H σ (backT old env vs) S' ∧ ∀ x, S' x → S x
  | [], env, S, _, ok, _ => ⟨S, ok, fun _ z => z⟩
  | v :: vs, env, S, nd, ok, so => by
    have nd' := List.nodup_cons.mp nd
    obtain ⟨s, e, r⟩ := so v (List.mem_cons_self ..)
    have hl := ok.st.length
    have hvσ : v < σ.length := (List.getElem?_eq_some_iff.mp e).1
    have hv : v < env.length := by rw [← hl, wipe_length]; exact hvσ
    obtain ⟨s0, A, B, e1, e2, e3, e4, rest⟩ := ok.st.split (List.getElem?_eq_getElem hv)
    have q := rest F H s (old.getD v .no) Emp (Le.refl _) (fun y z => ⟨rfl, (ok.st.dom y ((e4 y).mpr (.inr z))).2⟩) r emp_dj
    have es : (wipe σ (v :: vs)).set v s = wipe σ vs := by
      rw [wipe, List.set_set]
      exact set_self' ((wipe_out nd'.1).trans e)
    rw [es] at q
    obtain ⟨S2, ok2, h2⟩ := back_rep nd'.2 ⟨ok.le, q⟩ fun w hw => so w (List.mem_cons_of_mem _ hw)
    exact ⟨S2, ok2, fun x z => (h2 x z).elim (fun z => z.elim) fun z => (e4 x).mpr (.inr z)⟩
/-- a thing put behind a list of one's own -/
theorem snoc_rep {D : Addr} {acc : List V} {ts : List T} {RD R : AS} {y : V} {t : T} (h1 : H D = some (.lst acc)) (h2 : F D = none) (rs : Reps K mg F H acc ts RD) (nD : ¬ RD D) (r : Rep K mg F H y t R) (dj : Dj RD R) (nR : ¬ R D) :
    Reps K mg F (upd H D (.lst (acc ++ [y]))) (acc ++ [y]) (ts ++ [t]) (Cup RD R) := by
  have up : ∀ x, Cup RD R x → upd H D (.lst (acc ++ [y])) x = H x ∧ F x = none := fun x z => by
    have hx : x ≠ D := fun e => z.elim (fun z => nD (e ▸ z)) fun z => nR (e ▸ z)
    exact ⟨upd_ne hx, z.elim (fun z => (rs.dom x z).2) fun z => (r.dom x z).2⟩
  have one : Reps K mg F H [y] [t] R := .cons (S1 := R) (S2 := Emp) r (.nil fun _ z => z) dj_emp fun x => ⟨.inl, fun z => z.elim id fun z => z.elim⟩
  exact (Reps.append one rs dj).frame (Le.refl _) up
/-- a written list is a step of its own custody -/
theorem write_step {D : Addr} {o : HO} {S : AS} (hD : S D) : Stp F H S F (upd H D o) S :=
  ⟨Le.refl _, fun a o' e n => by rw [upd_ne fun z => n (by rw [z]; exact hD)]; exact e, fun _ _ e => .inl e, fun _ z => .inl z⟩
theorem wipe_in {τ : L2.St} {j : Nat} : ∀ {vs : List Nat}, j ∈ vs → (wipe τ vs)[j]? = if j < τ.length then some none else none
  | [], h => by simp at h
  | v :: vs, h => by
    rw [wipe]
    by_cases e : v = j
    · subst e
      by_cases hlt : v < τ.length
      · rw [if_pos hlt, List.getElem?_set_self (by rw [wipe_length]; exact hlt)]
      · rw [if_neg hlt, List.getElem?_eq_none (by rw [List.length_set, wipe_length]; omega)]
    · rw [List.getElem?_set_ne e]
      exact wipe_in ((List.mem_cons.mp h).elim (fun z => (e z.symm).elim) id)
theorem wipe_off {τ : L2.St} {vs W : List Nat} (of : Off W (wipe σ vs) τ) (hW : ∀ i ∈ W, i ∈ vs) : wipe τ vs = wipe σ vs := by
  refine List.ext_getElem? fun j => ?_
  have hl : τ.length = σ.length := of.len.trans (wipe_length _ _)
  by_cases hj : j ∈ vs
  · rw [wipe_in hj, wipe_in hj, hl]
  · rw [wipe_out hj, of.at_ j fun z => hj (hW j z)]
theorem lc_imp {di : DI} {dg : DG} {dc de : DE} {vs W : List Nat} {tt : TT} {Q : VK} (nd : vs.Nodup) (hW : ∀ i ∈ W, i ∈ vs) (htt : ∀ σ H Q, tTest (tR K mg dc) σ H Q → tt σ H Q) (h : tE K mg (dLc di dg dc de vs) σ H Q) :
    tLc (tI K mg di) (tG K mg W dg) tt (tE K mg de) vs σ H Q := by
  obtain ⟨F, env, S, t, env', ok, hd, q⟩ := h
  obtain ⟨⟨its, e0⟩, h1, h2⟩ := Option.bind_eq_some_iff.mp hd
  split at h2
  · rename_i hc
    obtain ⟨⟨acc, e9⟩, h3, h4⟩ := Option.map_eq_some_iff.mp h2
    cases h4
    refine ⟨F, env, S, its, e0, ok, h1, fun J F1 H1 S1 st1 ok1 good => fun D hD => ?_⟩
    have so1 := slots_ok ok1 hc
    have fD : F1 D = none := ok1.le.nn hD
    have sD : ¬ S1 D := fun z => by obtain ⟨⟨o, e⟩, _⟩ := ok1.st.dom D z; rw [hD] at e; cases e
    -- the new list
    have st2 : Stp F1 H1 Emp F1 (upd H1 D (.lst [])) (fun y => y = D) := ⟨Le.refl _, fun a o e _ => by rw [upd_ne (ne_of_none e hD)]; exact e, fun _ _ e => .inl e, fun a e => .inr (by rw [e]; exact hD)⟩
    have le2 : Le F1 (upd H1 D (.lst [])) := fun a o e => st2.kp a o (ok1.le a o e) fun z => z
    obtain ⟨Sw, okw, subw⟩ := wipe_rep ok1 vs
    have okw2 := okw.keep st2 emp_dj le2
    -- the invariant of the turns
    refine ⟨fun i m H => m = its.length - i ∧ i ≤ its.length ∧ ∃ F2 e2 S2 accV accT RA, Stp F1 (upd H1 D (.lst [])) (Cup S1 (fun y => y = D)) F2 H (Cup S2 (Cup (fun y => y = D) RA)) ∧ Ok K mg F2 H (wipe σ vs) e2 S2 ∧
      H D = some (.lst accV) ∧ F2 D = none ∧ ¬ S2 D ∧ ¬ RA D ∧ Reps K mg F2 H accV accT RA ∧ Dj S2 RA ∧ dLr dg dc de vs (its.drop i) accT e2 = some (acc, e9), ⟨its.length, rfl, Nat.zero_le _, F1, wipeT e0 vs, Sw, [], [], Emp, ?_, okw2, upd_same, fD, fun z => sD (subw _ z), fun z => z, .nil fun _ z => z, dj_emp, h3⟩, ?_⟩
    · exact Stp.refl.weak fun x z => z.elim (fun z => .inl (subw x z)) fun z => .inr (z.elim id fun z => z.elim)
    rintro i m H2 ⟨rfl, hi, F2, e2, S2, accV, accT, RA, st3, ok3, hD3, fD3, sD3, rD3, rs3, dj3, hd3⟩
    -- from the good iterator's start to here
    have stg : Stp F1 H1 S1 F2 H2 (Cup S2 (Cup (fun y => y = D) RA)) := by
      have b1 := (st2.frameL S1)
      exact (b1.big fun x z => z.elim id fun z => z.elim).trans st3
    obtain ⟨g1, g2⟩ := good i F2 H2 _ stg ok3.le
    by_cases hlt : i < its.length
    · obtain ⟨go, yl⟩ := g1 _ (List.getElem?_eq_getElem hlt)
      rw [List.drop_eq_getElem_cons hlt, dLr] at hd3
      obtain ⟨e4, h5, h6⟩ := Option.bind_eq_some_iff.mp hd3
      refine .inr ⟨go, fun H' => ∃ F2 e2 S2 accV accT RA, Stp F1 (upd H1 D (.lst [])) (Cup S1 (fun y => y = D)) F2 H' (Cup S2 (Cup (fun y => y = D) RA)) ∧ Ok K mg F2 H' (wipe σ vs) e2 S2 ∧
        H' D = some (.lst accV) ∧ F2 D = none ∧ ¬ S2 D ∧ ¬ RA D ∧ Reps K mg F2 H' accV accT RA ∧ Dj S2 RA ∧ dLr dg dc de vs (its.drop (i + 1)) accT e2 = some (acc, e9), fun H' z => ⟨its.length - (i + 1), by omega, rfl, hlt, z⟩, fun x H3 y => ?_⟩
      obtain ⟨F3, st4, le4, r4⟩ := yl x H3 y
      have ok4 := ok3.keep st4 emp_dj le4
      have rs4 := rs3.keep st4 emp_dj
      have hD4 : H3 D = some (.lst accV) := st4.kp _ _ hD3 fun z => z
      have fD4 : F3 D = none := (st4.keeps (R := fun y => y = D) (fun z e => by subst e; exact ⟨⟨_, hD3⟩, fD3⟩) emp_dj D rfl).2
      refine ⟨F3, e2, S2, Emp, its[i], e4, ok4, r4, dj_emp, h5, fun σ5 S5 ok5 sub5 of5 => ⟨?_, ?_⟩⟩
      · -- the block's slots alone were stored
        exact wipe_off of5 hW
      · have sub5' : ∀ z, S5 z → S2 z := fun z u => (sub5 z u).elim id fun u => u.elim
        have stA : Stp F1 (upd H1 D (.lst [])) (Cup S1 (fun y => y = D)) F3 H3 (Cup S5 (Cup (fun y => y = D) RA)) := by
          have b1 := (st4.frame (Cup S2 (Cup (fun y => y = D) RA))).big (R := Cup S2 (Cup (fun y => y = D) RA)) fun z u => u.elim (fun u => u.elim) id
          exact (st3.trans b1).weak fun z u => u.elim (fun u => .inr (.inl (sub5' z u))) fun u => .inr (.inr u)
        have cust : ∀ z, Cup (fun y => y = D) RA z → (∃ o, H3 z = some o) ∧ F3 z = none := fun z u => u.elim (fun e => by subst e; exact ⟨⟨_, hD4⟩, fD4⟩) fun u => rs4.dom z u
        have dj5 : Dj S5 (Cup (fun y => y = D) RA) := fun z a b => b.elim (fun e => sD3 (by rw [← e]; exact sub5' z a)) fun b => dj3 z (sub5' z a) b
        -- the wiping behind a turn
        have wp : ∀ {F6 H6 : Hp} {e6 : List T} {S6 : AS}, Ok K mg F6 H6 σ5 e6 S6 → ∃ S', Ok K mg F6 H6 (wipe σ vs) (wipeT e6 vs) S' ∧ ∀ x, S' x → S6 x := fun {F6 H6 e6 S6} ok6 => by
          obtain ⟨S', a, b⟩ := wipe_rep ok6 vs
          refine ⟨S', ?_, b⟩
          have ew : wipe σ5 vs = wipe σ vs := wipe_off of5 hW
          rw [← ew]
          exact a
        refine htt _ _ _ ?_
        split at h6
        · rename_i e6 h7
          obtain ⟨⟨t8, e8⟩, h8, h9⟩ := Option.bind_eq_some_iff.mp h6
          split at h9
          · rename_i hz
            refine ⟨F3, e4, S5, _, e6, ok5, h7, fun v F6 H6 S6 R6 st6 ok6 r6 => ⟨true, r6.lf_inv.1, iteT ?_⟩⟩
            refine ⟨F6, e6, S6, t8, e8, ok6, h8, fun y F7 H7 S7 R7 st7 ok7 r7 dj7 => ?_⟩
            have st67 : Stp F3 H3 S5 F7 H7 (Cup S7 R7) := st6.trans st7
            have k7 := st67.keeps cust dj5
            have hD7 : H7 D = some (.lst accV) := (k7 D (.inl rfl)).1.trans hD4
            have fD7 : F7 D = none := (k7 D (.inl rfl)).2
            have dj7' : Dj (Cup S7 R7) (Cup (fun y => y = D) RA) := st67.dj (fun z u => (cust z u).1) dj5
            have rs7 := rs4.keep st67 fun z a b => dj5 z a (.inr b)
            have nR7 : ¬ R7 D := fun z => dj7' D (.inr z) (.inl rfl)
            refine ⟨accV, hD7, by rw [rs7.length (S := Emp)]; exact hz, ?_⟩
            obtain ⟨S8, ok8, sub8⟩ := wp ok7
            have nS8 : ¬ S8 D := fun z => dj7' D (.inl (sub8 D z)) (.inl rfl)
            have rs8 := snoc_rep hD7 fD7 rs7 rD3 r7 (fun z a b => dj7' z (.inr b) (.inr a)) nR7
            have stw : Stp F7 H7 (fun y => y = D) F7 (upd H7 D (.lst (accV ++ [y]))) (fun y => y = D) := write_step rfl
            have ok9 := ok8.keep stw (fun z a b => nS8 (a ▸ b)) (fun a o e => by
              rw [upd_ne fun z => by rw [z, fD7] at e; cases e]
              exact ok7.le a o e)
            refine ⟨F7, _, S8, accV ++ [y], accT ++ [t8], Cup RA R7, ?_, ok9, upd_same, fD7, nS8, fun z => z.elim rD3 nR7, rs8, fun z a b => b.elim (fun b => dj7' z (.inl (sub8 z a)) (.inr b)) fun b => dj7 z (sub8 z a) b, h9⟩
            have b2 := st67.frame (Cup (fun y => y = D) RA)
            have b3 : Stp F7 H7 (Cup (Cup S7 R7) (Cup (fun y => y = D) RA)) F7 (upd H7 D (.lst (accV ++ [y]))) (Cup (Cup S7 R7) (Cup (fun y => y = D) RA)) := write_step (.inr (.inl rfl))
            refine (stA.trans (b2.trans b3)).weak fun z u => ?_
            rcases u with u | u | u | u
            · exact .inl (.inl (sub8 z u))
            · exact .inr (.inl u)
            · exact .inr (.inr u)
            · exact .inl (.inr u)
          · cases h9
        · rename_i e6 h7
          refine ⟨F3, e4, S5, _, e6, ok5, h7, fun v F6 H6 S6 R6 st6 ok6 r6 => ⟨false, r6.lf_inv.1, iteF ?_⟩⟩
          have k6 := st6.keeps cust dj5
          have dj6' : Dj S6 (Cup (fun y => y = D) RA) := st6.dj (fun z u => (cust z u).1) dj5
          obtain ⟨S8, ok8, sub8⟩ := wp ok6
          refine ⟨F6, _, S8, accV, accT, RA, ?_, ok8, (k6 D (.inl rfl)).1.trans hD4, (k6 D (.inl rfl)).2, fun z => dj6' D (sub8 D z) (.inl rfl), rD3, rs4.keep st6 fun z a b => dj5 z a (.inr b), fun z a b => dj6' z (sub8 z a) (.inr b), h6⟩
          exact (stA.trans (st6.frame (Cup (fun y => y = D) RA))).weak fun z u => u.elim (fun u => .inl (sub8 z u)) .inr
        · cases h6
    · have e : i = its.length := by omega
      subst e
      rw [List.drop_length] at hd3
      cases hd3
      refine .inl ⟨g2 (Nat.le_refl _), ?_⟩
      obtain ⟨S9, ok9, sub9⟩ := back_rep nd ok3 (so1.stay (stg.ff))
      refine q (.ref D) F2 H2 S9 (Cup (fun y => y = D) RA) ((st1.trans stg).weak fun z u => u.elim (fun u => .inl (sub9 z u)) .inr) ok9 (.own hD3 fD3 rfl rs3 rD3 fun _ => Iff.rfl) fun z a b => b.elim (fun e => sD3 (by rw [← e]; exact sub9 z a)) fun b => dj3 z (sub9 z a) b
  · cases h2
end
/-- no if -/
def dYes : DE := vr (gC (.bl true))
theorem yes_imp {K : PySem.W.Frag} {mg : Mg} (σ : L2.St) (H : Hp) (Q : Bool → Hp → Prop) (h : tTest (tR K mg dYes) σ H Q) : tYes σ H Q := by
  obtain ⟨F, env, S, t, e, ok, hd, q⟩ := h
  cases hd
  obtain ⟨k, e1, e2⟩ := q (.bl true) F H S Emp .refl ok (.lf rfl fun _ z => z)
  cases e1
  exact e2
section
variable {X : Cx} {elt tg iter c : Expr} {scope : Scope} {own : List (Str × Nat)} {pos : Pos} {W vs : List Nat} {di : DI} {dg : DG} {dc de : DE}
theorem se_lc (hc : X.calm = true) (hN : X.N.Nodup) (hi : SI X tg iter di) (ok : BlkOk X.N X.env.scope scope own) (hvs : own.map (·.2) = vs) (nd : vs.Nodup) (hW : ∀ i ∈ W, i ∈ vs)
    (hg : ∀ (s : Shared) (H : Hp) (C : Addr) (cl : List (Str × Addr)) (fp : List Addr), SG (X.blk s H scope (compEnvC scope cl C X.env) fp) tg W dg)
    (he : ∀ (s : Shared) (H : Hp) (C : Addr) (cl : List (Str × Addr)) (fp : List Addr), SE (X.blk s H scope (compEnvC scope cl C X.env) fp) elt de) (hs : ∀ x, foldedSetIterable iter X.env x = pure x := by intro _; rfl) :
    SE X (.ListComp elt [⟨tg, iter, [], 0⟩] scope pos) (dLc di dg dYes de vs) := by
  subst hvs
  exact pew (pe_lc (g := tG X.K X.mg W dg) (tt := tYes) (te := tE X.K X.mg de) hc hN hi ok hg (fun _ _ _ _ _ => pts_nil) he hs) fun _ _ _ h => lc_imp nd hW yes_imp h
theorem se_lcIf (hc : X.calm = true) (hN : X.N.Nodup) (hi : SI X tg iter di) (ok : BlkOk X.N X.env.scope scope own) (hvs : own.map (·.2) = vs) (nd : vs.Nodup) (hW : ∀ i ∈ W, i ∈ vs)
    (hg : ∀ (s : Shared) (H : Hp) (C : Addr) (cl : List (Str × Addr)) (fp : List Addr), SG (X.blk s H scope (compEnvC scope cl C X.env) fp) tg W dg)
    (ht : ∀ (s : Shared) (H : Hp) (C : Addr) (cl : List (Str × Addr)) (fp : List Addr), ST (X.blk s H scope (compEnvC scope cl C X.env) fp) c dc)
    (he : ∀ (s : Shared) (H : Hp) (C : Addr) (cl : List (Str × Addr)) (fp : List Addr), SE (X.blk s H scope (compEnvC scope cl C X.env) fp) elt de) (hs : ∀ x, foldedSetIterable iter X.env x = pure x := by intro _; rfl) :
    SE X (.ListComp elt [⟨tg, iter, [c], 0⟩] scope pos) (dLc di dg dc de vs) := by
  subst hvs
  exact pew (pe_lc (g := tG X.K X.mg W dg) (tt := tTest (tR X.K X.mg dc)) (te := tE X.K X.mg de) hc hN hi ok hg (fun s H C cl fp => pts_one (ht s H C cl fp)) he hs) fun _ _ _ h => lc_imp nd hW (fun _ _ _ z => z) h
theorem ss_setLc {i : Nat} {y : Str} {py : Pos} {spos : Pos} (hc : X.calm = true) (hN : X.N.Nodup) (hy : X.N[i]? = some y) (hyl : X.env.scope.names.lookup y = some .local)
    (hsw : swapsWith (.ListComp elt [⟨tg, iter, [], 0⟩] scope pos) (some (.Name y py)) spos.line X.env = pure true) (hi : SI X tg iter di) (ok : BlkOk X.N X.env.scope scope own) (hvs : own.map (·.2) = vs) (nd : vs.Nodup) (hW : ∀ i ∈ W, i ∈ vs)
    (hg : ∀ (s : Shared) (H : Hp) (C : Addr) (cl : List (Str × Addr)) (fp : List Addr), SG (X.blk s H scope (compEnvC scope cl C X.env) fp) tg W dg)
    (he : ∀ (s : Shared) (H : Hp) (C : Addr) (cl : List (Str × Addr)) (fp : List Addr), SE (X.blk s H scope (compEnvC scope cl C X.env) fp) elt de) (hs : ∀ x, foldedSetIterable iter X.env x = pure x := by intro _; rfl) :
    SS X (.Assign [.Name y py] (.ListComp elt [⟨tg, iter, [], 0⟩] scope pos) spos) [i] (dSet i (dLc di dg dYes de vs)) :=
  by
  subst hvs
  exact psw (ps_setLc (g := tG X.K X.mg W dg) (tt := tYes) (te := tE X.K X.mg de) hc hN hy hyl hsw hi ok hg (fun _ _ _ _ _ => pts_nil) he hs) fun D σ H h => lc_imp nd hW yes_imp (set_imp h)
theorem ss_setLcIf {i : Nat} {y : Str} {py : Pos} {spos : Pos} (hc : X.calm = true) (hN : X.N.Nodup) (hy : X.N[i]? = some y) (hyl : X.env.scope.names.lookup y = some .local)
    (hsw : swapsWith (.ListComp elt [⟨tg, iter, [c], 0⟩] scope pos) (some (.Name y py)) spos.line X.env = pure true) (hi : SI X tg iter di) (ok : BlkOk X.N X.env.scope scope own) (hvs : own.map (·.2) = vs) (nd : vs.Nodup) (hW : ∀ i ∈ W, i ∈ vs)
    (hg : ∀ (s : Shared) (H : Hp) (C : Addr) (cl : List (Str × Addr)) (fp : List Addr), SG (X.blk s H scope (compEnvC scope cl C X.env) fp) tg W dg)
    (ht : ∀ (s : Shared) (H : Hp) (C : Addr) (cl : List (Str × Addr)) (fp : List Addr), ST (X.blk s H scope (compEnvC scope cl C X.env) fp) c dc)
    (he : ∀ (s : Shared) (H : Hp) (C : Addr) (cl : List (Str × Addr)) (fp : List Addr), SE (X.blk s H scope (compEnvC scope cl C X.env) fp) elt de) (hs : ∀ x, foldedSetIterable iter X.env x = pure x := by intro _; rfl) :
    SS X (.Assign [.Name y py] (.ListComp elt [⟨tg, iter, [c], 0⟩] scope pos) spos) [i] (dSet i (dLc di dg dc de vs)) :=
  by
  subst hvs
  exact psw (ps_setLc (g := tG X.K X.mg W dg) (tt := tTest (tR X.K X.mg dc)) (te := tE X.K X.mg de) hc hN hy hyl hsw hi ok hg (fun s H C cl fp => pts_one (ht s H C cl fp)) he hs) fun D σ H h => lc_imp nd hW (fun _ _ _ z => z) (set_imp h)
end
end Tr


set_option Elab.async false
set_option linter.all false
set_option maxRecDepth 100000
set_option maxHeartbeats 4000000
/-! D10: things changed in place. -/
namespace Tr
open PySem PySem.Spec PyProof.Rows L2

section
variable (K : PySem.W.Frag) (mg : Mg)
/-- a method that changes its receiver: what it hands back, the receiver behind it -/
def OpM (r : V → List V → Hp → VK → Prop) (op : T → List T → Option (T × T)) : Prop := ∀ (F H : Hp) (x : V) (t : T) (A : AS) (vs : List V) (ts : List T) (R : AS) (res t' : T) (Q : VK), Le F H → Rep K mg F H x t A → Reps K mg F H vs ts R → Dj A R → op t ts = some (res, t') →
  (∀ v H' A' Rv, Stp F H (Cup A R) F H' (Cup A' Rv) → Le F H' → Rep K mg F H' x t' A' → Rep K mg F H' v res Rv → Dj A' Rv → Q v H') → r x vs H Q
end
/-- the receiver is a list, a dict -/
def isTy (ty : String) : T → Bool
  | .nd _ .lst _ => ty == "list"
  | .nd _ (.dK _) _ => ty == "dict"
  | _ => false
/-- x.m(..): the name in slot i is changed -/
def dMut (ty : String) (i : Nat) (op : T → List T → Option (T × T)) (da : DA) : DE := fun env => match gV i env with
  | some t0 => if isTy ty t0 = true then (da env).bind fun p => match gV i p.2 with
    | some t => (op t p.1).map fun q => (q.1, p.2.set i q.2)
    | none => none
    else none
  | none => none
section
variable {K : PySem.W.Frag} {mg : Mg} {F H : Hp} {σ : L2.St}
theorem isTy_ok {ty : String} {v : V} {t : T} {R : AS} (le : Le F H) (r : Rep K mg F H v t R) (h : isTy ty t = true) : tyV K ty v H := by
  unfold isTy at h
  split at h
  · obtain ⟨a, vs, S0, rfl, _, _, hr⟩ := r.nd_inv le
    exact .inl ⟨by simpa using h, vs, SqL.of hr⟩
  · obtain ⟨a, vs, S0, rfl, _, _, hl, hr⟩ := r.nd_inv le
    exact .inr (.inr (.inl ⟨by simpa using h, .inl ⟨_, hr⟩⟩))
  · cases h
theorem dMut_some {ty : String} {i : Nat} {op : T → List T → Option (T × T)} {da : DA} {env : List T} {res : T} {e : List T} (h : dMut ty i op da env = some (res, e)) :
    ∃ t0 ts e1 t t', gV i env = some t0 ∧ isTy ty t0 = true ∧ da env = some (ts, e1) ∧ gV i e1 = some t ∧ op t ts = some (res, t') ∧ e = e1.set i t' := by
  unfold dMut at h
  split at h
  · rename_i t0 h0
    split at h
    · rename_i hi
      obtain ⟨⟨ts, e1⟩, h1, h2⟩ := Option.bind_eq_some_iff.mp h
      split at h2
      · rename_i t h3
        obtain ⟨⟨r', t'⟩, h4, h5⟩ := Option.map_eq_some_iff.mp h2
        cases h5
        exact ⟨t0, ts, e1, t, t', h0, hi, h1, h3, h4, rfl⟩
      · cases h2
    · cases h
  · cases h
/-- the end of a change in slot i -/
theorem mut_end {r : V → List V → Hp → VK → Prop} {op : T → List T → Option (T × T)} {F0 H0 : Hp} {S0 S R : AS} {i : Nat} {e1 : List T} {ts : List T} {vs : List V} {t t' res : T} {x : V} {Q : VK} (ho : OpM K mg r op) (st : Stp F0 H0 S0 F H (Cup S R)) (ok : Ok K mg F H σ e1 S) (rs : Reps K mg F H vs ts R) (dj : Dj S R) (hx : σ[i]? = some (some x)) (ht : gV i e1 = some t) (hop : op t ts = some (res, t'))
    (q : ∀ v F' H' S' R', Stp F0 H0 S0 F' H' (Cup S' R') → Ok K mg F' H' σ (e1.set i t') S' → Rep K mg F' H' v res R' → Dj S' R' → Q v H') : r x vs H Q := by
  obtain ⟨g1, g2⟩ := gV_some ht
  obtain ⟨v, A, B, ev, rx, d, hS, rest⟩ := ok.st.slot g1 g2
  rw [hx] at ev
  cases ev
  have djAR : Dj A R := fun y a b => dj y ((hS y).mpr (.inl a)) b
  refine ho F H x t A vs ts R res t' Q ok.le rx rs djAR hop fun w H' A' Rv stm le rx' rw' dj' => ?_
  have djB : Dj (Cup A R) B := fun y a b => a.elim (fun a => d y a b) fun a => dj y ((hS y).mpr (.inr b)) a
  have kB := stm.keeps (R := B) (fun y z => ok.st.dom y ((hS y).mpr (.inr z))) djB
  have djB' : Dj (Cup A' Rv) B := stm.dj (fun y z => (ok.st.dom y ((hS y).mpr (.inr z))).1) djB
  have hn := rest F H' (some x) t' A' (Le.refl _) kB rx' fun y a b => djB' y (.inl a) b
  rw [set_self' hx] at hn
  refine q w F H' (Cup A' B) Rv ?_ ⟨le, hn⟩ rw' fun y a b => a.elim (fun a => dj' y a b) fun a => djB' y (.inr b) a
  have b1 := stm.frame B
  have b2 : Stp F H (Cup S R) F H' (Cup (Cup A' Rv) B) := b1.big fun y z => z.elim (fun z => z.elim (fun z => .inl ((hS y).mpr (.inl z))) .inr) fun z => .inl ((hS y).mpr (.inr z))
  exact (st.trans b2).weak fun y z => z.elim (fun z => z.elim (fun z => .inl (.inl z)) .inr) fun z => .inl (.inr z)
theorem mut_imp {ty : String} {i : Nat} {r : V → List V → Hp → VK → Prop} {op : T → List T → Option (T × T)} {da : DA} {bs : List (Option Nat)} {Q : VK} (ho : OpM K mg r op) (h : tE K mg (dMut ty i op da) σ H Q) : tBM K ty r (tVar i) (tA K mg bs da) σ H Q := by
  obtain ⟨F, env, S, res, e, ok, hd, q⟩ := h
  obtain ⟨t0, ts, e1, t, t', h0, hi, h1, h2, h3, rfl⟩ := dMut_some hd
  obtain ⟨g1, g2⟩ := gV_some h0
  obtain ⟨x, A, B, ev, rx, _⟩ := ok.st.slot g1 g2
  exact ⟨x, ev, isTy_ok ok.le rx hi, F, env, S, ts, e1, ok, h1, fun vs F1 H1 S1 R st ok1 rs dj bo => mut_end ho st ok1 rs dj ev h2 h3 q⟩
theorem mut0_imp {ty : String} {i : Nat} {r : V → List V → Hp → VK → Prop} {op : T → List T → Option (T × T)} {Q : VK} (ho : OpM K mg r op) (h : tE K mg (dMut ty i op aNil) σ H Q) : tBM0 K ty r (tVar i) σ H Q := by
  obtain ⟨x, ev, ty, k⟩ := mut_imp (bs := []) ho h
  obtain ⟨F, env, S, ts, e, ok, hd, q⟩ := k
  cases hd
  exact ⟨x, ev, ty, q [] F H S Emp (Stp.refl.weak fun _ z => z.elim id fun z => z.elim) ok (.nil fun _ z => z) dj_emp fun j i h => by simp at h⟩
end
section
variable {X : Cx} {x : Str} {i : Nat} {e : Expr} {es : List Expr} {name : Str} {ty id : String} {px apos cpos : Pos} {r : V → List V → Hp → VK → Prop} {op : T → List T → Option (T × T)} {da : DA} {bs : List (Option Nat)}
theorem se_mut (pa : PlainAttrs ty) (slot : Slot ty name id) (hty : typeOf (.builtin id) = pure (.type "method_descriptor")) (hm : MtR X id r) (ho : OpM X.K X.mg r op) (ha : SA X (e :: es) bs da)
    (hN : X.N[i]? = some x := by rfl) (hv : Vis X.env.scope x := by first | exact Or.inl rfl | exact Or.inr (Or.inl rfl) | exact Or.inr (Or.inr rfl)) (hd : (x == ("__debug__" : Str)) = false := by decide) (hcd : (x == ("__classdict__" : Str)) = false := by decide)
    (hbase : attributeBase (.Name x px) name X.env (eval (.Name x px) X.env) = eval (.Name x px) X.env := by rfl)
    (hfew : ((backTo cpos (starEach (e :: es) X.env)).all (fun x => !x.1) && (backToKw cpos (keywordEach [] X.env)).all (fun x => x.1.isSome)
      && decide ((e :: es).length + ([] : List Keyword).length + (if ([] : List Keyword).isEmpty then 0 else 1) < 30)) = true := by rfl)
    (hline : (apos.endLine == cpos.line) = true := by rfl) (hs : starEach (e :: es) X.env = (false, eval e X.env) :: starEach es X.env := by rfl) (hplain : (backTo cpos (starEach es X.env)).any (·.1) = false := by rfl) :
    SE X (.Call (.Attribute (.Name x px) name apos) (e :: es) [] cpos) (dMut ty i op da) := pew (pe_bm pa slot hty hm (pe_var hN hv hd hcd) ha hbase hfew hline hs hplain) fun _ _ _ h => mut_imp ho h
theorem se_mut0 (pa : PlainAttrs ty) (slot : Slot ty name id) (hty : typeOf (.builtin id) = pure (.type "method_descriptor")) (hm : MtR X id r) (ho : OpM X.K X.mg r op)
    (hN : X.N[i]? = some x := by rfl) (hv : Vis X.env.scope x := by first | exact Or.inl rfl | exact Or.inr (Or.inl rfl) | exact Or.inr (Or.inr rfl)) (hd : (x == ("__debug__" : Str)) = false := by decide) (hcd : (x == ("__classdict__" : Str)) = false := by decide)
    (hbase : attributeBase (.Name x px) name X.env (eval (.Name x px) X.env) = eval (.Name x px) X.env := by rfl) (hline : (apos.endLine == cpos.line) = true := by rfl) :
    SE X (.Call (.Attribute (.Name x px) name apos) [] [] cpos) (dMut ty i op aNil) := pew (pe_bm0 pa slot hty hm (pe_var hN hv hd hcd) hbase hline) fun _ _ _ h => mut0_imp ho h
end

/-! ### the methods of a list -/
def mAppend : T → List T → Option (T × T)
  | .nd true .lst xs, [t] => if xs.length < sizeLine then some (.lf .non, .nd true .lst (xs ++ [t])) else none
  | _, _ => none
def mExtend : T → List T → Option (T × T)
  | .nd true .lst xs, [.nd _ .lst ys] => if xs.length + ys.length ≤ sizeLine then some (.lf .non, .nd true .lst (xs ++ ys)) else none
  | _, _ => none
def mPop : T → List T → Option (T × T)
  | .nd true .lst xs, [] => (xs[xs.length - 1]?).map fun t => (t, .nd true .lst xs.dropLast)
  | _, _ => none
def mReverse : T → List T → Option (T × T)
  | .nd true .lst xs, [] => some (.lf .non, .nd true .lst xs.reverse)
  | _, _ => none
def mClear : T → List T → Option (T × T)
  | .nd true .lst _, [] => some (.lf .non, .nd true .lst [])
  | _, _ => none
section
variable {K : PySem.W.Frag} {mg : Mg} {F H : Hp}
theorem Rep.own_inv {v : V} {k : Kd} {xs : List T} {R : AS} (r : Rep K mg F H v (.nd true k xs) R) : ∃ a o vs S0, v = .ref a ∧ H a = some o ∧ F a = none ∧ Cont mg k o vs ∧ Reps K mg F H vs xs S0 ∧ ¬ S0 a ∧ ∀ x, R x ↔ x = a ∨ S0 x := by
  cases r with
  | own h1 h2 c r na hS => exact ⟨_, _, _, _, rfl, h1, h2, c, r, na, hS⟩
theorem Reps.dropLast : ∀ {vs : List V} {ts : List T} {S : AS}, Reps K mg F H vs ts S → ∀ {t : T}, ts[ts.length - 1]? = some t → ∃ v A B, vs[vs.length - 1]? = some v ∧ Rep K mg F H v t A ∧ Reps K mg F H vs.dropLast ts.dropLast B ∧ Dj A B ∧ ∀ x, S x ↔ A x ∨ B x
  | _, _, _, .nil _, _, h => by simp at h
  | _, _, S, .cons (v := v) (t := t0) (vs := vs) (ts := ts) (S1 := S1) (S2 := S2) r q d hS, t, h => by
    cases q with
    | nil hn =>
      simp at h
      subst h
      exact ⟨v, S1, Emp, rfl, r, .nil fun _ z => z, dj_emp, fun x => by
        rw [hS x]
        exact ⟨fun z => z.elim .inl fun z => (hn x z).elim, fun z => z.elim .inl fun z => z.elim⟩⟩
    | @cons v2 t2 vs2 ts2 _ S3 S4 r2 q2 d2 hS2 =>
      have hh : (t2 :: ts2)[(t2 :: ts2).length - 1]? = some t := by simpa using h
      obtain ⟨w, A, B, e1, e2, e3, e4, e5⟩ := Reps.dropLast (Reps.cons r2 q2 d2 hS2) hh
      refine ⟨w, A, Cup S1 B, by simpa using e1, e2, ?_, fun x a b => b.elim (fun b => d x b ((e5 x).mpr (.inl a))) (e4 x a), fun x => ?_⟩
      · show Reps K mg F H (v :: (v2 :: vs2).dropLast) (t0 :: (t2 :: ts2).dropLast) (Cup S1 B)
        exact .cons r e3 (fun x a b => d x a ((e5 x).mpr (.inr b))) fun _ => Iff.rfl
      · rw [hS x, e5 x]
        unfold Cup
        exact ⟨fun z => z.elim (fun z => .inr (.inl z)) fun z => z.elim .inl fun z => .inr (.inr z), fun z => z.elim (fun z => .inr (.inl z)) fun z => z.elim .inl fun z => .inr (.inr z)⟩
theorem Reps.reverse : ∀ {vs : List V} {ts : List T} {S : AS}, Reps K mg F H vs ts S → Reps K mg F H vs.reverse ts.reverse S
  | _, _, _, .nil h => .nil h
  | _, _, S, .cons (S1 := S1) (S2 := S2) r q d hS => by
    rw [List.reverse_cons, List.reverse_cons]
    have one := Reps.cons (S := S1) (S1 := S1) (S2 := Emp) r (.nil fun _ z => z) dj_emp fun x => ⟨.inl, fun z => z.elim id fun z => z.elim⟩
    exact (Reps.append one (Reps.reverse q) d.symm).iff fun x => by rw [hS x]; exact ⟨fun z => z.elim .inr .inl, fun z => z.elim .inr .inl⟩
/-- a list of one's own, written anew -/
theorem own_write {a : Addr} {o : HO} {vs : List V} {xs : List T} {S0 : AS} (le : Le F H) (h2 : F a = none) (r : Reps K mg F H vs xs S0) (na : ¬ S0 a) (o' : HO) (k : Kd) (c : Cont mg k o' vs) {R : AS} (hR : ∀ x, x = a ∨ S0 x → R x) :
    Stp F H R F (upd H a o') (Cup (fun x => x = a ∨ S0 x) Emp) ∧ Le F (upd H a o') ∧ Rep K mg F (upd H a o') (.ref a) (.nd true k xs) (fun x => x = a ∨ S0 x) := by
  refine ⟨⟨Le.refl _, fun x o e n => by rw [upd_ne fun z => n (hR x (.inl z))]; exact e, fun _ _ e => .inl e, fun x z => .inl (hR x (z.elim id fun z => z.elim))⟩, fun x o e => by
    rw [upd_ne fun z => by rw [z, h2] at e; cases e]; exact le x o e, .own upd_same h2 c (r.frame (Le.refl _) fun x z => ⟨upd_ne fun e => na (e ▸ z), (r.dom x z).2⟩) na fun _ => Iff.rfl⟩
theorem m_append : OpM K mg rAppend mAppend := by
  intro F H x t A vs ts R res t' Q le rx rs dj h q
  unfold mAppend at h
  split at h
  · rename_i xs y
    split at h
    · rename_i hl
      cases h
      obtain ⟨a, o, ws, S0, rfl, h1, h2, rfl, r, na, hA⟩ := rx.own_inv
      cases rs with
      | @cons v _ vs _ _ R1 R2 ry rn dy hR =>
        cases rn with
        | nil hn =>
          have nRa : ¬ R1 a := fun z => dj a ((hA a).mpr (.inl rfl)) ((hR a).mpr (.inl z))
          refine ⟨a, ws, v, rfl, rfl, h1, by rw [r.length (S := Emp)]; exact hl, ?_⟩
          have rn := snoc_rep h1 h2 r na ry (fun x z y => dj x ((hA x).mpr (.inr z)) ((hR x).mpr (.inl y))) nRa
          refine q .non _ (fun x => x = a ∨ Cup S0 R1 x) Emp ?_ ?_ (.own upd_same h2 rfl rn (fun z => z.elim na nRa) fun _ => Iff.rfl) (.lf rfl fun _ z => z) dj_emp
          · refine ⟨Le.refl _, fun x o e n => by rw [upd_ne fun z => n (.inl ((hA x).mpr (.inl z)))]; exact e, fun _ _ e => .inl e, fun x z => .inl ?_⟩
            rcases z with (z | z | z) | z
            · exact .inl ((hA x).mpr (.inl z))
            · exact .inl ((hA x).mpr (.inr z))
            · exact .inr ((hR x).mpr (.inl z))
            · exact z.elim
          · exact fun x o e => by rw [upd_ne fun z => by rw [z, h2] at e; cases e]; exact le x o e
    · cases h
  · cases h
theorem m_extend : OpM K mg rExtend mExtend := by
  intro F H x t A vs ts R res t' Q le rx rs dj h q
  unfold mExtend at h
  split at h
  · rename_i xs ob ys
    split at h
    · rename_i hl
      cases h
      obtain ⟨a, o, ws, S0, rfl, h1, h2, rfl, r, na, hA⟩ := rx.own_inv
      cases rs with
      | @cons v _ vs _ _ R1 R2 ry rn dy hR =>
        cases rn with
        | nil hn =>
          obtain ⟨b, zs, S1, rfl, p, hs, hb⟩ := ry.nd_inv le
          have nRa : ¬ S1 a := fun z => dj a ((hA a).mpr (.inl rfl)) ((hR a).mpr (.inl (hs a z)))
          refine ⟨a, b, ws, zs, rfl, rfl, h1, hb, by rw [r.length (S := Emp), p.length (S := Emp)]; exact hl, ?_⟩
          have rn := Reps.append p r fun x z y => dj x ((hA x).mpr (.inr z)) ((hR x).mpr (.inl (hs x y)))
          have rn' : Reps K mg F (upd H a (.lst (ws ++ zs))) (ws ++ zs) (xs ++ ys) (Cup S0 S1) := rn.frame (Le.refl _) fun x z => ⟨upd_ne fun e => z.elim (fun z => na (e ▸ z)) fun z => nRa (e ▸ z), (rn.dom x z).2⟩
          refine q .non _ (fun x => x = a ∨ Cup S0 S1 x) Emp ?_ ?_ (.own upd_same h2 rfl rn' (fun z => z.elim na nRa) fun _ => Iff.rfl) (.lf rfl fun _ z => z) dj_emp
          · refine ⟨Le.refl _, fun x o e n => by rw [upd_ne fun z => n (.inl ((hA x).mpr (.inl z)))]; exact e, fun _ _ e => .inl e, fun x z => .inl ?_⟩
            rcases z with (z | z | z) | z
            · exact .inl ((hA x).mpr (.inl z))
            · exact .inl ((hA x).mpr (.inr z))
            · exact .inr ((hR x).mpr (.inl (hs x z)))
            · exact z.elim
          · exact fun x o e => by rw [upd_ne fun z => by rw [z, h2] at e; cases e]; exact le x o e
    · cases h
  · cases h
theorem Reps.nil_inv {vs : List V} {S : AS} (r : Reps K mg F H vs [] S) : vs = [] := by cases r with | nil _ => rfl
theorem m_pop : OpM K mg rPop mPop := by
  intro F H x t A vs ts R res t' Q le rx rs dj h q
  unfold mPop at h
  split at h
  · rename_i xs
    obtain ⟨t1, e1, e2⟩ := Option.map_eq_some_iff.mp h
    cases e2
    obtain ⟨a, o, ws, S0, rfl, h1, h2, rfl, r, na, hA⟩ := rx.own_inv
    obtain rfl := rs.nil_inv
    obtain ⟨w, A1, B1, g1, g2, g3, g4, g5⟩ := r.dropLast e1
    refine ⟨a, ws, w, rfl, rfl, h1, g1, ?_⟩
    have nB : ¬ B1 a := fun z => na ((g5 a).mpr (.inr z))
    have nA : ¬ A1 a := fun z => na ((g5 a).mpr (.inl z))
    obtain ⟨k1, k2, k3⟩ := own_write (K := K) (mg := mg) (o := .lst ws) le h2 g3 nB (.lst ws.dropLast) .lst rfl (R := Cup A R) fun x z => .inl ((hA x).mpr (z.imp id fun z => (g5 x).mpr (.inr z)))
    refine q w _ (fun x => x = a ∨ B1 x) A1 ?_ k2 k3 (g2.frame (Le.refl _) fun x z => ⟨upd_ne fun e => nA (e ▸ z), (g2.dom x z).2⟩) fun x z y => z.elim (fun e => nA (e ▸ y)) fun z => g4 x y z
    exact ⟨k1.ff, k1.kp, k1.nf, fun x z => .inl (.inl ((hA x).mpr (z.elim (fun z => z.imp id fun z => (g5 x).mpr (.inr z)) fun z => .inr ((g5 x).mpr (.inl z)))))⟩
  · cases h
theorem m_reverse : OpM K mg rReverse mReverse := by
  intro F H x t A vs ts R res t' Q le rx rs dj h q
  unfold mReverse at h
  split at h
  · cases h
    obtain ⟨a, o, ws, S0, rfl, h1, h2, rfl, r, na, hA⟩ := rx.own_inv
    obtain rfl := rs.nil_inv
    obtain ⟨k1, k2, k3⟩ := own_write (K := K) (mg := mg) (o := .lst ws) le h2 r.reverse na (.lst ws.reverse) .lst rfl (R := Cup A R) fun x z => .inl ((hA x).mpr z)
    exact ⟨a, ws, rfl, rfl, h1, q .non _ _ Emp k1 k2 k3 (.lf rfl fun _ z => z) dj_emp⟩
  · cases h
theorem m_clear : OpM K mg rClear mClear := by
  intro F H x t A vs ts R res t' Q le rx rs dj h q
  unfold mClear at h
  split at h
  · cases h
    obtain ⟨a, o, ws, S0, rfl, h1, h2, rfl, r, na, hA⟩ := rx.own_inv
    obtain rfl := rs.nil_inv
    obtain ⟨k1, k2, k3⟩ := own_write (K := K) (mg := mg) (vs := []) (xs := []) (S0 := Emp) (o := .lst ws) le h2 (.nil fun _ z => z) (fun z => z) (.lst []) .lst rfl (R := Cup A R) fun x z => .inl ((hA x).mpr (.inl (z.elim id fun z => z.elim)))
    exact ⟨a, ws, rfl, rfl, h1, q .non _ _ Emp k1 k2 k3 (.lf rfl fun _ z => z) dj_emp⟩
  · cases h
end

/-! ### x[k] = e -/
def putKT : List Key → List T → Key → T → List Key × List T
  | a :: ks, x :: xs, k, t => if a = k then (a :: ks, t :: xs) else let p := putKT ks xs k t; (a :: p.1, x :: p.2)
  | _, _, k, t => ([k], [t])
def nodupK : List Key → Bool
  | [] => true
  | a :: ks => !hasK ks a && nodupK ks
def putFT : List Str → List T → Str → T → List Str × List T
  | a :: ns, x :: xs, f, t => if a = f then (a :: ns, t :: xs) else let p := putFT ns xs f t; (a :: p.1, x :: p.2)
  | _, _, f, t => ([f], [t])
/-- a list's item, a dict's, an instance's attribute is stored -/
def mSetL (k : V) : T → List T → Option (T × T)
  | .nd true .lst xs, [t] => match k with
    | .int i => (ixN xs.length i).map fun j => (.lf .non, .nd true .lst (xs.set j t))
    | _ => none
  | _, _ => none
def mSetD (k : V) : T → List T → Option (T × T)
  | .nd true (.dK ks) xs, [t] => (keyOf k).bind fun k => if ks.length < sizeLine ∧ nodupK ks = true then some (.lf .non, .nd true (.dK (putKT ks xs k t).1) (putKT ks xs k t).2) else none
  | _, _ => none
def mFld (c f : Str) : T → List T → Option (T × T)
  | .nd true (.ins c' ns) xs, [t] => if c' = c ∧ ns.length < 1000 then some (.lf .non, .nd true (.ins c' (putFT ns xs f t).1) (putFT ns xs f t).2) else none
  | _, _ => none
/-- the value, then the key, then the store in slot i -/
def dPut (i : Nat) (mk : V → T → List T → Option (T × T)) (dv : DE) (dk : DV) : DS := fun env => (dv env).bind fun p => match gV i p.2, dk p.2 with
  | some t, some (.lf k) => (mk k t [p.1]).map fun q => (.nx, p.2.set i q.2)
  | _, _ => none
section
variable {K : PySem.W.Frag} {mg : Mg} {F H : Hp} {σ : L2.St}
theorem Reps.setAt {w : V} {t : T} {R : AS} (rt : Rep K mg F H w t R) : ∀ {j : Nat} {vs : List V} {ts : List T} {S : AS}, Reps K mg F H vs ts S → Dj S R → j < ts.length → ∃ S', Reps K mg F H (vs.set j w) (ts.set j t) S' ∧ ∀ x, S' x → S x ∨ R x
  | _, _, _, _, .nil _, _, h => by simp at h
  | 0, _, _, S, .cons (S1 := S1) (S2 := S2) r q d hS, dj, h => ⟨Cup R S2, .cons rt q (fun x a b => dj x ((hS x).mpr (.inr b)) a) fun _ => Iff.rfl, fun x z => z.elim .inr fun z => .inl ((hS x).mpr (.inr z))⟩
  | j + 1, _, _, S, .cons (S1 := S1) (S2 := S2) r q d hS, dj, h => by
    obtain ⟨S', g1, g2⟩ := Reps.setAt rt q (fun x a b => dj x ((hS x).mpr (.inr a)) b) (by simpa using h)
    exact ⟨Cup S1 S', .cons r g1 (fun x a b => (g2 x b).elim (d x a) (dj x ((hS x).mpr (.inl a)))) fun _ => Iff.rfl, fun x z => z.elim (fun z => .inl ((hS x).mpr (.inl z))) fun z => (g2 x z).imp (fun z => (hS x).mpr (.inr z)) id⟩
theorem putK_cons {a k : Key} {v w : V} {kvs : List (Key × V)} (h : ¬ a = k) : putK ((a, v) :: kvs) k w = (a, v) :: putK kvs k w := by
  unfold putK
  simp only [List.any_cons, decide_eq_false h, Bool.false_or]
  split
  · simp [h]
  · rfl
theorem map_no {k : Key} {w : V} : ∀ {ks : List Key} {vs : List V}, k ∉ ks → ((ks.zip vs).map fun kv => if kv.1 = k then (kv.1, w) else kv) = ks.zip vs
  | [], _, _ => rfl
  | _ :: _, [], _ => rfl
  | a :: ks, v :: vs, h => by
    have h1 : ¬ a = k := fun e => h (by simp [e])
    have h2 : k ∉ ks := fun e => h (List.mem_cons_of_mem _ e)
    rw [List.zip_cons_cons, List.map_cons, map_no h2]
    simp [h1]
/-- the keys, each once -/
theorem putKT_rep {k : Key} {w : V} {t : T} {R : AS} (rt : Rep K mg F H w t R) : ∀ {ks : List Key} {vs : List V} {ts : List T} {S : AS}, Reps K mg F H vs ts S → Dj S R → ks.length = vs.length → ks.Nodup →
    ∃ vs' S', putK (ks.zip vs) k w = (putKT ks ts k t).1.zip vs' ∧ (putKT ks ts k t).1.length = vs'.length ∧ Reps K mg F H vs' (putKT ks ts k t).2 S' ∧ ∀ x, S' x → S x ∨ R x
  | [], _, _, S, .nil h, dj, _, _ => ⟨[w], R, rfl, rfl, .cons (S1 := R) (S2 := Emp) rt (.nil fun _ z => z) dj_emp fun x => ⟨.inl, fun z => z.elim id fun z => z.elim⟩, fun x z => .inr z⟩
  | _ :: _, _, _, _, .nil _, _, h, _ => by simp at h
  | [], _, _, _, .cons .., _, h, _ => by simp at h
  | a :: ks, _, _, S, .cons (v := v) (t := t0) (vs := vs) (ts := ts) (S1 := S1) (S2 := S2) r q d hS, dj, hl, nd => by
    have nd' := List.nodup_cons.mp nd
    by_cases e : a = k
    · subst e
      have ek : putKT (a :: ks) (t0 :: ts) a t = (a :: ks, t :: ts) := by rw [putKT, if_pos rfl]
      rw [ek]
      refine ⟨w :: vs, Cup R S2, ?_, hl, .cons rt q (fun x a b => dj x ((hS x).mpr (.inr b)) a) fun _ => Iff.rfl, fun x z => z.elim .inr fun z => .inl ((hS x).mpr (.inr z))⟩
      unfold putK
      rw [List.zip_cons_cons, List.any_cons, decide_eq_true rfl, Bool.true_or, if_pos rfl, List.map_cons, if_pos rfl, map_no nd'.1]
      rfl
    · have ek : putKT (a :: ks) (t0 :: ts) k t = (a :: (putKT ks ts k t).1, t0 :: (putKT ks ts k t).2) := by rw [putKT, if_neg e]
      rw [ek]
      obtain ⟨vs', S', g1, g2, g3, g4⟩ := putKT_rep rt q (fun x a b => dj x ((hS x).mpr (.inr a)) b) (by simpa using hl) nd'.2
      refine ⟨v :: vs', Cup S1 S', ?_, by simp [g2], .cons r g3 (fun x a b => (g4 x b).elim (d x a) (dj x ((hS x).mpr (.inl a)))) fun _ => Iff.rfl, fun x z => z.elim (fun z => .inl ((hS x).mpr (.inl z))) fun z => (g4 x z).imp (fun z => (hS x).mpr (.inr z)) id⟩
      rw [List.zip_cons_cons, putK_cons e, g1]
      rfl
theorem nodupK_ok : ∀ {ks : List Key}, nodupK ks = true → ks.Nodup
  | [], _ => .nil
  | a :: ks, h => by
    simp only [nodupK, Bool.and_eq_true, Bool.not_eq_true'] at h
    refine List.nodup_cons.mpr ⟨fun z => ?_, nodupK_ok h.2⟩
    have : hasK ks a = true := List.any_eq_true.mpr ⟨a, z, by simp⟩
    rw [h.1] at this
    cases this
theorem putF_zip {f : Str} {w : V} {t : T} {R : AS} (rt : Rep K mg F H w t R) : ∀ {ns : List Str} {vs : List V} {ts : List T} {S : AS}, Reps K mg F H vs ts S → Dj S R → ns.length = vs.length →
    ∃ vs' S', putF f w (ns.zip vs) = (putFT ns ts f t).1.zip vs' ∧ (putFT ns ts f t).1.length = vs'.length ∧ Reps K mg F H vs' (putFT ns ts f t).2 S' ∧ ∀ x, S' x → S x ∨ R x
  | [], _, _, S, .nil h, dj, _ => ⟨[w], R, rfl, rfl, .cons (S1 := R) (S2 := Emp) rt (.nil fun _ z => z) dj_emp fun x => ⟨.inl, fun z => z.elim id fun z => z.elim⟩, fun x z => .inr z⟩
  | _ :: _, _, _, _, .nil _, _, h => by simp at h
  | [], _, _, _, .cons .., _, h => by simp at h
  | a :: ns, _, _, S, .cons (v := v) (t := t0) (vs := vs) (ts := ts) (S1 := S1) (S2 := S2) r q d hS, dj, hl => by
    by_cases e : a = f
    · have ek : putFT (a :: ns) (t0 :: ts) f t = (a :: ns, t :: ts) := by rw [putFT, if_pos e]
      rw [ek]
      refine ⟨w :: vs, Cup R S2, ?_, hl, .cons rt q (fun x a b => dj x ((hS x).mpr (.inr b)) a) fun _ => Iff.rfl, fun x z => z.elim .inr fun z => .inl ((hS x).mpr (.inr z))⟩
      rw [List.zip_cons_cons, putF, if_pos e]
      rw [List.zip_cons_cons]
    · have ek : putFT (a :: ns) (t0 :: ts) f t = (a :: (putFT ns ts f t).1, t0 :: (putFT ns ts f t).2) := by rw [putFT, if_neg e]
      rw [ek]
      obtain ⟨vs', S', g1, g2, g3, g4⟩ := putF_zip rt q (fun x a b => dj x ((hS x).mpr (.inr a)) b) (by simpa using hl)
      refine ⟨v :: vs', Cup S1 S', ?_, by simp [g2], .cons r g3 (fun x a b => (g4 x b).elim (d x a) (dj x ((hS x).mpr (.inl a)))) fun _ => Iff.rfl, fun x z => z.elim (fun z => .inl ((hS x).mpr (.inl z))) fun z => (g4 x z).imp (fun z => (hS x).mpr (.inr z)) id⟩
      rw [List.zip_cons_cons, putF, if_neg e, g1]
      rw [List.zip_cons_cons]
/-- the end of a write: a node of one's own with new parts -/
theorem write_end {a : Addr} {k : Kd} {o' : HO} {vs' : List V} {xs' : List T} {A R S0 S' : AS} {Q : VK} {t' : T} (le : Le F H) (h2 : F a = none) (hA : ∀ x, A x ↔ x = a ∨ S0 x) (na : ¬ S0 a) (nR : ¬ R a) (r : Reps K mg F H vs' xs' S') (hs : ∀ x, S' x → S0 x ∨ R x) (c : Cont mg k o' vs') (et : t' = .nd true k xs')
    (q : ∀ v H' A' Rv, Stp F H (Cup A R) F H' (Cup A' Rv) → Le F H' → Rep K mg F H' (.ref a) t' A' → Rep K mg F H' v (.lf .non) Rv → Dj A' Rv → Q v H') : Q .non (upd H a o') := by
  subst et
  have na' : ¬ S' a := fun z => (hs a z).elim na nR
  refine q .non _ (fun x => x = a ∨ S' x) Emp ?_ ?_ (.own upd_same h2 c (r.frame (Le.refl _) fun x z => ⟨upd_ne fun e => na' (e ▸ z), (r.dom x z).2⟩) na' fun _ => Iff.rfl) (.lf rfl fun _ z => z) dj_emp
  · refine ⟨Le.refl _, fun x o e n => by rw [upd_ne fun z => n (.inl ((hA x).mpr (.inl z)))]; exact e, fun _ _ e => .inl e, fun x z => .inl ?_⟩
    rcases z with (z | z) | z
    · exact .inl ((hA x).mpr (.inl z))
    · exact (hs x z).elim (fun z => .inl ((hA x).mpr (.inr z))) .inr
    · exact z.elim
  · exact fun x o e => by rw [upd_ne fun z => by rw [z, h2] at e; cases e]; exact le x o e
def rSetLM (k : V) : V → List V → Hp → VK → Prop := fun x vs H Q => ∃ v, vs = [v] ∧ rSetL x k v H fun H' => Q .non H'
def rSetDM (k : V) : V → List V → Hp → VK → Prop := fun x vs H Q => ∃ v a H4, vs = [v] ∧ x = .ref a ∧ DPut H a k v H4 ∧ Q .non H4
def rFldM (K : PySem.W.Frag) (f : Str) : V → List V → Hp → VK → Prop := fun x vs H Q => ∃ v a C dx fs, vs = [v] ∧ x = .ref a ∧ H a = some (.ins C dx fs) ∧ Cls K C ∧ NoAttr K C f ∧ fs.length < 1000 ∧ Q .non (upd H a (.ins C dx (putF f v fs)))
theorem m_setL (k : V) : OpM K mg (rSetLM k) (mSetL k) := by
  intro F H x t A vs ts R res t' Q le rx rs dj h q
  unfold mSetL at h
  split at h
  · rename_i xs y
    split at h
    · obtain ⟨j, e1, e2⟩ := Option.map_eq_some_iff.mp h
      cases e2
      obtain ⟨a, o, ws, S0, rfl, h1, h2, rfl, r, na, hA⟩ := rx.own_inv
      cases rs with
      | @cons v _ vs _ _ R1 R2 ry rn dy hR =>
        cases rn with
        | nil hn =>
          have hj := (ixN_seq e1).2.1
          have nRa : ¬ R1 a := fun z => dj a ((hA a).mpr (.inl rfl)) ((hR a).mpr (.inl z))
          obtain ⟨S', g1, g2⟩ := Reps.setAt ry r (fun x z y => dj x ((hA x).mpr (.inr z)) ((hR x).mpr (.inl y))) hj
          refine ⟨v, rfl, a, ws, _, j, rfl, rfl, h1, by rw [r.length (S := Emp)]; exact e1, ?_⟩
          exact write_end (k := .lst) (vs' := ws.set j v) (xs' := xs.set j y) (S' := S') (R := R) le h2 hA na (fun z => nRa (((hR a).mp z).elim id fun z => (hn a z).elim)) g1 (fun x z => (g2 x z).imp id fun z => (hR x).mpr (.inl z)) rfl rfl q
    · cases h
  · cases h
theorem m_setD (k : V) : OpM K mg (rSetDM k) (mSetD k) := by
  intro F H x t A vs ts R res t' Q le rx rs dj h q
  unfold mSetD at h
  split at h
  · rename_i ks xs y
    obtain ⟨k', e1, h⟩ := Option.bind_eq_some_iff.mp h
    split at h
    · rename_i hc
      cases h
      obtain ⟨a, o, ws, S0, rfl, h1, h2, ⟨hl, rfl⟩, r, na, hA⟩ := rx.own_inv
      cases rs with
      | @cons v _ vs _ _ R1 R2 ry rn dy hR =>
        cases rn with
        | nil hn =>
          have nRa : ¬ R1 a := fun z => dj a ((hA a).mpr (.inl rfl)) ((hR a).mpr (.inl z))
          obtain ⟨vs', S', g1, g2, g3, g4⟩ := putKT_rep (k := k') ry r (fun x z y => dj x ((hA x).mpr (.inr z)) ((hR x).mpr (.inl y))) hl (nodupK_ok hc.2)
          refine ⟨v, a, _, rfl, rfl, .inl ⟨_, k', h1, keyOf_some e1, by rw [List.length_zip, ← hl, Nat.min_self]; exact hc.1, rfl⟩, ?_⟩
          exact write_end (k := .dK (putKT ks xs k' y).1) (vs' := vs') (S' := S') (R := R) le h2 hA na (fun z => nRa (((hR a).mp z).elim id fun z => (hn a z).elim)) g3 (fun x z => (g4 x z).imp id fun z => (hR x).mpr (.inl z)) ⟨g2, by rw [g1]⟩ rfl q
    · cases h
  · cases h
theorem m_fld {c f : Str} {C : Addr} (hc : mg c = some (.ref C)) (cl : Cls K C) (nA : NoAttr K C f) : OpM K mg (rFldM K f) (mFld c f) := by
  intro F H x t A vs ts R res t' Q le rx rs dj h q
  unfold mFld at h
  split at h
  · rename_i c' ns xs y
    split at h
    · rename_i hcc
      cases h
      obtain ⟨e0, hlen⟩ := hcc
      subst e0
      obtain ⟨a, o, ws, S0, rfl, h1, h2, ⟨hl, C', dx, rfl, hm⟩, r, na, hA⟩ := rx.own_inv
      rw [hc] at hm
      cases hm
      cases rs with
      | @cons v _ vs _ _ R1 R2 ry rn dy hR =>
        cases rn with
        | nil hn =>
          have nRa : ¬ R1 a := fun z => dj a ((hA a).mpr (.inl rfl)) ((hR a).mpr (.inl z))
          obtain ⟨vs', S', g1, g2, g3, g4⟩ := putF_zip (f := f) ry r (fun x z y => dj x ((hA x).mpr (.inr z)) ((hR x).mpr (.inl y))) hl
          refine ⟨v, a, C, dx, _, rfl, rfl, h1, cl, nA, by rw [List.length_zip, ← hl, Nat.min_self]; exact hlen, ?_⟩
          exact write_end (k := .ins c' (putFT ns xs f y).1) (vs' := vs') (S' := S') (R := R) le h2 hA na (fun z => nRa (((hR a).mp z).elim id fun z => (hn a z).elim)) g3 (fun x z => (g4 x z).imp id fun z => (hR x).mpr (.inl z)) ⟨g2, C, dx, by rw [g1], hc⟩ rfl q
    · cases h
  · cases h
/-- the store at the end -/
theorem put_imp {D : Ends} {i : Nat} {mk : V → T → List T → Option (T × T)} {r : V → V → List V → Hp → VK → Prop} {dv : DE} {dk : DV} (ho : ∀ k, OpM K mg (r k) (mk k)) (h : tS K mg [] (dPut i mk dv dk) D σ H) :
    tE K mg dv σ H fun v H1 => ∃ x, σ[i]? = some (some x) ∧ tV K mg dk σ H1 fun k H2 => r k x [v] H2 fun _ H3 => D.nx σ H3 := by
  obtain ⟨F, env, S, rr, env', ok, hd, q⟩ := h
  obtain ⟨⟨t, e⟩, h1, h2⟩ := Option.bind_eq_some_iff.mp hd
  split at h2
  · rename_i t0 k h3 h4
    obtain ⟨⟨res, t'⟩, h5, h6⟩ := Option.map_eq_some_iff.mp h2
    cases h6
    refine ⟨F, env, S, t, e, ok, h1, fun v F1 H1 S1 R1 st1 ok1 r1 dj1 => ?_⟩
    obtain ⟨g1, g2⟩ := gV_some h3
    obtain ⟨x, A, B, ev, rx, _⟩ := ok1.st.slot g1 g2
    refine ⟨x, ev, F1, e, S1, .lf k, ok1, h4, fun w R2 rw' => ?_⟩
    obtain ⟨rfl, _, _⟩ := rw'.lf_inv
    have rs : Reps K mg F1 H1 [v] [t] R1 := .cons (S1 := R1) (S2 := Emp) r1 (.nil fun _ z => z) dj_emp fun x => ⟨.inl, fun z => z.elim id fun z => z.elim⟩
    exact mut_end (ho w) st1 ok1 rs dj1 ev h3 h5 fun v' F' H' S' R' st ok' _ _ => q.now (st.weak fun _ z => .inl z) ok' .refl
  · cases h2
end
section
variable {X : Cx} {x : Str} {i : Nat} {k value : Expr} {px pos pos' : Pos} {dv : DE} {dk : DV}
theorem ss_setL (hv : SE X value dv) (hk : SV X k dk) (hN : X.N[i]? = some x := by rfl) (hvis : Vis X.env.scope x := by first | exact Or.inl rfl | exact Or.inr (Or.inl rfl) | exact Or.inr (Or.inr rfl)) (hd : (x == ("__debug__" : Str)) = false := by decide) (hcd : (x == ("__classdict__" : Str)) = false := by decide)
    (ha : ∀ v, assign (.Subscript (.Name x px) k pos) X.env v = (do
      let ov ← holding [v] (eval (.Name x px) X.env)
      let iv ← holding [v, ov] (eval k X.env)
      standAt pos
      holding [v, ov, iv] (setItem ov iv v)
      release [v, ov, iv] []) := by intro _; rfl) (hs : swapsWithSole [.Subscript (.Name x px) k pos] value pos'.line X.env = pure false := by rfl) (hw : swappedStores [.Subscript (.Name x px) k pos] value X.env = pure none := by rfl)
    (h1 : (assignEach [.Subscript (.Name x px) k pos] X.env).map (·.2) = [assign (.Subscript (.Name x px) k pos) X.env] := by rfl) :
    SS X (.Assign [.Subscript (.Name x px) k pos] value pos') [] (dPut i mSetL dv dk) :=
  psw (ps_asg hv (pg_sub (pe_var hN hvis hd hcd) hk set_list ha) hs hw h1) fun D σ H h => by
    obtain ⟨F, env, S, t, e, ok, hd, q⟩ := put_imp (r := rSetLM) (fun k => m_setL k) h
    exact ⟨F, env, S, t, e, ok, hd, fun v F' H' S' R a b c d => by
      obtain ⟨x, e1, F2, en2, S2, t2, ok2, hd2, q2⟩ := q v F' H' S' R a b c d
      exact ⟨x, e1, F2, en2, S2, t2, ok2, hd2, fun w R' r' => by
        obtain ⟨v', e3, q3⟩ := q2 w R' r'
        cases e3
        exact q3⟩⟩
theorem ss_setD (hu : X.A.units + 1 < cLine) (hv : SE X value dv) (hk : SV X k dk) (hN : X.N[i]? = some x := by rfl) (hvis : Vis X.env.scope x := by first | exact Or.inl rfl | exact Or.inr (Or.inl rfl) | exact Or.inr (Or.inr rfl)) (hd : (x == ("__debug__" : Str)) = false := by decide) (hcd : (x == ("__classdict__" : Str)) = false := by decide)
    (hs : swapsWith value (some (.Subscript (.Name x px) k pos)) pos'.line X.env = pure false := by rfl) :
    SS X (.Assign [.Subscript (.Name x px) k pos] value pos') [] (dPut i mSetD dv dk) :=
  psw (ps_dput hu (pe_var hN hvis hd hcd) hk hv hs) fun D σ H h => by
    obtain ⟨F, env, S, t, e, ok, hd, q⟩ := put_imp (r := rSetDM) (fun k => m_setD k) h
    exact ⟨F, env, S, t, e, ok, hd, fun v F' H' S' R a b c d => by
      obtain ⟨x, e1, F2, en2, S2, t2, ok2, hd2, q2⟩ := q v F' H' S' R a b c d
      exact ⟨x, e1, F2, en2, S2, t2, ok2, hd2, fun w R' r' => by
        obtain ⟨v', a', H4, e3, e4, e5, q3⟩ := q2 w R' r'
        cases e3
        exact ⟨a', H4, e4, e5, q3⟩⟩⟩
theorem ss_fld {c f : Str} {C : Addr} (hc : X.mg c = some (.ref C)) (cl : Cls X.K C) (nA : NoAttr X.K C f) (hv : SE X value dv) (hN : X.N[i]? = some x := by rfl) (hvis : Vis X.env.scope x := by first | exact Or.inl rfl | exact Or.inr (Or.inl rfl) | exact Or.inr (Or.inr rfl)) (hd : (x == ("__debug__" : Str)) = false := by decide) (hcd : (x == ("__classdict__" : Str)) = false := by decide)
    (hs : swapsWith value (some (.Attribute (.Name x px) f pos)) pos'.line X.env = pure false := by rfl) :
    SS X (.Assign [.Attribute (.Name x px) f pos] value pos') [] (dPut i (fun _ => mFld c f) dv (gC .non)) :=
  psw (ps_fld (pe_var hN hvis hd hcd) hv hs) fun D σ H h => by
    obtain ⟨F, env, S, t, e, ok, hd, q⟩ := put_imp (r := fun _ => rFldM X.K f) (fun _ => m_fld hc cl nA) h
    exact ⟨F, env, S, t, e, ok, hd, fun v F' H' S' R a b c d => by
      obtain ⟨x, e1, q2⟩ := q v F' H' S' R a b c d
      obtain ⟨F2, en2, S2, t2, ok2, hd2, q2⟩ := q2
      cases hd2
      obtain ⟨v', a', C', dx, fs, e3, e4, e5, e6, e7, e8, q3⟩ := q2 .non Emp (.lf rfl fun _ z => z)
      cases e3
      exact ⟨x, e1, a', C', dx, fs, e4, e5, e6, e7, e8, q3⟩⟩
/-- a, b = e -/
theorem ss_asg {tg : Expr} {W : List Nat} {dg : DG} (hv : SE X value dv) (hg : SG X tg W dg) (hs : swapsWithSole [tg] value pos.line X.env = pure false := by rfl) (hw : swappedStores [tg] value X.env = pure none := by rfl)
    (h1 : (assignEach [tg] X.env).map (·.2) = [assign tg X.env] := by rfl) : SS X (.Assign [tg] value pos) W (fun env => (dv env).bind fun p => (dg p.1 p.2).map fun e => (.nx, e)) :=
  psw (ps_asg hv hg hs hw h1) fun D σ H ⟨F, env, S, r, env', ok, hd, q⟩ => by
    obtain ⟨⟨t, e⟩, h1, h2⟩ := Option.bind_eq_some_iff.mp hd
    obtain ⟨e', h3, h4⟩ := Option.map_eq_some_iff.mp h2
    cases h4
    exact ⟨F, env, S, t, e, ok, h1, fun v F1 H1 S1 R1 st1 ok1 r1 dj1 => ⟨F1, e, S1, R1, t, _, ok1, r1, dj1, h3, fun σ' S' ok' sub of => q.now (st1.weak sub) ok' of⟩⟩
/-- x += e, of whole numbers, of texts -/
def dAug (i : Nat) (o : T → T → Option T) (d : DE) : DS := fun env => match gV i env with
  | some t => if cln t = true then (d env).bind fun p => (o t p.1).bind fun u => if cln u = true then some (.nx, p.2.set i u) else none else none
  | none => none
theorem ss_aug {op : Operator} {r : R2} {o : T → T → Option T} (hN : X.N.Nodup) (hi : X.N[i]? = some x) (hx : Loc X.env.scope x) (he : SE X value dv) (ho : OpR X (inplaceOp op) r) (hv : Op2V X.K X.mg r o) (hf : X.fn x = true ∨ X.env.scope.names.lookup x = some .local := by first | exact .inl rfl | exact .inr rfl | assumption) :
    SS X (.AugAssign (.Name x px) op value pos) [i] (dAug i o dv) :=
  psw (ps_aug (ti := r) hN hi hx he (fun pins s σ H x y v u Q I rx ry h => ho pins s σ H x y v u Q I rx ry h) hf) fun D σ H ⟨F, env, S, rr, env', ok, hd, q⟩ => by
    unfold dAug at hd
    split at hd
    · rename_i t h0
      split at hd
      · rename_i hc
        obtain ⟨⟨y, e⟩, h1, h2⟩ := Option.bind_eq_some_iff.mp hd
        obtain ⟨u, h3, h4⟩ := Option.bind_eq_some_iff.mp h2
        split at h4
        · rename_i hcu
          cases h4
          obtain ⟨g1, g2⟩ := gV_some h0
          obtain ⟨w, A, B, ev, rx, _⟩ := ok.st.slot g1 g2
          refine ⟨w, ev, F, env, S, y, e, ok, h1, fun v F1 H1 S1 R1 st1 ok1 r1 dj1 => ?_⟩
          have hie : i < e.length := by
            have := ok.st.length
            have := ok1.st.length
            have := (List.getElem?_eq_some_iff.mp ev).1
            omega
          refine hv F1 H1 w v t y Emp R1 u _ ok1.le (rx.stay st1.ff hc) r1 h3 fun z R' rz => ?_
          obtain ⟨S2, ok2, sub⟩ := store_ok' ok1 (rz.clean0 hcu) dj_emp hie
          exact q.now (st1.weak fun x z => .inl ((sub x z).elim id fun z => z.elim)) ok2 Off.set
        · cases h4
      · cases hd
    · cases hd
end
end Tr


set_option Elab.async false
set_option linter.all false
set_option maxRecDepth 100000
set_option maxHeartbeats 4000000
/-! D11: a walk over a list that a name lends; the law's end. -/
namespace Tr
open PySem PySem.Spec PyProof.Rows L2

/-- the things, none owned -/
def itemsC : T → Option (List T)
  | .nd _ .lst xs => if clns xs = true then some xs else none
  | .nd _ .rol xs => if clns xs = true then some xs else none
  | _ => none
def dForL (i : Nat) (dg : DG) (d : DS) : DS := fun env => match gV i env with
  | some t0 => match itemsC t0 with
    | some its => match dFr dg d its (env.set i .no) with
      | some (r, e) => match e[i]? with
        | some .no => some (r, e.set i t0)
        | _ => none
      | none => none
    | none => none
  | none => none
section
variable {K : PySem.W.Frag} {mg : Mg} {D : Ends} {σ σ' : L2.St} {H H' F F' : Hp} {S S' R : AS} {W1 W2 : List Nat} {env env' : List T} {r : Fl}
theorem itemsC_some {t : T} {its : List T} (h : itemsC t = some its) : ∃ o k, t = .nd o k its ∧ clns its = true ∧ ∀ (K : PySem.W.Frag) (mg : Mg) (H : Hp) (a : Addr) (vs : List V), Here K mg H a k vs → SqL K H a vs := by
  unfold itemsC at h
  split at h
  · split at h
    · cases h; exact ⟨_, _, rfl, by assumption, fun _ _ _ _ _ z => SqL.of z⟩
    · cases h
  · split at h
    · cases h; exact ⟨_, _, rfl, by assumption, fun _ _ _ _ _ z => z⟩
    · cases h
  · cases h
theorem forL_imp {i : Nat} {dg : DG} {d : DS} (hi : i ∉ W1 ++ W2) (h : tS K mg (W1 ++ W2) (dForL i dg d) D σ H) : tFor (iList K (tVar i)) (tG K mg W1 dg) (tS K mg W2 d) D σ H := by
  obtain ⟨F, env, S, r, env', ok, hd, q⟩ := h
  unfold dForL at hd
  split at hd
  · rename_i t0 h0
    split at hd
    · rename_i its h1
      split at hd
      · rename_i r' e h2
        split at hd
        · rename_i h3
          cases hd
          obtain ⟨g1, g2⟩ := gV_some h0
          obtain ⟨v, A, B, ev, rv, dAB, hS, rest⟩ := ok.st.slot g1 g2
          obtain ⟨o, k, rfl, hc, hk⟩ := itemsC_some h1
          have hB : ∀ x, B x → (∃ o, H x = some o) ∧ F x = none := fun x z => ok.st.dom x ((hS x).mpr (.inr z))
          obtain ⟨a, vs, S0, rfl, p, hs, hr⟩ := rv.stays (S := B) ok.le dAB.symm fun x z => (hB x z).2
          have okB : Ok K mg F H σ (env.set i .no) (Cup Emp B) := ⟨ok.le, by
            have := rest F H (some (.ref a)) .no Emp (Le.refl _) (fun y z => ⟨rfl, (hB y z).2⟩) (.no fun _ z => z) emp_dj
            rwa [set_self' ev] at this⟩
          have okB' : Ok K mg F H σ (env.set i .no) B := ⟨okB.le, okB.st.iff fun x => ⟨.inr, fun z => z.elim (fun z => z.elim) id⟩⟩
          refine ⟨.ref a, ev, a, rfl, ⟨vs, hk _ _ _ _ _ (hr F H B .refl ok.le)⟩, ?_⟩
          have good : Good K mg its (Itl K a) F H B := good_list (p.clean0 hc) fun F2 H2 S2 s l => hk _ _ _ _ _ (hr F2 H2 S2 s l)
          refine for_core good okB' h2 fun F' H' S' R σ' st ok' of dj => ?_
          have e' : σ'[i]? = some (some (.ref a)) := (of.at_ i hi).trans ev
          have rv' := rv.keep st dAB.symm
          have djA : Dj (Cup S' R) A := st.dj (fun x z => (rv.dom x z).1) dAB.symm
          obtain ⟨s, A2, B2, k1, k2, k3, k4, rest2⟩ := ok'.st.split h3
          rw [e'] at k1
          cases k1
          have hn := rest2 F' H' (some (.ref a)) (.nd o k its) A (Le.refl _) (fun y z => ⟨rfl, (ok'.st.dom y ((k4 y).mpr (.inr z))).2⟩) rv' fun y z u => djA y (.inl ((k4 y).mpr (.inr u))) z
          rw [set_self' e'] at hn
          refine q F' H' (Cup A B2) R σ' ?_ ⟨ok'.le, hn⟩ of fun y z u => z.elim (fun z => djA y (.inr u) z) fun z => dj y ((k4 y).mpr (.inr z)) u
          have b1 := st.frameL A
          exact (b1.big fun y z => (hS y).mpr z).weak fun y z => z.elim (fun z => z.elim .inl fun z => .inr (.inl ((k4 y).mpr (.inr z)))) fun z => .inr (.inr z)
        · cases hd
      · cases hd
    · cases hd
  · cases hd
theorem ss_forL {X : Cx} {tg : Expr} {x : Str} {i : Nat} {px : Pos} {body : List Stmt} {dg : DG} {d : DS} {pos : Pos} (hi : i ∉ W1 ++ W2) (hp : PassesOwn (model X.prog X.w) X.A X.env X.xe) (hc : X.calm = true) (hg : SG X tg W1 dg) (hb : SSs X body W2 d)
    (hN : X.N[i]? = some x := by rfl) (hvis : Vis X.env.scope x := by first | exact Or.inl rfl | exact Or.inr (Or.inl rfl) | exact Or.inr (Or.inr rfl)) (hd : (x == ("__debug__" : Str)) = false := by decide) (hcd : (x == ("__classdict__" : Str)) = false := by decide)
    (hs : ∀ y, foldedSetIterable (.Name x px) X.env y = pure y := by intro _; rfl) : SS X (.For tg (.Name x px) body [] pos) (W1 ++ W2) (dForL i dg d) :=
  psw (ps_for hp hc (pi_list (pe_var hN hvis hd hcd)) hg hb hs) fun _ _ _ => forL_imp hi
end

/-! ### the law's own end -/
def scrT (ns : List Int) : T := .nd false .rol (ns.map lfI)
/-- what the law's row asks -/
def spLaw (K : PySem.W.Frag) : Sp := fun vs H Q _ => ∃ (a : Addr) (ns : List Int), vs = [.ref a] ∧ SqL K H a (ns.map V.int) ∧ ns.length ≤ 63 ∧ ∀ H', Q (.bl true) H'
theorem law_imp {K : PySem.W.Frag} {mg : Mg} {f : FT} (hf : ∀ ns : List Int, ns.length ≤ 63 → ∃ ts, f [scrT ns] = some (.lf (.bl true), ts)) : ∀ vs H Q E, spLaw K vs H Q E → spD K mg 1 f vs H Q E := by
  rintro vs H Q E ⟨a, ns, rfl, hS, hl, q⟩
  obtain ⟨ts, h⟩ := hf ns hl
  refine ⟨rfl, H, Emp, [scrT ns], _, ts, Le.refl _, .cons (S1 := Emp) (S2 := Emp) (.rol hS (ints_reps ns)) (.nil fun _ z => z) dj_emp fun x => ⟨fun z => z.elim, fun z => z.elim id id⟩, h, fun v F' H' R S' _ _ r _ _ => ?_⟩
  rw [r.lf_inv.1]
  exact q H'
/-- a def with defaults -/
theorem ok_defD {P : Program} {w : World} {K : PySem.W.Frag} {mg : Mg} {base : Heap} {n : Nat} {x qual : Str} {params : Arguments} {body : List Stmt} {scope : Scope} {dvs : List V} {kws : List (Str × V)} {f : Addr} {fd : FuncData} {N ps : List Str} {k : Nat} {W : List Nat} {d : DS} {keep : List Bool} (F : FunD K x qual params body scope dvs kws f fd) (S : FnScope N ps scope) (hk : keep.length = ps.length) (hN : N.length = n) (hW : ∀ i ∈ W, keep[i]? ≠ some true)
    (hb : ∀ (cdv : Value) (A : Around) (outer : List Env) (s : Shared) (H : Hp) (E : XK), Room k (A.deeper (envOfC qual scope s.heap.objs.size f cdv)) →
      SSs (cxOf CX0 P w K mg base N qual scope f cdv A outer s H E).nox body W d) : FnOk P w K mg base CX0 (k + 1) f fd ps (spD K mg ps.length (dFun keep n d)) := by
  refine F.ok S (fun vs H Q E h => h.1) (fun cdv A outer s H vs Q E hr h => ?_)
  exact ⟨_, PSs.nox (hb cdv A outer s H E hr), def_end hk hN hW h⟩

/-! ### the first operand a name, the second one anything -/
def o2n (o : T → T → Option T) (i : Nat) (db : DE) : DE := fun env => (gV i env).bind fun _ => (db env).bind fun q => (gV i q.2).bind fun t => (o t q.1).map fun u => (u, q.2)
section
variable {K : PySem.W.Frag} {mg : Mg} {σ : L2.St} {H : Hp} {Q : VK} {p : T → T → Option T} {db : DE} {r : R2} {i : Nat}
theorem o2n_some {env : List T} {t : T} {e : List T} (h : o2n p i db env = some (t, e)) : ∃ x0 y x, gV i env = some x0 ∧ db env = some (y, e) ∧ gV i e = some x ∧ p x y = some t := by
  obtain ⟨x0, h1, h2⟩ := Option.bind_eq_some_iff.mp h
  obtain ⟨⟨y, e2⟩, h3, h4⟩ := Option.bind_eq_some_iff.mp h2
  obtain ⟨x, h5, h6⟩ := Option.bind_eq_some_iff.mp h4
  obtain ⟨u, h7, h8⟩ := Option.map_eq_some_iff.mp h6
  cases h8
  exact ⟨x0, y, x, h1, h3, h5, h7⟩
theorem i2n (h : Op2V K mg r p) (q : tR K mg (o2n p i db) σ H Q) : tOp r (tVar i) (tR K mg db) σ H Q := by
  obtain ⟨F, env, S, t, env', ok, hd, q⟩ := q
  obtain ⟨x0, y, x, h1, h2, h3, h4⟩ := o2n_some hd
  obtain ⟨g1, g2⟩ := gV_some h1
  obtain ⟨v, A, B, ev, _⟩ := ok.st.slot g1 g2
  refine ⟨v, ev, F, env, S, y, _, ok, h2, fun w F1 H1 S1 R st ok1 rw' => ?_⟩
  obtain ⟨k1, k2⟩ := gV_some h3
  obtain ⟨v', A', B', ev', rv, _⟩ := ok1.st.slot k1 k2
  rw [ev] at ev'
  cases ev'
  exact h F1 H1 v w x y A' R t Q ok1.le rv rw' h4 fun z R' rz => q z F1 H1 S1 R' st ok1 rz
theorem i2nE (h : Op2E K mg r p) (q : tE K mg (o2n p i db) σ H Q) : tOp r (tVar i) (tR K mg db) σ H Q := by
  obtain ⟨F, env, S, t, env', ok, hd, q⟩ := q
  obtain ⟨x0, y, x, h1, h2, h3, h4⟩ := o2n_some hd
  obtain ⟨g1, g2⟩ := gV_some h1
  obtain ⟨v, A, B, ev, _⟩ := ok.st.slot g1 g2
  refine ⟨v, ev, F, env, S, y, _, ok, h2, fun w F1 H1 S1 R st ok1 rw' => ?_⟩
  obtain ⟨k1, k2⟩ := gV_some h3
  obtain ⟨v', A', B', ev', rv, _⟩ := ok1.st.slot k1 k2
  rw [ev] at ev'
  cases ev'
  refine h F1 H1 v w x y A' R t Q ok1.le rv rw' h4 fun z F2 H2 R' st2 le2 rz => ?_
  obtain ⟨a, b, c⟩ := fin_new st ok1 st2 le2
  exact q z F2 H2 S1 R' a b rz c
end
section
variable {X : Cx} {op : Operator} {co : CmpOp} {x : Str} {px : Pos} {b : Expr} {pos : Pos} {r : R2} {o : T → T → Option T} {db : DE} {i : Nat}
theorem sr_binn (ho : OpR X (binaryOp op) r) (hv : Op2V X.K X.mg r o) (hb : SR X b db) (hN : X.N[i]? = some x := by rfl) (hvis : Vis X.env.scope x := by first | exact Or.inl rfl | exact Or.inr (Or.inl rfl) | exact Or.inr (Or.inr rfl)) (hd : (x == ("__debug__" : Str)) = false := by decide) (hcd : (x == ("__classdict__" : Str)) = false := by decide) :
    SR X (.BinOp (.Name x px) op b pos) (o2n o i db) := pew (pe_op ho (pe_var hN hvis hd hcd) hb) fun _ _ _ => i2n hv
theorem se_binn (ho : OpR X (binaryOp op) r) (hv : Op2E X.K X.mg r o) (hb : SR X b db) (hN : X.N[i]? = some x := by rfl) (hvis : Vis X.env.scope x := by first | exact Or.inl rfl | exact Or.inr (Or.inl rfl) | exact Or.inr (Or.inr rfl)) (hd : (x == ("__debug__" : Str)) = false := by decide) (hcd : (x == ("__classdict__" : Str)) = false := by decide) :
    SE X (.BinOp (.Name x px) op b pos) (o2n o i db) := pew (pe_op ho (pe_var hN hvis hd hcd) hb) fun _ _ _ => i2nE hv
theorem sr_cmpn (ho : OpR X (compareOp co) r) (hv : Op2V X.K X.mg r o) (hm : behindInMarks co b = false) (hb : SR X b db) (hN : X.N[i]? = some x := by rfl) (hvis : Vis X.env.scope x := by first | exact Or.inl rfl | exact Or.inr (Or.inl rfl) | exact Or.inr (Or.inr rfl)) (hd : (x == ("__debug__" : Str)) = false := by decide) (hcd : (x == ("__classdict__" : Str)) = false := by decide) :
    SR X (.Compare (.Name x px) [co] [b] pos) (o2n o i db) := pew (pe_cmpR ho (pe_var hN hvis hd hcd) hb hm) fun _ _ _ => i2n hv
theorem st_cmpn (ho : OpR X (compareOp co) r) (hv : Op2V X.K X.mg r o) (hm : behindInMarks co b = false) (hb : SR X b db) (hN : X.N[i]? = some x := by rfl) (hvis : Vis X.env.scope x := by first | exact Or.inl rfl | exact Or.inr (Or.inl rfl) | exact Or.inr (Or.inr rfl)) (hd : (x == ("__debug__" : Str)) = false := by decide) (hcd : (x == ("__classdict__" : Str)) = false := by decide) :
    ST X (.Compare (.Name x px) [co] [b] pos) (o2n o i db) := ptw (pt_cmpR ho (pe_var hN hvis hd hcd) hb hm) fun _ _ _ h => i2n hv h
end

/-! ### a name's thing is frozen ahead: nothing is done for it -/
def fz (i : Nat) (d : DE) : DE := fun env => match env[i]? with
  | some t => d (env.set i (frz t))
  | none => none
section
variable {K : PySem.W.Frag} {mg : Mg} {σ : L2.St} {F H : Hp} {env : List T} {S : AS} {i : Nat}
theorem freeze_ok {t : T} (ok : Ok K mg F H σ env S) (h : env[i]? = some t) : ∃ F' S', Stp F H S F' H S' ∧ Ok K mg F' H σ (env.set i (frz t)) S' := by
  obtain ⟨s, A, B, e1, e2, e3, e4, rest⟩ := ok.st.split h
  have ff := frF_le (A := A) ok.le
  have kB : ∀ y, B y → H y = H y ∧ frF F H A y = none := fun y z => ⟨rfl, by rw [frF_out fun a => e3 y a z]; exact (ok.st.dom y ((e4 y).mpr (.inr z))).2⟩
  have r' : RepO K mg (frF F H A) H s (frz t) Emp := by
    cases s with
    | none =>
      obtain ⟨rfl, _⟩ := e2
      exact ⟨by rw [frz], fun _ z => z⟩
    | some v => exact Rep.freeze ff.1 e2 (fun y z => frF_in z) fun _ z => z
  have := rest (frF F H A) H s (frz t) Emp ff.1 kB r' emp_dj
  rw [set_self' e1] at this
  exact ⟨frF F H A, Cup Emp B, frF_stp ok.le (fun y z => (e4 y).mpr (.inl z)) fun y z => (e4 y).mpr (.inr (z.elim (fun z => z.elim) id)), ⟨ff.2, this⟩⟩
theorem fzE_imp {d : DE} {Q : VK} (h : tE K mg (fz i d) σ H Q) : tE K mg d σ H Q := by
  obtain ⟨F, env, S, t, e, ok, hd, q⟩ := h
  unfold fz at hd
  split at hd
  · rename_i u hu
    obtain ⟨F', S', st, ok'⟩ := freeze_ok ok hu
    exact ⟨F', _, S', t, e, ok', hd, fun v F2 H2 S2 R st2 ok2 r dj => q v F2 H2 S2 R (st.trans st2) ok2 r dj⟩
  · cases hd
end
theorem SE.fz {X : Cx} {e : Expr} {d : DE} (i : Nat) (h : SE X e d) : SE X e (Tr.fz i d) := pew h fun _ _ _ => fzE_imp
end Tr


set_option Elab.async false
set_option linter.all false
set_option maxRecDepth 100000
set_option maxHeartbeats 4000000
/-! D12: places within things, changed in place; built-ins of two. -/
namespace Tr
open PySem PySem.Spec PyProof.Rows L2

section
variable (K : PySem.W.Frag) (mg : Mg)
/-- a place within the slots: what stands there, whose it is, and how the rest goes on -/
def Foc (F H : Hp) (σ : L2.St) (S : AS) (v : V) (t : T) (put : T → List T) : Prop :=
  ∃ A B, Rep K mg F H v t A ∧ Dj A B ∧ (∀ x, S x ↔ A x ∨ B x) ∧
    ∀ (H' : Hp) (t' : T) (A' : AS), (∀ x, B x → H' x = H x) → Rep K mg F H' v t' A' → Dj A' B → StR K mg F H' σ (put t') (Cup A' B)
/-- what a place's expression looks at -/
abbrev DP := List T → Option (T × (T → List T))
def tP (d : DP) : TE := fun σ H Q => ∃ F env S t put, Ok K mg F H σ env S ∧ d env = some (t, put) ∧ ∀ v, Foc K mg F H σ S v t put → Q v H
end
def SP (X : Cx) (e : Expr) (d : DP) : Prop := PE X e (tP X.K X.mg d)
def dpV (i : Nat) : DP := fun env => (gV i env).map fun t => (t, fun t' => env.set i t')
def dpIx (da : DP) (db : DV) : DP := fun env => match da env, db env with
  | some (.nd o .lst xs, put), some (.lf (.int i)) => (ixN xs.length i).bind fun j => (xs[j]?).map fun t => (t, fun t' => put (.nd o .lst (xs.set j t')))
  | some (.nd o .tup xs, put), some (.lf (.int i)) => (ixN xs.length i).bind fun j => (xs[j]?).map fun t => (t, fun t' => put (.nd o .tup (xs.set j t')))
  | _, _ => none
section
variable {K : PySem.W.Frag} {mg : Mg} {F H : Hp} {σ : L2.St} {env : List T} {S : AS}
theorem foc_slot {i : Nat} {t : T} (ok : Ok K mg F H σ env S) (h : gV i env = some t) : ∃ v, σ[i]? = some (some v) ∧ Foc K mg F H σ S v t (fun t' => env.set i t') := by
  obtain ⟨g1, g2⟩ := gV_some h
  obtain ⟨v, A, B, ev, rx, d, hS, rest⟩ := ok.st.slot g1 g2
  refine ⟨v, ev, A, B, rx, d, hS, fun H' t' A' k r dj => ?_⟩
  have := rest F H' (some v) t' A' (Le.refl _) (fun x z => ⟨k x z, (ok.st.dom x ((hS x).mpr (.inr z))).2⟩) r dj
  rwa [set_self' ev] at this
theorem Reps.focus : ∀ {vs : List V} {ts : List T} {S0 : AS}, Reps K mg F H vs ts S0 → ∀ {j : Nat} {t : T}, ts[j]? = some t →
    ∃ v A B, vs[j]? = some v ∧ Rep K mg F H v t A ∧ Dj A B ∧ (∀ x, S0 x ↔ A x ∨ B x) ∧
      ∀ (H' : Hp) (t' : T) (A' : AS), (∀ x, B x → H' x = H x) → Rep K mg F H' v t' A' → Dj A' B → Reps K mg F H' vs (ts.set j t') (Cup A' B)
  | _, _, _, .nil _, j, t, h => by simp at h
  | _, _, S0, .cons (vs := vs) (ts := ts) (v := v) (t := t0) (S1 := S1) (S2 := S2) r q d hS, 0, t, h => by
    have e : t0 = t := by simpa using h
    subst e
    exact ⟨v, S1, S2, rfl, r, d, hS, fun H' t' A' k r' dj => .cons r' (q.frame (Le.refl _) fun x z => ⟨k x z, (q.dom x z).2⟩) dj fun _ => Iff.rfl⟩
  | _, _, S0, .cons (vs := vs) (ts := ts) (v := w) (S1 := S1) (S2 := S2) r q d hS, j + 1, t, h => by
    obtain ⟨v, A, B, h1, h2, h3, h4, h5⟩ := Reps.focus q (by simpa using h)
    refine ⟨v, A, Cup S1 B, by simpa using h1, h2, fun x a b => b.elim (fun b => d x b ((h4 x).mpr (.inl a))) (h3 x a), fun x => ?_, fun H' t' A' k r' dj => ?_⟩
    · rw [hS x, h4 x]
      exact ⟨fun z => z.elim (fun z => .inr (.inl z)) fun z => z.elim .inl fun z => .inr (.inr z), fun z => z.elim (fun z => .inr (.inl z)) fun z => z.elim .inl fun z => .inr (.inr z)⟩
    · have q' := h5 H' t' A' (fun x z => k x (.inr z)) r' fun x a b => dj x a (.inr b)
      refine .cons (r.frame (Le.refl _) fun x z => ⟨k x (.inl z), (r.dom x z).2⟩) q' (fun x a b => b.elim (fun b => dj x b (.inl a)) fun b => d x a ((h4 x).mpr (.inr b))) fun x => ?_
      exact ⟨fun z => z.elim (fun z => .inr (.inl z)) fun z => z.elim .inl fun z => .inr (.inr z), fun z => z.elim (fun z => .inr (.inl z)) fun z => z.elim .inl fun z => .inr (.inr z)⟩
/-- a part of what stands at a place -/
theorem foc_child {v : V} {o : Bool} {k : Kd} {xs : List T} {put : T → List T} (f : Foc K mg F H σ S v (.nd o k xs) put) {j : Nat} {t : T} (h : xs[j]? = some t) :
    ∃ a vs w R, v = .ref a ∧ (Le F H → Here K mg H a k vs) ∧ vs[j]? = some w ∧ vs.length = xs.length ∧ (∀ x, R x → S x) ∧ Rep K mg F H w t R ∧ Foc K mg F H σ S w t (fun t' => put (.nd o k (xs.set j t'))) := by
  obtain ⟨A, B, r, d, hS, rest⟩ := f
  cases r with
  | @own a _ ho vs _ _ S0 h1 h2 c r na hA =>
    obtain ⟨w, A1, B1, g1, g2, g3, g4, g5⟩ := r.focus h
    refine ⟨a, vs, w, A1, rfl, fun _ => .of h1 c, g1, r.length (S := Emp), fun x z => (hS x).mpr (.inl ((hA x).mpr (.inr ((g4 x).mpr (.inl z))))), g2, A1, fun x => x = a ∨ B1 x ∨ B x, g2, fun x z y => ?_, fun x => ?_, fun H' t' A' kp r' dj => ?_⟩
    · rcases y with y | y | y
      · subst y; exact na ((g4 x).mpr (.inl z))
      · exact g3 x z y
      · exact d x ((hA x).mpr (.inr ((g4 x).mpr (.inl z)))) y
    · rw [hS x, hA x, g4 x]
      constructor
      · rintro ((z | z | z) | z)
        · exact .inr (.inl z)
        · exact .inl z
        · exact .inr (.inr (.inl z))
        · exact .inr (.inr (.inr z))
      · rintro (z | z | z | z)
        · exact .inl (.inr (.inl z))
        · exact .inl (.inl z)
        · exact .inl (.inr (.inr z))
        · exact .inr z
    · have q' := g5 H' t' A' (fun x z => kp x (.inr (.inl z))) r' fun x a b => dj x a (.inr (.inl b))
      have na' : ¬ Cup A' B1 a := fun z => z.elim (fun z => dj a z (.inl rfl)) fun z => na ((g4 a).mpr (.inr z))
      have ow : Rep K mg F H' (.ref a) (.nd true k (xs.set j t')) (fun x => x = a ∨ Cup A' B1 x) := .own ((kp a (.inl rfl)).trans h1) h2 c q' na' fun _ => Iff.rfl
      have := rest H' _ _ (fun x z => kp x (.inr (.inr z))) ow fun x z y => ?_
      · refine this.iff fun x => ?_
        constructor
        · rintro (z | z | z | z)
          · exact .inl (.inr (.inl z))
          · exact .inl (.inl z)
          · exact .inl (.inr (.inr z))
          · exact .inr z
        · rintro ((z | z | z) | z)
          · exact .inr (.inl z)
          · exact .inl z
          · exact .inr (.inr (.inl z))
          · exact .inr (.inr (.inr z))
      · rcases z with z | z | z
        · subst z; exact d x ((hA x).mpr (.inl rfl)) y
        · exact dj x z (.inr (.inr y))
        · exact d x ((hA x).mpr (.inr ((g4 x).mpr (.inr z)))) y
  | @frz a _ ho vs _ _ h1 c r =>
    obtain ⟨w, A1, B1, g1, g2, g3, g4, g5⟩ := r.focus h
    refine ⟨a, vs, w, A1, rfl, fun le => .of (le _ _ h1) c, g1, r.length (S := Emp), fun x z => (hS x).mpr (.inl ((g4 x).mpr (.inl z))), g2, A1, fun x => B1 x ∨ B x, g2, fun x z y => y.elim (g3 x z) (d x ((g4 x).mpr (.inl z))), fun x => ?_, fun H' t' A' kp r' dj => ?_⟩
    · rw [hS x, g4 x]; exact or_assoc
    · have q' := g5 H' t' A' (fun x z => kp x (.inl z)) r' fun x a b => dj x a (.inl b)
      have := rest H' (.nd false k (xs.set j t')) _ (fun x z => kp x (.inr z)) (.frz h1 c q') fun x z y => z.elim (fun z => dj x z (.inr y)) fun z => d x ((g4 x).mpr (.inr z)) y
      exact this.iff fun x => ⟨fun z => z.elim (fun z => .inl (.inl z)) fun z => z.elim (fun z => .inl (.inr z)) .inr, fun z => z.elim (fun z => z.elim .inl fun z => .inr (.inl z)) fun z => .inr (.inr z)⟩
  | @rol a vs _ _ h1 r =>
    obtain ⟨w, A1, B1, g1, g2, g3, g4, g5⟩ := r.focus h
    refine ⟨a, vs, w, A1, rfl, fun le => le.sqL h1, g1, r.length (S := Emp), fun x z => (hS x).mpr (.inl ((g4 x).mpr (.inl z))), g2, A1, fun x => B1 x ∨ B x, g2, fun x z y => y.elim (g3 x z) (d x ((g4 x).mpr (.inl z))), fun x => ?_, fun H' t' A' kp r' dj => ?_⟩
    · rw [hS x, g4 x]; exact or_assoc
    · have q' := g5 H' t' A' (fun x z => kp x (.inl z)) r' fun x a b => dj x a (.inl b)
      have := rest H' (.nd false .rol (xs.set j t')) _ (fun x z => kp x (.inr z)) (.rol h1 q') fun x z y => z.elim (fun z => dj x z (.inr y)) fun z => d x ((g4 x).mpr (.inr z)) y
      exact this.iff fun x => ⟨fun z => z.elim (fun z => .inl (.inl z)) fun z => z.elim (fun z => .inl (.inr z)) .inr, fun z => z.elim (fun z => z.elim .inl fun z => .inr (.inl z)) fun z => .inr (.inr z)⟩
  | @rot a vs _ _ h1 r =>
    obtain ⟨w, A1, B1, g1, g2, g3, g4, g5⟩ := r.focus h
    refine ⟨a, vs, w, A1, rfl, fun le => le.sqT h1, g1, r.length (S := Emp), fun x z => (hS x).mpr (.inl ((g4 x).mpr (.inl z))), g2, A1, fun x => B1 x ∨ B x, g2, fun x z y => y.elim (g3 x z) (d x ((g4 x).mpr (.inl z))), fun x => ?_, fun H' t' A' kp r' dj => ?_⟩
    · rw [hS x, g4 x]; exact or_assoc
    · have q' := g5 H' t' A' (fun x z => kp x (.inl z)) r' fun x a b => dj x a (.inl b)
      have := rest H' (.nd false .rot (xs.set j t')) _ (fun x z => kp x (.inr z)) (.rot h1 q') fun x z y => z.elim (fun z => dj x z (.inr y)) fun z => d x ((g4 x).mpr (.inr z)) y
      exact this.iff fun x => ⟨fun z => z.elim (fun z => .inl (.inl z)) fun z => z.elim (fun z => .inl (.inr z)) .inr, fun z => z.elim (fun z => z.elim .inl fun z => .inr (.inl z)) fun z => .inr (.inr z)⟩
theorem ixN_atI {vs : List V} {n j : Nat} {i : Int} {w : V} (h : ixN n i = some j) (hl : vs.length = n) (hw : vs[j]? = some w) : atI vs i = some w := by
  unfold L2.atI
  rw [hl, h]
  exact hw
theorem pix_imp {da : DP} {db : DV} {Q : VK} (h : tP K mg (dpIx da db) σ H Q) : tOp (rIxA K) (tP K mg da) (tV K mg db) σ H Q := by
  obtain ⟨F, env, S, t, put, ok, hd, q⟩ := h
  unfold dpIx at hd
  split at hd
  · rename_i o xs p i h1 h2
    obtain ⟨j, e1, e2⟩ := Option.bind_eq_some_iff.mp hd
    obtain ⟨t', e3, e4⟩ := Option.map_eq_some_iff.mp e2
    cases e4
    refine ⟨F, env, S, _, _, ok, h1, fun v f => ⟨F, env, S, _, ok, h2, fun w R rw' => ?_⟩⟩
    obtain ⟨a, vs, u, R', rfl, hh, g1, g2, g3, g4, g5⟩ := foc_child f e3
    exact .inl ⟨a, vs, _, u, rfl, rw'.lf_inv.1, SqL.of (hh ok.le), ixN_atI e1 g2 g1, q u g5⟩
  · rename_i o xs p i h1 h2
    obtain ⟨j, e1, e2⟩ := Option.bind_eq_some_iff.mp hd
    obtain ⟨t', e3, e4⟩ := Option.map_eq_some_iff.mp e2
    cases e4
    refine ⟨F, env, S, _, _, ok, h1, fun v f => ⟨F, env, S, _, ok, h2, fun w R rw' => ?_⟩⟩
    obtain ⟨a, vs, u, R', rfl, hh, g1, g2, g3, g4, g5⟩ := foc_child f e3
    exact .inr (.inl ⟨a, vs, _, u, rfl, rw'.lf_inv.1, SqT.of (hh ok.le), ixN_atI e1 g2 g1, q u g5⟩)
  · cases hd
/-- a change at a place -/
theorem foc_mut {r : V → List V → Hp → VK → Prop} {op : T → List T → Option (T × T)} {vs : List V} {ts : List T} {t t' res : T} {put : T → List T} {v : V} {Q : VK} (ho : OpM K mg r op) (le : Le F H) (f : Foc K mg F H σ S v t put) (rs : Reps K mg F H vs ts Emp) (hop : op t ts = some (res, t'))
    (q : ∀ w F' H' S' R', Stp F H S F' H' (Cup S' R') → Ok K mg F' H' σ (put t') S' → Rep K mg F' H' w res R' → Dj S' R' → Q w H') (dom : ∀ x, S x → (∃ o, H x = some o) ∧ F x = none) : r v vs H Q := by
  obtain ⟨A, B, rx, d, hS, rest⟩ := f
  refine ho F H v t A vs ts Emp res t' Q le rx rs (fun _ _ z => z.elim) hop fun w H' A' Rv stm le' rx' rw' dj' => ?_
  have djB : Dj (Cup A Emp) B := fun y a b => a.elim (fun a => d y a b) fun a => a.elim
  have kB := stm.keeps (R := B) (fun y z => dom y ((hS y).mpr (.inr z))) djB
  have djB' : Dj (Cup A' Rv) B := stm.dj (fun y z => (dom y ((hS y).mpr (.inr z))).1) djB
  have hn := rest H' t' A' (fun x z => (kB x z).1) rx' fun y a b => djB' y (.inl a) b
  refine q w F H' (Cup A' B) Rv ?_ ⟨le', hn⟩ rw' fun y a b => a.elim (fun a => dj' y a b) fun a => djB' y (.inr b) a
  have b1 := stm.frame B
  have b2 : Stp F H S F H' (Cup (Cup A' Rv) B) := b1.big fun y z => z.elim (fun z => z.elim (fun z => (hS y).mpr (.inl z)) fun z => z.elim) fun z => (hS y).mpr (.inr z)
  exact b2.weak fun y z => z.elim (fun z => z.elim (fun z => .inl (.inl z)) .inr) fun z => .inl (.inr z)
/-- p.m(), p.m(e): what stands at a place is changed -/
def dMutP0 (ty : String) (dp : DP) (op : T → List T → Option (T × T)) : DE := fun env => (dp env).bind fun p => if isTy ty p.1 = true then (op p.1 []).map fun q => (q.1, p.2 q.2) else none
def dMutP (ty : String) (dp : DP) (op : T → List T → Option (T × T)) (da : DV) : DE := fun env => (dp env).bind fun p => (da env).bind fun u => if isTy ty p.1 = true ∧ cln u = true then (op p.1 [u]).map fun q => (q.1, p.2 q.2) else none
theorem mutP0_imp {ty : String} {dp : DP} {r : V → List V → Hp → VK → Prop} {op : T → List T → Option (T × T)} {Q : VK} (ho : OpM K mg r op) (h : tE K mg (dMutP0 ty dp op) σ H Q) : tBM0 K ty r (tP K mg dp) σ H Q := by
  obtain ⟨F, env, S, res, e, ok, hd, q⟩ := h
  obtain ⟨⟨t, put⟩, h1, h2⟩ := Option.bind_eq_some_iff.mp hd
  split at h2
  · rename_i hi
    obtain ⟨⟨r', t'⟩, h4, h5⟩ := Option.map_eq_some_iff.mp h2
    cases h5
    refine ⟨F, env, S, t, put, ok, h1, fun v f => ⟨?_, foc_mut ho ok.le f (.nil fun _ z => z) h4 q ok.st.dom⟩⟩
    obtain ⟨A, B, rx, _⟩ := f
    exact isTy_ok ok.le rx hi
  · cases h2
theorem mutP_imp {ty : String} {dp : DP} {da : DV} {r : V → List V → Hp → VK → Prop} {op : T → List T → Option (T × T)} {Q : VK} (ho : OpM K mg r op) (h : tE K mg (dMutP ty dp op da) σ H Q) : tBM K ty r (tP K mg dp) (tCons (tV K mg da) tNil) σ H Q := by
  obtain ⟨F, env, S, res, e, ok, hd, q⟩ := h
  obtain ⟨⟨t, put⟩, h1, h2⟩ := Option.bind_eq_some_iff.mp hd
  obtain ⟨u, h3, h4⟩ := Option.bind_eq_some_iff.mp h2
  split at h4
  · rename_i hi
    obtain ⟨⟨r', t'⟩, h5, h6⟩ := Option.map_eq_some_iff.mp h4
    cases h6
    refine ⟨F, env, S, t, put, ok, h1, fun v f => ⟨?_, F, env, S, u, ok, h3, fun w R rw' => foc_mut ho ok.le f (.cons (S1 := Emp) (S2 := Emp) (rw'.clean0 hi.2) (.nil fun _ z => z) (fun _ z => z.elim) fun _ => ⟨.inl, fun z => z.elim id id⟩) h5 q ok.st.dom⟩⟩
    obtain ⟨A, B, rx, _⟩ := f
    exact isTy_ok ok.le rx hi.1
  · cases h4
end
section
variable {X : Cx} {x : Str} {i : Nat} {a b e o : Expr} {es : List Expr} {name : Str} {ty id : String} {px pos apos cpos : Pos} {r : V → List V → Hp → VK → Prop} {op : T → List T → Option (T × T)} {da dp : DP} {db dv : DV}
theorem sp_name (hN : X.N[i]? = some x := by rfl) (hv : Vis X.env.scope x := by first | exact Or.inl rfl | exact Or.inr (Or.inl rfl) | exact Or.inr (Or.inr rfl)) (hd : (x == ("__debug__" : Str)) = false := by decide)
    (hcd : (x == ("__classdict__" : Str)) = false := by decide) : SP X (.Name x px) (dpV i) := pew (pe_var hN hv hd hcd) fun σ H Q ⟨F, env, S, t, put, ok, h, q⟩ => by
  obtain ⟨t', e1, e2⟩ := Option.map_eq_some_iff.mp h
  cases e2
  obtain ⟨v, e3, f⟩ := foc_slot ok e1
  exact ⟨v, e3, q v f⟩
theorem sp_ix (hu : X.A.units + 1 < cLine) (ha : SP X a da) (hb : SV X b db) (hs : PlainIx b := by exact fun _ _ => rfl) : SP X (.Subscript a b pos) (dpIx da db) := pew (pe_ix (ix_all hu) ha hb hs) fun _ _ _ => pix_imp
theorem se_mutP (pa : PlainAttrs ty) (slot : Slot ty name id) (hty : typeOf (.builtin id) = pure (.type "method_descriptor")) (hm : MtR X id r) (ho : OpM X.K X.mg r op) (hp : SP X o dp) (ha : SV X e dv)
    (hbase : attributeBase o name X.env (eval o X.env) = eval o X.env := by rfl)
    (hfew : ((backTo cpos (starEach (e :: []) X.env)).all (fun y => !y.1) && (backToKw cpos (keywordEach [] X.env)).all (fun y => y.1.isSome) && decide ((e :: []).length + ([] : List Keyword).length + (if ([] : List Keyword).isEmpty then 0 else 1) < 30)) = true := by rfl)
    (hline : (apos.endLine == cpos.line) = true := by rfl) (hs : starEach (e :: []) X.env = (false, eval e X.env) :: starEach [] X.env := by rfl) (hplain : (backTo cpos (starEach [] X.env)).any (·.1) = false := by rfl) :
    SE X (.Call (.Attribute o name apos) [e] [] cpos) (dMutP ty dp op dv) := pew (pe_bm pa slot hty hm hp (pa_cons ha pa_nil hs) hbase hfew hline hs hplain) fun _ _ _ h => mutP_imp ho h
theorem se_mutP0 (pa : PlainAttrs ty) (slot : Slot ty name id) (hty : typeOf (.builtin id) = pure (.type "method_descriptor")) (hm : MtR X id r) (ho : OpM X.K X.mg r op) (hp : SP X o dp)
    (hbase : attributeBase o name X.env (eval o X.env) = eval o X.env := by rfl) (hline : (apos.endLine == cpos.line) = true := by rfl) :
    SE X (.Call (.Attribute o name apos) [] [] cpos) (dMutP0 ty dp op) := pew (pe_bm0 pa slot hty hm hp hbase hline) fun _ _ _ h => mutP0_imp ho h
end

/-! ### built-ins of two -/
section
variable {X : Cx} {e1 e2 : Expr} {x : Str} {id : String} {p pos : Pos} {d1 d2 : DV} {r : List V → Hp → VK → Prop} {o : T → T → Option T}
theorem sv_b2 (hc : CallR X (.builtin id) r) (hv : Op2V X.K X.mg (fun x y H Q => r [x, y] H Q) o) (hb : bootBuiltins x = some (.builtin id)) (hg : Gl X x) (hm : X.mg x = none) (h1 : SV X e1 d1) (h2 : SV X e2 d2) (hn : x ≠ "__name__" := by decide) (hdb : (x == ("__debug__" : Str)) = false := by decide)
    (hs : starEach (e1 :: [e2]) X.env = (false, eval e1 X.env) :: starEach [e2] X.env := by rfl) (hs2 : starEach (e2 :: []) X.env = (false, eval e2 X.env) :: starEach [] X.env := by rfl) (hpl : (backTo pos (starEach [e2] X.env)).any (·.1) = false := by rfl) :
    SV X (.Call (.Name x p) [e1, e2] [] pos) (o2V o d1 d2) := pew (pe_callB hc hg hm hb (pa_cons h1 (pa_cons h2 pa_nil hs2) hs) hn hdb (he := hs) (hpl := hpl)) fun _ _ _ h => i2V hv h
end
def oMax : T → T → Option T
  | .lf (.int i), .lf (.int j) => some (.lf (.int (if j > i then j else i)))
  | _, _ => none
def oMin : T → T → Option T
  | .lf (.int i), .lf (.int j) => some (.lf (.int (if j < i then j else i)))
  | _, _ => none
theorem v_max {K : PySem.W.Frag} {mg : Mg} : Op2V K mg (fun x y H Q => ∃ i j, [x, y] = [.int i, .int j] ∧ Q (.int (if j > i then j else i)) H) oMax := fun F H x y t s R R2 u Q le r1 r2 h q => by
  unfold oMax at h
  split at h
  · cases h
    exact ⟨_, _, by rw [r1.lf_inv.1, r2.lf_inv.1], q _ Emp (.lf rfl fun _ z => z)⟩
  · cases h
theorem v_min {K : PySem.W.Frag} {mg : Mg} : Op2V K mg (fun x y H Q => ∃ i j, [x, y] = [.int i, .int j] ∧ Q (.int (if j < i then j else i)) H) oMin := fun F H x y t s R R2 u Q le r1 r2 h q => by
  unfold oMin at h
  split at h
  · cases h
    exact ⟨_, _, by rw [r1.lf_inv.1, r2.lf_inv.1], q _ Emp (.lf rfl fun _ z => z)⟩
  · cases h
/-- int(x) of a number or a truth -/
def oInt : T → Option T
  | .lf (.int i) => some (.lf (.int i))
  | .lf (.bl k) => some (.lf (.int (if k = true then 1 else 0)))
  | _ => none
theorem v_int {K : PySem.W.Frag} {mg : Mg} : Op1V K mg (fun x H Q => (∃ i, [x] = [.int i] ∧ Q (.int i) H) ∨ ∃ k, [x] = [.bl k] ∧ Q (.int (if k then 1 else 0)) H) oInt := fun F H x t R u Q le r1 h q => by
  unfold oInt at h
  split at h
  · cases h
    exact .inl ⟨_, by rw [r1.lf_inv.1], q _ Emp (.lf rfl fun _ z => z)⟩
  · cases h
    exact .inr ⟨_, by rw [r1.lf_inv.1], q _ Emp (.lf rfl fun _ z => z)⟩
  · cases h
/-! ### lent to an answer that is no thing: all stays as it was -/
section
variable {K : PySem.W.Frag} {mg : Mg} {F F' H : Hp} {σ : L2.St}
theorem StR.freeze (ff : Le F F') {env : List T} {S : AS} (r : StR K mg F H σ env S) : (∀ x, S x → F' x = H x) → StR K mg F' H σ (frzs env) Emp := by
  induction r with
  | nil h => intro _; rw [frzs]; exact .nil fun _ z => z
  | @cons s t σ env S S1 S2 r _ d hS ih =>
    intro k
    rw [frzs]
    refine .cons (S1 := Emp) (S2 := Emp) ?_ (ih fun x z => k x ((hS x).mpr (.inr z))) (fun _ z => z.elim) fun x => ⟨.inl, fun z => z.elim id id⟩
    cases s with
    | none => obtain ⟨rfl, _⟩ := r; exact ⟨by rw [frz], fun _ z => z⟩
    | some v => exact Rep.freeze ff r (fun x z => k x ((hS x).mpr (.inl z))) fun _ z => z
mutual
/-- a thing newly made, all of it one's own -/
def pureT : T → Bool
  | .no => false
  | .lf _ => true
  | .nd o _ xs => o && pureTs xs
def pureTs : List T → Bool
  | [] => true
  | t :: ts => pureT t && pureTs ts
end
mutual
theorem Rep.unfreeze (ff : Le F F') : ∀ {v : V} {t : T} {R : AS}, Rep K mg F' H v t R → pureT t = true → Rep K mg F H v t R
  | _, _, _, .no _, c => by simp [pureT] at c
  | _, _, _, .lf h g, _ => .lf h g
  | _, _, _, .own h1 h2 c r na hS, p => .own h1 (by
      cases e : F _ with
      | none => rfl
      | some o => rw [ff _ _ e] at h2; cases h2) c (Reps.unfreeze ff r (by simpa [pureT] using p)) na hS
  | _, _, _, .frz _ _ _, c => by simp [pureT] at c
  | _, _, _, .rol _ _, c => by simp [pureT] at c
  | _, _, _, .rot _ _, c => by simp [pureT] at c
theorem Reps.unfreeze (ff : Le F F') : ∀ {vs : List V} {ts : List T} {R : AS}, Reps K mg F' H vs ts R → pureTs ts = true → Reps K mg F H vs ts R
  | _, _, _, .nil h, _ => .nil h
  | _, _, _, .cons r q d hS, p => .cons (Rep.unfreeze ff r (by simp [pureTs] at p; exact p.1)) (Reps.unfreeze ff q (by simp [pureTs] at p; exact p.2)) d hS
end
def bw (d : DE) : DE := fun env => match d (frzs env) with
  | some (t, _) => if pureT t = true then some (t, env) else none
  | none => none
theorem bw_imp {d : DE} {Q : VK} (h : tE K mg (bw d) σ H Q) : tE K mg d σ H Q := by
  obtain ⟨F, env, S, t, e, ok, hd, q⟩ := h
  unfold bw at hd
  split at hd
  · rename_i t' e2 h2
    split at hd
    · rename_i hp
      cases hd
      have ff := frF_le (A := S) ok.le
      refine ⟨frF F H S, frzs env, Emp, t, e2, ⟨ff.2, ok.st.freeze ff.1 fun x z => frF_in z⟩, h2, fun v F2 H2 S2 R st2 ok2 r dj => ?_⟩
      have kp : ∀ a o, H a = some o → H2 a = some o := fun a o z => st2.kp a o z fun z => z
      have nw : ∀ a, R a → H a = none := fun a z => (st2.no a (.inr z)).elim (fun z => z.elim) id
      refine q v F H2 S R ⟨Le.refl _, fun a o z _ => kp a o z, fun _ _ z => .inl z, fun a z => z.elim .inl fun z => .inr (nw a z)⟩ ⟨fun a o z => kp a o (ok.le a o z), ok.st.frame (Le.refl _) fun x z => ?_⟩ (r.unfreeze (ff.1.trans st2.ff) hp) fun x z y => ?_
      · obtain ⟨⟨o, e1⟩, e3⟩ := ok.st.dom x z
        exact ⟨(kp x o e1).trans e1.symm, e3⟩
      · obtain ⟨⟨o, e1⟩, e3⟩ := ok.st.dom x z
        rw [nw x y] at e1
        cases e1
    · cases hd
  · cases hd
end
theorem SE.bw {X : Cx} {e : Expr} {d : DE} (h : SE X e d) : SE X e (Tr.bw d) := pew h fun _ _ _ => bw_imp
section
variable {X : Cx} {elt tg iter c : Expr} {scope : Scope} {own : List (Str × Nat)} {pos : Pos} {W vs : List Nat} {di : DI} {dg : DG} {dc de : DE}
theorem ss_setLcB {i : Nat} {y : Str} {py : Pos} {spos : Pos} (hc : X.calm = true) (hN : X.N.Nodup) (hy : X.N[i]? = some y) (hyl : X.env.scope.names.lookup y = some .local)
    (hsw : swapsWith (.ListComp elt [⟨tg, iter, [], 0⟩] scope pos) (some (.Name y py)) spos.line X.env = pure true) (hi : SI X tg iter di) (ok : BlkOk X.N X.env.scope scope own) (hvs : own.map (·.2) = vs) (nd : vs.Nodup) (hW : ∀ i ∈ W, i ∈ vs)
    (hg : ∀ (s : Shared) (H : Hp) (C : Addr) (cl : List (Str × Addr)) (fp : List Addr), SG (X.blk s H scope (compEnvC scope cl C X.env) fp) tg W dg)
    (he : ∀ (s : Shared) (H : Hp) (C : Addr) (cl : List (Str × Addr)) (fp : List Addr), SE (X.blk s H scope (compEnvC scope cl C X.env) fp) elt de) (hs : ∀ x, foldedSetIterable iter X.env x = pure x := by intro _; rfl) :
    SS X (.Assign [.Name y py] (.ListComp elt [⟨tg, iter, [], 0⟩] scope pos) spos) [i] (dSet i (bw (dLc di dg dYes de vs))) :=
  by
  subst hvs
  exact psw (ps_setLc (g := tG X.K X.mg W dg) (tt := tYes) (te := tE X.K X.mg de) hc hN hy hyl hsw hi ok hg (fun _ _ _ _ _ => pts_nil) he hs) fun D σ H h => lc_imp nd hW yes_imp (bw_imp (set_imp h))
theorem ss_setLcIfB {i : Nat} {y : Str} {py : Pos} {spos : Pos} (hc : X.calm = true) (hN : X.N.Nodup) (hy : X.N[i]? = some y) (hyl : X.env.scope.names.lookup y = some .local)
    (hsw : swapsWith (.ListComp elt [⟨tg, iter, [c], 0⟩] scope pos) (some (.Name y py)) spos.line X.env = pure true) (hi : SI X tg iter di) (ok : BlkOk X.N X.env.scope scope own) (hvs : own.map (·.2) = vs) (nd : vs.Nodup) (hW : ∀ i ∈ W, i ∈ vs)
    (hg : ∀ (s : Shared) (H : Hp) (C : Addr) (cl : List (Str × Addr)) (fp : List Addr), SG (X.blk s H scope (compEnvC scope cl C X.env) fp) tg W dg)
    (ht : ∀ (s : Shared) (H : Hp) (C : Addr) (cl : List (Str × Addr)) (fp : List Addr), ST (X.blk s H scope (compEnvC scope cl C X.env) fp) c dc)
    (he : ∀ (s : Shared) (H : Hp) (C : Addr) (cl : List (Str × Addr)) (fp : List Addr), SE (X.blk s H scope (compEnvC scope cl C X.env) fp) elt de) (hs : ∀ x, foldedSetIterable iter X.env x = pure x := by intro _; rfl) :
    SS X (.Assign [.Name y py] (.ListComp elt [⟨tg, iter, [c], 0⟩] scope pos) spos) [i] (dSet i (bw (dLc di dg dc de vs))) :=
  by
  subst hvs
  exact psw (ps_setLc (g := tG X.K X.mg W dg) (tt := tTest (tR X.K X.mg dc)) (te := tE X.K X.mg de) hc hN hy hyl hsw hi ok hg (fun s H C cl fp => pts_one (ht s H C cl fp)) he hs) fun D σ H h => lc_imp nd hW (fun _ _ _ z => z) (bw_imp (set_imp h))
end
section
variable {X : Cx} {a b : Expr} {pos : Pos} {da db : DE}
theorem sr_ixo (hu : X.A.units + 1 < cLine) (ha : SE X a da) (hb : SR X b db) (hs : PlainIx b := by exact fun _ _ => rfl) : SR X (.Subscript a b pos) (o2o oIx da db) := pew (pe_ix (ix_all hu) ha hb hs) fun _ _ _ => i2o v_ix
end
end Tr


set_option Elab.async false
set_option linter.all false
set_option maxRecDepth 100000
set_option maxHeartbeats 4000000
/-! D13: enumerate; least, greatest, sum; a dict of one key; chains; list(range). -/
namespace Tr
open PySem PySem.Spec PyProof.Rows L2

/-! ### enumerate -/
def enT (n : Nat) : List T → List T
  | [] => []
  | t :: ts => .nd false .tup [lfI n, t] :: enT (n + 1) ts
def itemsE : T → Option (List T)
  | .nd _ .lst xs => some (enT 0 (frzs xs))
  | _ => none
theorem enT_get : ∀ (ts : List T) (n i : Nat), (enT n ts)[i]? = (ts[i]?).map fun t => .nd false .tup [lfI (n + i : Nat), t]
  | [], n, i => by simp [enT]
  | t :: ts, n, 0 => by simp [enT]
  | t :: ts, n, i + 1 => by
    rw [enT, List.getElem?_cons_succ, enT_get ts (n + 1) i, List.getElem?_cons_succ]
    congr 1
    funext u
    rw [show n + 1 + i = n + (i + 1) by omega]
theorem enT_length : ∀ (ts : List T) (n : Nat), (enT n ts).length = ts.length
  | [], _ => rfl
  | t :: ts, n => by rw [enT, List.length_cons, List.length_cons, enT_length ts]
section
variable {K : PySem.W.Frag} {mg : Mg} {F H : Hp}
theorem good_enum {a : Addr} {vs : List V} {its : List T} {S : AS} (r : Reps K mg F H vs its Emp) (hr : ∀ F2 H2 S2, Stp F H S F2 H2 S2 → Le F2 H2 → SqL K H2 a vs) : Good K mg (enT 0 its) (Ite K a) F H S := fun i F2 H2 S2 st le => by
  have hq := hr F2 H2 S2 st le
  refine ⟨fun t h => ?_, fun h => ⟨vs, hq, by rw [r.length (S := Emp)]; rwa [enT_length] at h⟩⟩
  rw [enT_get] at h
  obtain ⟨u, hu, rfl⟩ := Option.map_eq_some_iff.mp h
  obtain ⟨v, R, e1, e2, e3⟩ := r.get hu
  refine ⟨⟨vs, v, hq, e1⟩, fun x H3 y => ?_⟩
  obtain ⟨A, x', rfl, hA, rfl, y⟩ := y
  have e5 := (y vs hq).symm.trans e1
  cases e5
  have nA : ∀ b o, F2 b = some o → b ≠ A := fun b o e z => by rw [z] at e; rw [le A o e] at hA; cases hA
  let F3 : Hp := upd F2 A (.tup [.int (i : Nat), v])
  have l3 : Le F2 F3 := fun b o e => by show upd F2 A _ b = _; rw [upd_ne (nA b o e)]; exact e
  have rx : Rep K mg F3 (upd H2 A (.tup [.int (i : Nat), v])) v u Emp := ((e2.iff (S' := Emp) fun x => ⟨fun z => z.elim, fun z => e3 x z⟩).frame st.ff (F' := F2) (H' := H2) fun _ z => z.elim).frame l3 fun _ z => z.elim
  refine ⟨F3, ⟨l3, fun b o e _ => by rw [upd_ne fun z => by rw [z, hA] at e; cases e]; exact e, fun b o e => ?_, fun _ z => z.elim⟩, fun b o e => ?_, ?_⟩
  · by_cases hb : b = A
    · subst hb; exact .inr (.inr hA)
    · have : F3 b = F2 b := upd_ne hb
      rw [this] at e; exact .inl e
  · by_cases hb : b = A
    · subst hb
      have : F3 b = some (.tup [.int (i : Nat), v]) := upd_same
      rw [this] at e; rw [upd_same]; exact e
    · have : F3 b = F2 b := upd_ne hb
      rw [this] at e; rw [upd_ne hb]; exact le b o e
  · refine .frz (o := .tup [.int (i : Nat), v]) (vs := [.int (i : Nat), v]) upd_same rfl (.cons (S1 := Emp) (S2 := Emp) ?_ (.cons (S1 := Emp) (S2 := Emp) rx (.nil fun _ z => z) dj_emp fun _ => ⟨.inl, fun z => z.elim id id⟩) dj_emp fun _ => ⟨.inl, fun z => z.elim id id⟩)
    rw [show lfI ((0 + i : Nat) : Int) = T.lf (.int (i : Nat)) by rw [Nat.zero_add]; rfl]
    exact .lf rfl fun _ z => z
end
theorem si_enum {X : Cx} {l : Expr} {d : DE} {p pos tpos : Pos} {elts : List Expr} {kk : Nat} (hg : Gl X "enumerate") (hm : X.mg "enumerate" = none) (hl : SE X l d) (hs : starEach [l] X.env = [(false, eval l X.env)] := by rfl) : SI X (.Tuple elts kk tpos) (.Call (.Name "enumerate" p) [l] [] pos) (dIt itemsE d) :=
  piw (pi_enum hg hm (pa_cons hl pa_nil hs) hs) fun σ H Rk ⟨F, env, S, its, e, ok, hd, q⟩ => by
    obtain ⟨t, h1, h2⟩ := dIt_some hd
    unfold itemsE at h2
    split at h2
    · rename_i o xs
      cases h2
      refine ⟨F, env, S, _, e, ok, h1, fun v F1 H1 S1 R1 st ok1 r dj => ?_⟩
      obtain ⟨F', a, vs, rfl, st', ok', p, hr⟩ := items_frozen st ok1 r dj
      exact ⟨a, vs, rfl, SqL.of (hr F' H1 S1 .refl ok'.le), q _ F' H1 S1 st' ok' (good_enum p fun F2 H2 S2 s l => SqL.of (hr F2 H2 S2 s l))⟩
    · cases h2

/-! ### least, greatest, sum of a list of whole numbers -/
def oMinL : T → Option T
  | .nd _ .lst xs => (intsOf xs).bind fun is => ((isort is).head?).map fun m => .lf (.int m)
  | _ => none
def oSum : T → Option T
  | .nd _ .lst xs => (intsOf xs).map fun is => .lf (.int is.sum)
  | _ => none
section
variable {K : PySem.W.Frag} {mg : Mg} {F H : Hp}
theorem least_is {ns : List Int} {m k : Int} (h : (isort ns).head? = some k) (hm : m ∈ ns) (hl : ∀ y ∈ ns, m ≤ y) : m = k := by
  have hs := isort_sorted ns
  cases e : isort ns with
  | nil => rw [e] at h; cases h
  | cons a as =>
    rw [e] at h hs
    cases h
    have h1 : m ∈ k :: as := by rw [← e]; exact (isort_perm ns).mem_iff.mpr hm
    have h2 : k ∈ ns := (isort_perm ns).mem_iff.mp (by rw [e]; exact List.mem_cons_self ..)
    have h3 := hl k h2
    rcases List.mem_cons.mp h1 with z | z
    · exact z
    · have := (List.pairwise_cons.mp hs).1 m z
      omega
theorem v_minL : Op1V K mg (fun x H Q => rMin K [x] H Q) oMinL := fun F H x t R u Q le r1 h q => by
  unfold oMinL at h
  split at h
  · rename_i o xs
    obtain ⟨is, h1, h2⟩ := Option.bind_eq_some_iff.mp h
    obtain ⟨k, h3, rfl⟩ := Option.map_eq_some_iff.mp h2
    obtain ⟨a, vs, S0, rfl, p, _, hr⟩ := r1.nd_inv le
    have ev : vs = is.map V.int := by
      have := intsOf_some h1
      subst this
      exact reps_ints p
    subst ev
    refine ⟨a, is, rfl, SqL.of hr, ?_, fun m hm hl => ?_⟩
    · cases is with
      | nil => simp [isort] at h3
      | cons a as => simp
    · rw [least_is h3 hm hl]
      exact q _ Emp (.lf rfl fun _ z => z)
  · cases h
theorem v_sum : Op1V K mg (fun x H Q => rSum K [x] H Q) oSum := fun F H x t R u Q le r1 h q => by
  unfold oSum at h
  split at h
  · rename_i o xs
    obtain ⟨is, h1, rfl⟩ := Option.map_eq_some_iff.mp h
    obtain ⟨a, vs, S0, rfl, p, _, hr⟩ := r1.nd_inv le
    have ev : vs = is.map V.int := by
      have := intsOf_some h1
      subst this
      exact reps_ints p
    subst ev
    exact ⟨a, is, rfl, SqL.of hr, q _ Emp (.lf rfl fun _ z => z)⟩
  · cases h
end

/-! ### a op b op c -/
def oCh (o o' : T → T → Option T) (va vb vc : DV) : DV := fun env => (va env).bind fun x => (vb env).bind fun y => match o x y with
  | some (.lf (.bl true)) => (vc env).bind fun z => o' y z
  | some (.lf (.bl false)) => some (.lf (.bl false))
  | _ => none
theorem ch_imp {K : PySem.W.Frag} {mg : Mg} {r r' : R2} {o o' : T → T → Option T} {va vb vc : DV} {σ : L2.St} {H : Hp} {Q : VK} (hv : Op2V K mg r o) (hv' : Op2V K mg r' o') (h : tV K mg (oCh o o' va vb vc) σ H Q) : tChain r r' (tV K mg va) (tV K mg vb) (tV K mg vc) σ H Q := by
  obtain ⟨F, env, S, t, ok, hd, q⟩ := h
  obtain ⟨x, h1, h2⟩ := Option.bind_eq_some_iff.mp hd
  obtain ⟨y, h3, h4⟩ := Option.bind_eq_some_iff.mp h2
  refine ⟨F, env, S, x, ok, h1, fun v R rv => ⟨F, env, S, y, ok, h3, fun w R' rw' => ?_⟩⟩
  split at h4
  · rename_i e
    obtain ⟨z, h5, h6⟩ := Option.bind_eq_some_iff.mp h4
    refine hv F H v w x y R R' _ _ ok.le rv rw' e fun b R2 rb => ⟨true, rb.lf_inv.1, ?_⟩
    rw [if_pos rfl]
    exact ⟨F, env, S, z, ok, h5, fun u R3 ru => hv' F H w u y z R' R3 _ _ ok.le rw' ru h6 q⟩
  · rename_i e
    cases h4
    refine hv F H v w x y R R' _ _ ok.le rv rw' e fun b R2 rb => ⟨false, rb.lf_inv.1, ?_⟩
    rw [if_neg (by decide)]
    exact q _ Emp (.lf rfl fun _ z => z)
  · cases h4
section
variable {X : Cx} {a b c : Expr} {op op' : CmpOp} {r r' : R2} {o o' : T → T → Option T} {va vb vc : DV} {pos : Pos}
theorem sv_ch (ho : OpR X (compareOp op) r) (hv : Op2V X.K X.mg r o) (ho' : OpR X (compareOp op') r') (hv' : Op2V X.K X.mg r' o') (ha : SV X a va) (hb : SV X b vb) (hc : SV X c vc) (hm : lastMarks [op, op'] [b, c] = false := by with_unfolding_all rfl) :
    SV X (.Compare a [op, op'] [b, c] pos) (oCh o o' va vb vc) := pew (pe_chain ho ho' ha hb hc hm) fun _ _ _ => ch_imp hv hv'
theorem st_ch (ho : OpR X (compareOp op) r) (hv : Op2V X.K X.mg r o) (ho' : OpR X (compareOp op') r') (hv' : Op2V X.K X.mg r' o') (ha : SV X a va) (hb : SV X b vb) (hc : SV X c vc) (hm : lastMarks [op, op'] [b, c] = false := by with_unfolding_all rfl) :
    ST X (.Compare a [op, op'] [b, c] pos) (vr (oCh o o' va vb vc)) := ptw (pt_chain ho ho' ha hb hc hm) fun _ _ _ h => ch_imp hv hv' (vr_imp h)
end

/-! ### {k: v}; list(range(..)) -/
def dDic1 (dk dv : DV) : DE := fun env => match dk env, dv env with
  | some (.lf k), some (.lf w) => (keyOf k).map fun kk => (.nd true (.dK [kk]) [.lf w], env)
  | _, _ => none
def dLRg (d : DE) : DE := fun env => match d env with
  | some (.lf (.int j), e) => if -(2 ^ 62) ≤ j ∧ j ≤ 2 ^ 24 then some (.nd true .lst ((List.range j.toNat).map fun (k : Nat) => lfI k), e) else none
  | _ => none
section
variable {K : PySem.W.Frag} {mg : Mg} {F H : Hp} {σ : L2.St}
theorem dic1_imp {dk dv : DV} {Q : VK} (h : tE K mg (dDic1 dk dv) σ H Q) : tDisp [(tV K mg dk, tV K mg dv)] σ H Q := by
  obtain ⟨F, env, S, t, e, ok, hd, q⟩ := h
  unfold dDic1 at hd
  split at hd
  · rename_i k w h1 h2
    obtain ⟨kk, h3, h4⟩ := Option.map_eq_some_iff.mp hd
    cases h4
    intro p hp
    have np : ∀ b o, H b = some o → b ≠ p := fun b o z y => by rw [y, hp] at z; cases z
    have Fp : F p = none := ok.le.nn hp
    let H1 : Hp := upd H p (.dK [])
    have ok1 : Ok K mg F H1 σ env S := ⟨fun b o z => by show upd H p _ b = _; rw [upd_ne (np b o (ok.le b o z))]; exact ok.le b o z, ok.st.frame (Le.refl _) fun x z => ⟨by obtain ⟨⟨o, z1⟩, _⟩ := ok.st.dom x z; exact upd_ne (np x o z1), (ok.st.dom x z).2⟩⟩
    refine ⟨F, env, S, _, ok1, h1, fun v R rv => ⟨F, env, S, _, ok1, h2, fun u R' ru => ⟨upd_same, [(kk, u)], ?_, by simp, ?_⟩⟩⟩
    · rw [rv.lf_inv.1, keyOf_some h3]; rfl
    · have eh : upd H1 p (.dK (mergeK [] [(kk, u)])) = upd H p (.dK [(kk, u)]) := by
        funext b
        by_cases hb : b = p
        · subst hb; rw [upd_same, upd_same]; rfl
        · rw [upd_ne hb, upd_ne hb]; exact upd_ne hb
      show Q (.ref p) (upd H1 p (.dK (mergeK [] [(kk, u)])))
      rw [eh]
      have ru' : Rep K mg F (upd H p (.dK [(kk, u)])) u (.lf w) Emp := by rw [ru.lf_inv.1]; exact .lf ru.lf_inv.2.1 fun _ z => z
      refine q (.ref p) F _ S (fun x => x = p) ⟨Le.refl _, fun b o z _ => by rw [upd_ne (np b o z)]; exact z, fun _ _ z => .inl z, fun b z => z.elim .inl fun z => .inr (by rw [z]; exact hp)⟩
        ⟨fun b o z => by rw [upd_ne (np b o (ok.le b o z))]; exact ok.le b o z, ok.st.frame (Le.refl _) fun x z => ⟨by obtain ⟨⟨o, z1⟩, _⟩ := ok.st.dom x z; exact upd_ne (np x o z1), (ok.st.dom x z).2⟩⟩
        (.own (o := .dK [(kk, u)]) (vs := [u]) (S0 := Emp) upd_same Fp ⟨rfl, rfl⟩ (.cons (S1 := Emp) (S2 := Emp) ru' (.nil fun _ z => z) dj_emp fun _ => ⟨.inl, fun z => z.elim id id⟩) (fun z => z) fun x => ⟨.inl, fun z => z.elim id fun z => z.elim⟩) fun x z y => ?_
      obtain ⟨⟨o, z1⟩, _⟩ := ok.st.dom x z
      exact np x o z1 y
  · cases hd
theorem lrg_imp {d : DE} {Q : VK} (h : tE K mg (dLRg d) σ H Q) : tLstRg (tRg1 (tR K mg d)) σ H Q := by
  obtain ⟨F, env, S, t, e, ok, hd, q⟩ := h
  unfold dLRg at hd
  split at hd
  · rename_i j e1 h1
    split at hd
    · rename_i hj
      cases hd
      refine ⟨F, env, S, _, e, ok, h1, fun v F1 H1 S1 R1 st ok1 r1 => ⟨j, r1.lf_inv.1, ⟨by omega, by omega, hj.1, by omega, by omega⟩, fun p hp => ?_⟩⟩
      have ev : rgV 0 j = ((List.range j.toNat).map fun (k : Nat) => (k : Int)).map V.int := by
        unfold rgV
        rw [List.map_map, Int.sub_zero]
        exact List.map_congr_left fun k _ => by simp
      have et : ((List.range j.toNat).map fun (k : Nat) => lfI k) = ((List.range j.toNat).map fun (k : Nat) => (k : Int)).map lfI := by rw [List.map_map]; rfl
      rw [ev]
      obtain ⟨g1, g2, g3⟩ := new_one (K := K) (mg := mg) (k := .lst) (o := .lst (((List.range j.toNat).map fun (k : Nat) => (k : Int)).map V.int)) ok1.le hp rfl (ints_reps ((List.range j.toNat).map fun (k : Nat) => (k : Int)))
      rw [← et] at g3
      obtain ⟨z1, z2, z3⟩ := fin_new st ok1 g1 g2
      exact q _ _ _ _ _ z1 z2 g3 z3
    · cases hd
  · cases hd
end
section
variable {X : Cx} {k v e : Expr} {pos p p2 pos2 : Pos} {dk dv : DV} {d : DE}
theorem se_dic1 (hk : SV X k dk) (hv : SV X v dv) : SE X (.Dict [some k] [v] pos) (dDic1 dk dv) := pew (pe_disp (pps_cons hk hv pps_nil) rfl rfl (by simp) (by simp)) fun _ _ _ => dic1_imp
theorem se_lrg (hc : X.calm = true) (hgl : Gl X "list") (hml : X.mg "list" = none) (hg : Gl X "range") (hm : X.mg "range" = none) (he : SR X e d) (na : starEach [e] X.env = (false, eval e X.env) :: starEach [] X.env := by rfl)
    (nb : starEach [.Call (.Name "range" p2) [e] [] pos2] X.env = (false, eval (.Call (.Name "range" p2) [e] [] pos2) X.env) :: starEach [] X.env := by rfl) :
    SE X (.Call (.Name "list" p) [.Call (.Name "range" p2) [e] [] pos2] [] pos) (dLRg d) := pew (pe_listRg hc hgl hml (prg_1 hg hm he na) nb) fun _ _ _ => lrg_imp
end
section
variable {X : Cx} {e : Expr} {x : Str} {id : String} {p pos : Pos} {de : DE} {r : List V → Hp → VK → Prop} {o : T → Option T}
theorem sr_t1 (hc : CallR X (.type id) r) (hv : Op1V X.K X.mg (fun x H Q => r [x] H Q) o) (hb : bootBuiltins x = some (.type id)) (hg : Gl X x) (hm : X.mg x = none) (ha : SR X e de) (hn : x ≠ "__name__" := by decide) (hdb : (x == ("__debug__" : Str)) = false := by decide)
    (hs : starEach (e :: []) X.env = (false, eval e X.env) :: starEach [] X.env := by rfl) : SR X (.Call (.Name x p) [e] [] pos) (o1 o de) := pew (pe_callTy hc hg hm hb (pa_cons ha pa_nil hs) hn hdb (he := hs)) fun _ _ _ h => i1R hv h
end
section
variable {X : Cx} {x : Str} {i : Nat} {b : Expr} {px pos : Pos} {db : DE}
theorem sr_ixn (hu : X.A.units + 1 < cLine) (hb : SR X b db) (hs : PlainIx b := by exact fun _ _ => rfl) (hN : X.N[i]? = some x := by rfl) (hvis : Vis X.env.scope x := by first | exact Or.inl rfl | exact Or.inr (Or.inl rfl) | exact Or.inr (Or.inr rfl)) (hd : (x == ("__debug__" : Str)) = false := by decide) (hcd : (x == ("__classdict__" : Str)) = false := by decide) :
    SR X (.Subscript (.Name x px) b pos) (o2n oIx i db) := pew (pe_ix (ix_all hu) (pe_var hN hvis hd hcd) hb hs) fun _ _ _ => i2n v_ix
end
end Tr


set_option Elab.async false
set_option linter.all false
set_option maxRecDepth 100000
set_option maxHeartbeats 4000000
/-! M1: reckoning with mirrors. -/
namespace Tr
open PySem PySem.Spec PyProof.Rows L2

abbrev I (i : Int) : T := .lf (.int i)
abbrev B (b : Bool) : T := .lf (.bl b)
abbrev N : T := .lf .non
theorem lfI_eq (i : Int) : lfI i = .lf (.int i) := rfl
/-- a list of li -/
def li (o : Bool) (xs : List Int) : T := .nd o .lst (xs.map lfI)
/-- a list of lists of li, all owned or none -/
def ll (o : Bool) (xs : List (List Int)) : T := .nd o .lst (xs.map (li o))
theorem ints_eq (o : Bool) (xs : List Int) : li o xs = .nd o .lst (xs.map lfI) := rfl
theorem rows_eq (o : Bool) (xs : List (List Int)) : ll o xs = .nd o .lst (xs.map (li o)) := rfl
theorem scrT_eq (ns : List Int) : scrT ns = .nd false .rol (ns.map lfI) := rfl

/-! ### frozen, clean -/
theorem frzs_ints (xs : List Int) : frzs (xs.map lfI) = xs.map lfI := by
  rw [frzs_map, List.map_map]; rfl
theorem frz_li (o : Bool) (xs : List Int) : frz (li o xs) = li false xs := by
  unfold li; rw [frz, frzs_ints]
theorem frzs_ll (o : Bool) (xs : List (List Int)) : frzs (xs.map (li o)) = xs.map (li false) := by
  rw [frzs_map, List.map_map]
  exact List.map_congr_left fun x _ => frz_li o x
theorem frz_ll (o : Bool) (xs : List (List Int)) : frz (ll o xs) = ll false xs := by
  unfold ll; rw [frz, frzs_ll]
theorem frz_lf (v : V) : frz (.lf v) = .lf v := by rw [frz]
theorem frz_no : frz .no = .no := by rw [frz]
theorem frz_scr (ns : List Int) : frz (scrT ns) = scrT ns := by unfold scrT; rw [frz, frzs_ints]
theorem cln_lf (v : V) : cln (.lf v) = true := by rw [cln]
theorem cln_no : cln .no = true := by rw [cln]
theorem cln_li (xs : List Int) : cln (li false xs) = true := by unfold li; rw [cln, clns_ints]; rfl
theorem cln_ll (xs : List (List Int)) : cln (ll false xs) = true := by
  rw [← frz_ll true]; exact cln_frz _
theorem clns_ll (xs : List (List Int)) : clns (xs.map (li false)) = true := by
  rw [← frzs_ll true]; exact clns_frz _
theorem cln_scr (ns : List Int) : cln (scrT ns) = true := by unfold scrT; rw [cln, clns_ints]; rfl

/-! ### loops -/
theorem dFr_inv {dg : DG} {d : DS} : ∀ (its : List T) (Iv : Nat → List T → Prop) (env : List T), Iv 0 env →
    (∀ i t env, its[i]? = some t → Iv i env → ∃ e e', dg t env = some e ∧ (d e = some (.nx, e') ∨ d e = some (.ct, e')) ∧ Iv (i + 1) e') → ∃ env', dFr dg d its env = some (.nx, env') ∧ Iv its.length env'
  | [], Iv, env, h0, _ => ⟨env, rfl, h0⟩
  | t :: ts, Iv, env, h0, hs => by
    obtain ⟨e, e', h1, h2, h3⟩ := hs 0 t env rfl h0
    obtain ⟨env', h4, h5⟩ := dFr_inv ts (fun i => Iv (i + 1)) e' h3 fun i u env hu => hs (i + 1) u env (by simpa using hu)
    refine ⟨env', ?_, h5⟩
    rw [dFr]
    simp only [h1]
    rcases h2 with h2 | h2 <;> simp only [h2] <;> exact h4
theorem dLr_run {dg : DG} {dc de : DE} {vs : List Nat} (env : List T) (p : T → Bool) (f : T → T) : ∀ (its acc : List T), acc.length + its.length ≤ sizeLine →
    (∀ t ∈ its, ∃ e e1, dg t env = some e ∧ dc e = some (.lf (.bl (p t)), e1) ∧ (p t = true → ∃ e2, de e1 = some (f t, e2) ∧ wipeT e2 vs = env) ∧ (p t = false → wipeT e1 vs = env)) →
    dLr dg dc de vs its acc env = some (acc ++ (its.filter p).map f, env)
  | [], acc, _, _ => by rw [dLr]; simp
  | t :: ts, acc, hl, hs => by
    obtain ⟨e, e1, h1, h2, h3, h4⟩ := hs t (List.mem_cons_self ..)
    have hl' : acc.length + (ts.length + 1) ≤ sizeLine := by simpa using hl
    rw [dLr, h1, Option.bind_some]
    cases hp : p t with
    | true =>
      obtain ⟨e2, h5, h6⟩ := h3 hp
      rw [hp] at h2
      have hlt : acc.length < sizeLine := by omega
      simp only [h2, h5, Option.bind_some, hlt, if_true, h6]
      rw [dLr_run env p f ts (acc ++ [f t]) (by simp; omega) fun u hu => hs u (List.mem_cons_of_mem _ hu)]
      simp [hp]
    | false =>
      rw [hp] at h2
      simp only [h2, h4 hp]
      rw [dLr_run env p f ts acc (by omega) fun u hu => hs u (List.mem_cons_of_mem _ hu)]
      simp [hp]
/-- a small number is within the line -/
theorem small {n : Nat} (h : n ≤ 1000) : n < sizeLine := small1000 h

/-! ### data -/
theorem toDs_ints (xs : List Int) : toDs (xs.map lfI) = some (xs.map .int) := by
  induction xs with
  | nil => rfl
  | cons x xs ih => rw [List.map_cons, toDs, ih]; rfl
theorem toD_li (o : Bool) (xs : List Int) : toD (li o xs) = some (.list (xs.map .int)) := by
  unfold li; rw [toD, toDs_ints]; rfl
theorem canLay_ints (xs : List Int) : PyData.canLayAll0 (xs.map PyData.int) = true := by
  induction xs with
  | nil => rw [List.map_nil, PyData.canLayAll0]
  | cons x xs ih => rw [List.map_cons, PyData.canLayAll0, ih]; simp [PyData.canLay0]
theorem depth_ints (xs : List Int) : PyData.depthAll (xs.map PyData.int) = 0 := by
  induction xs with
  | nil => rw [List.map_nil, PyData.depthAll]
  | cons x xs ih => rw [List.map_cons, PyData.depthAll, ih]; simp [PyData.depth]
theorem shaped_ints (xs : List Int) : SeqAt.shaped (.list (xs.map .int)) = true := by
  unfold SeqAt.shaped
  rw [PyData.canLay0, canLay_ints, PyData.depth, depth_ints]
  decide
theorem eqvAll_ints : ∀ xs ys : List Int, PyData.eqvAll (xs.map .int) (ys.map .int) = decide (xs = ys)
  | [], [] => by simp [PyData.eqvAll]
  | [], y :: ys => by simp [PyData.eqvAll]
  | x :: xs, [] => by simp [PyData.eqvAll]
  | x :: xs, y :: ys => by
    rw [List.map_cons, List.map_cons, PyData.eqvAll, eqvAll_ints xs ys, PyData.eqv]
    by_cases h1 : x = y <;> by_cases h2 : xs = ys <;> simp [h1, h2]
theorem oEq_li (o o' : Bool) (xs ys : List Int) : oEq (li o xs) (li o' ys) = some (B (decide (xs = ys))) := by
  unfold oEq
  rw [toD_li, toD_li]
  simp only [Option.bind_some, shaped_ints, and_self, if_true, PyData.eqv, eqvAll_ints]
theorem oNe_li (o o' : Bool) (xs ys : List Int) : oNe (li o xs) (li o' ys) = some (B (!decide (xs = ys))) := by
  unfold oNe
  rw [toD_li, toD_li]
  simp only [Option.bind_some, shaped_ints, and_self, if_true, PyData.eqv, eqvAll_ints]
theorem shaped_int (i : Int) : SeqAt.shaped (.int i) = true := by
  unfold SeqAt.shaped
  rw [PyData.canLay0, PyData.depth]
  decide
theorem oEq_int (i j : Int) : oEq (I i) (I j) = some (B (decide (i = j))) := by
  unfold oEq
  simp only [toD, Option.bind_some, shaped_int, and_self, if_true, PyData.eqv]
  by_cases h : i = j <;> simp [h]
theorem oNe_int (i j : Int) : oNe (I i) (I j) = some (B (!decide (i = j))) := by
  unfold oNe
  simp only [toD, Option.bind_some, shaped_int, and_self, if_true, PyData.eqv]
  by_cases h : i = j <;> simp [h]
theorem oEq_nil (o o' : Bool) (xs : List Int) : oEq (li o xs) (.nd o' .lst []) = some (B (decide (xs = []))) := oEq_li o o' xs []
theorem all_flT (xs : List Int) : (xs.map lfI).all flT = true := by
  rw [List.all_map, List.all_eq_true]; intro x _; rfl
theorem any_eqT (x : Int) (xs : List Int) : (xs.map lfI).any (eqT (.int x)) = decide (x ∈ xs) := by
  induction xs with
  | nil => rfl
  | cons y ys ih =>
    rw [List.map_cons, List.any_cons, ih]
    show ((y == x) || decide (x ∈ ys)) = decide (x ∈ y :: ys)
    by_cases h : y = x
    · subst h; simp
    · have : ¬ x = y := fun e => h e.symm
      have h' : (y == x) = false := by simpa using h
      rw [h']
      simp [this]
theorem inB_li (x : Int) (o : Bool) (xs : List Int) : inB (I x) (li o xs) = some (decide (x ∈ xs)) := by
  show (if flatV (V.int x) = true ∧ (xs.map lfI).all flT = true then some ((xs.map lfI).any (eqT (.int x))) else none) = _
  rw [any_eqT, all_flT]
  simp [flatV]
theorem oIn_li (x : Int) (o : Bool) (xs : List Int) : oIn (I x) (li o xs) = some (B (decide (x ∈ xs))) := by unfold oIn; rw [inB_li]; rfl
theorem oNotIn_li (x : Int) (o : Bool) (xs : List Int) : oNotIn (I x) (li o xs) = some (B (!decide (x ∈ xs))) := by unfold oNotIn; rw [inB_li]; rfl
theorem oLen_li (o : Bool) (xs : List Int) : oLen (li o xs) = some (I xs.length) := by unfold li oLen; simp
theorem oLen_ll (o : Bool) (xs : List (List Int)) : oLen (ll o xs) = some (I xs.length) := by unfold ll oLen; simp
theorem oLen_scr (ns : List Int) : oLen (scrT ns) = some (I ns.length) := by unfold scrT oLen; simp
theorem atI_of {α : Type} {xs : List α} {i : Int} (h0 : 0 ≤ i) (h : i.toNat < xs.length) : atI xs i = xs[i.toNat]? := by
  have e : i = (i.toNat : Int) := by omega
  rw [e]
  simp only [Int.toNat_natCast]
  rw [List.getElem?_eq_getElem h]
  exact atI_nat (List.getElem?_eq_getElem h)
theorem oIx_li (o : Bool) (xs : List Int) (i : Int) (h0 : 0 ≤ i) (h : i.toNat < xs.length) : oIx (li o xs) (I i) = some (I xs[i.toNat]) := by
  unfold li oIx
  show atI (xs.map lfI) i = _
  rw [atI_of h0 (by simpa using h)]
  simp [h, lfI]
theorem oIx_ll (o : Bool) (xs : List (List Int)) (i : Int) (h0 : 0 ≤ i) (h : i.toNat < xs.length) : oIx (ll o xs) (I i) = some (li o xs[i.toNat]) := by
  unfold ll oIx
  show atI (xs.map (li o)) i = _
  rw [atI_of h0 (by simpa using h)]
  simp [h]
theorem oIx_scr (ns : List Int) (i : Int) (h0 : 0 ≤ i) (h : i.toNat < ns.length) : oIx (scrT ns) (I i) = some (I ns[i.toNat]) := by
  unfold scrT oIx
  show atI (ns.map lfI) i = _
  rw [atI_of h0 (by simpa using h)]
  simp [h, lfI]
/-! ### a dict of li, filled -/
def dkT (ks : List Int) : T := .nd true (.dK (ks.map Sum.inl)) (ks.map fun _ => B true)
theorem hasK_ints (ks : List Int) (k : Int) : hasK (ks.map Sum.inl) (Sum.inl k) = decide (k ∈ ks) := by
  unfold hasK
  rw [List.any_map]
  induction ks with
  | nil => rfl
  | cons a ks ih =>
    rw [List.any_cons, ih]
    by_cases h : a = k
    · subst h; simp
    · have : ¬ k = a := fun e => h e.symm
      simp [h, this]
theorem nodupK_ints : ∀ ks : List Int, ks.Nodup → nodupK (ks.map Sum.inl) = true
  | [], _ => rfl
  | a :: ks, h => by
    have h' := List.nodup_cons.mp h
    rw [List.map_cons, nodupK, hasK_ints, nodupK_ints ks h'.2]
    simp [h'.1]
theorem putKT_new {k : Int} {t : T} : ∀ (ks : List Int) (xs : List T), k ∉ ks → ks.length = xs.length → putKT (ks.map Sum.inl) xs (Sum.inl k) t = (ks.map Sum.inl ++ [Sum.inl k], xs ++ [t])
  | [], [], _, _ => rfl
  | [], _ :: _, _, h => by simp at h
  | _ :: _, [], _, h => by simp at h
  | a :: ks, x :: xs, h, hl => by
    have h1 : ¬ (Sum.inl a : Key) = Sum.inl k := fun e => h (by rw [Sum.inl.inj e]; exact List.mem_cons_self ..)
    rw [List.map_cons, putKT, if_neg h1, putKT_new ks xs (fun e => h (List.mem_cons_of_mem _ e)) (by simpa using hl)]
    rfl
theorem mSetD_new (ks : List Int) (k : Int) (nd : ks.Nodup) (h : k ∉ ks) (hl : ks.length < sizeLine) : mSetD (.int k) (dkT ks) [B true] = some (N, dkT (ks ++ [k])) := by
  unfold dkT mSetD
  simp only [keyOf, Option.bind_some, List.length_map, hl, nodupK_ints ks nd, and_self, if_true]
  rw [putKT_new ks _ h (by simp)]
  simp
theorem oIn_dk (x : Int) (ks : List Int) : oIn (I x) (dkT ks) = some (B (decide (x ∈ ks))) := by
  unfold dkT oIn inB
  simp only [keyOf, Option.map_some, hasK_ints]

/-! ### one step each -/
section
variable {env e e1 e2 : List T} {x y t u : T} {o : T → T → Option T} {o1' : T → Option T} {va vb : DV} {da db : DE} {d : DE} {f : FT} {i : Nat} {ts ts' : List T} {a b : DS} {r : Fl × List T}
theorem E_V (h : env[i]? = some t) (hn : t ≠ .no) : gV i env = some t := by
  unfold gV
  rw [h]
  cases t with
  | no => exact (hn rfl).elim
  | lf v => rfl
  | nd o k xs => rfl
theorem E_2V (h1 : va env = some x) (h2 : vb env = some y) (h3 : o x y = some u) : o2V o va vb env = some u := by simp [o2V, h1, h2, h3]
theorem E_1V (h1 : va env = some x) (h3 : o1' x = some u) : o1V o1' va env = some u := by simp [o1V, h1, h3]
theorem E_vr (h1 : va env = some x) : vr va env = some (x, env) := by simp [vr, h1]
theorem E_re (h1 : d env = some (x, e)) (c : cln x = true) : re d env = some (x, e) := by simp [re, h1, c]
theorem E_1 (h1 : d env = some (x, e)) (h3 : o1' x = some u) : o1 o1' d env = some (u, e) := by simp [o1, h1, h3]
theorem E_2v (h1 : da env = some (x, e)) (h2 : vb e = some y) (h3 : o x y = some u) : o2v o da vb env = some (u, e) := by simp [o2v, h1, h2, h3]
theorem E_2c (h1 : da env = some (x, e1)) (h2 : db e1 = some (y, e)) (c : cln x = true) (h3 : o x y = some u) : o2c o da db env = some (u, e) := by simp [o2c, h1, h2, h3, c]
theorem E_2o (h1 : da env = some (x, e1)) (h2 : db e1 = some (y, e)) (h3 : o x y = some u) : o2o o da db env = some (u, e) := by simp [o2o, h1, h2, h3]
theorem E_2n (h0 : gV i env = some t) (h1 : db env = some (y, e)) (h2 : gV i e = some x) (h3 : o x y = some u) : o2n o i db env = some (u, e) := by simp [o2n, h0, h1, h2, h3]
theorem E_S (h : gV i env = some t) (hf : frz t = u) (he : env.set i u = e) : gS i env = some (u, e) := by simp [gS, h, hf, he]
theorem E_M (h : gV i env = some t) (he : env.set i .no = e) : gM i env = some (t, e) := by simp [gM, h, he]
theorem E_cons {dr : DA} (h1 : d env = some (t, e1)) (h2 : dr e1 = some (ts, e)) : aCons d dr env = some (t :: ts, e) := by simp [aCons, h1, h2]
theorem E_call {bs : List (Option Nat)} {dv : List V} {dr : DA} (h1 : dr env = some (ts, e1)) (h2 : f (ts ++ dv.map .lf) = some (t, ts')) (h3 : wb bs ts' e1 = some e) : dCall f bs dv dr env = some (t, e) := by simp [dCall, h1, h2, h3]
theorem E_seq (h : a env = some (.nx, e)) : dSeq a b env = b e := by simp [dSeq, h]
theorem E_seqR {t : T} (h : a env = some (.rt t, e)) : dSeq a b env = some (.rt t, e) := by simp [dSeq, h]
theorem E_ifT {c : DE} (h : c env = some (.lf (.bl true), e)) : dIf c a b env = a e := by simp [dIf, h]
theorem E_ifF {c : DE} (h : c env = some (.lf (.bl false), e)) : dIf c a b env = b e := by simp [dIf, h]
theorem E_set (h : d env = some (t, e)) (hi : i < e.length) (he : e.set i t = e1) : dSet i d env = some (.nx, e1) := by simp [dSet, h, hi, he]
theorem E_ret (h : d env = some (t, e)) : dRet d env = some (.rt t, e) := by simp [dRet, h]
theorem E_ex (h : d env = some (t, e)) : dEx d env = some (.nx, e) := by simp [dEx, h]
theorem E_fz (h : env[i]? = some t) (hf : frz t = u) (he : env.set i u = e) : fz i d env = d e := by simp [fz, h, hf, he]
theorem E_lst {dr : DA} (h : dr env = some (ts, e)) (hl : ts.length ≤ sizeLine) : dLst dr env = some (.nd true .lst ts, e) := by simp [dLst, h, hl]
theorem E_tup {dr : DA} (h : dr env = some (ts, e)) (hl : ts.length ≤ sizeLine) : dTup dr env = some (.nd false .tup ts, e) := by simp [dTup, h, hl]
theorem E_orT {da db : DE} (h : da env = some (.lf (.bl true), e)) : dOr da db env = some (.lf (.bl true), e) := by simp [dOr, h]
theorem E_orF {da db : DE} (h : da env = some (.lf (.bl false), e)) : dOr da db env = db e := by simp [dOr, h]
theorem E_andT {da db : DE} (h : da env = some (.lf (.bl true), e)) : dAnd da db env = db e := by simp [dAnd, h]
theorem E_andF {da db : DE} (h : da env = some (.lf (.bl false), e)) : dAnd da db env = some (.lf (.bl false), e) := by simp [dAnd, h]
theorem E_mut {ty : String} {op : T → List T → Option (T × T)} {dr : DA} {t0 t1 : T} (h0 : gV i env = some t0) (hy : isTy ty t0 = true) (h1 : dr env = some (ts, e1)) (h2 : gV i e1 = some t1) (h3 : op t1 ts = some (x, y)) (he : e1.set i y = e2) : dMut ty i op dr env = some (x, e2) := by
  simp [dMut, h0, hy, h1, h2, h3, he]
theorem E_put {mk : V → T → List T → Option (T × T)} {dk : DV} {k : V} (h1 : d env = some (t, e)) (h2 : gV i e = some x) (h3 : dk e = some (.lf k)) (h4 : mk k x [t] = some (y, u)) (he : e.set i u = e1) : dPut i mk d dk env = some (.nx, e1) := by simp [dPut, h1, h2, h3, h4, he]
theorem E_for {di : DI} {dg : DG} {its : List T} (h1 : di env = some (its, e)) : dFor di dg a env = dFr dg a its e := by simp [dFor, h1]
theorem E_rng {j : Int} (h1 : d env = some (.lf (.int j), e)) (h : -(2 ^ 62) ≤ j ∧ j < 2 ^ 62) : dRng d env = some ((List.range j.toNat).map fun (k : Nat) => lfI k, e) := by simp only [dRng, h1]; rw [if_pos h]
theorem E_it {g : T → Option (List T)} {its : List T} (h1 : d env = some (t, e)) (h2 : g t = some its) : dIt g d env = some (its, e) := by simp [dIt, h1, h2]
theorem E_lc {di : DI} {dg : DG} {dc de : DE} {vs : List Nat} {its acc : List T} (h1 : di env = some (its, e1)) (h2 : cleanAt e1 vs = true) (h3 : dLr dg dc de vs its [] (wipeT e1 vs) = some (acc, e2)) (ha : .nd true .lst acc = t) (he : backT e1 e2 vs = e) : dLc di dg dc de vs env = some (t, e) := by
  subst ha he
  simp [dLc, h1, h2, h3]
end
theorem E_fun {keep : List Bool} {n : Nat} {d : DS} {ts e us : List T} {t : T} (hl : ts.length = keep.length) (h : d (ts ++ List.replicate (n - keep.length) .no) = some (.rt t, e)) (ho : outs keep e = us) : dFun keep n d ts = some (t, us) := by
  unfold dFun
  rw [if_pos hl, h]
  simp [ho]
theorem E_fun0 {keep : List Bool} {n : Nat} {d : DS} {ts e us : List T} (hl : ts.length = keep.length) (h : d (ts ++ List.replicate (n - keep.length) .no) = some (.nx, e)) (ho : outs keep e = us) : dFun keep n d ts = some (.lf .non, us) := by
  unfold dFun
  rw [if_pos hl, h]
  simp [ho]
theorem I_add (i j : Int) : oAdd (I i) (I j) = some (I (i + j)) := rfl
theorem I_sub (i j : Int) : oSub (I i) (I j) = some (I (i - j)) := by simp [oSub, oI]
theorem I_mul {i j : Int} (h : -(2 ^ 64) < j ∧ j < 2 ^ 64) : oMul (I i) (I j) = some (I (i * j)) := by
  unfold oMul oI
  simp only [Bool.or_eq_true, Bool.and_eq_true, decide_eq_true_eq]
  rw [if_pos (.inr h)]
theorem I_mod {i j : Int} (h : 0 < j) : oMod (I i) (I j) = some (I (i % j)) := by simp [oMod, oI, h]
theorem I_div {i j : Int} (h : 0 < j ∧ j < 1073741824) : oDiv (I i) (I j) = some (I (i / j)) := by simp [oDiv, oI, h]
theorem I_lt (i j : Int) : oLt (I i) (I j) = some (B (decide (i < j))) := by simp [oLt, oI]
theorem I_ge (i j : Int) : oGe (I i) (I j) = some (B (decide (j ≤ i))) := by simp [oGe, oI]
theorem I_gt (i j : Int) : oGt (I i) (I j) = some (B (decide (j < i))) := by simp [oGt, oI]
end Tr


set_option Elab.async false
set_option linter.all false
set_option maxRecDepth 100000
set_option maxHeartbeats 4000000
/-! M2: more trees: dicts of keys, marks, machines. -/
namespace Tr
open PySem PySem.Spec PyProof.Rows L2

theorem E_bw {d : DE} {env e : List T} {t : T} (h : d (frzs env) = some (t, e)) (p : pureT t = true) : bw d env = some (t, env) := by
  unfold bw
  rw [h]
  simp [p]
theorem pure_lf (v : V) : pureT (.lf v) = true := by rw [pureT]
theorem pureTs_of {ts : List T} (h : ∀ t ∈ ts, pureT t = true) : pureTs ts = true := by
  induction ts with
  | nil => rw [pureTs]
  | cons t ts ih =>
    rw [pureTs, h t (List.mem_cons_self ..), ih fun u hu => h u (List.mem_cons_of_mem _ hu)]
    rfl
theorem pure_li (xs : List Int) : pureT (li true xs) = true := by
  unfold li
  rw [pureT, pureTs_of]
  · rfl
  · intro t ht
    obtain ⟨x, _, rfl⟩ := List.mem_map.mp ht
    exact pure_lf _
theorem pure_ll (xs : List (List Int)) : pureT (ll true xs) = true := by
  unfold ll
  rw [pureT, pureTs_of]
  · rfl
  · intro t ht
    obtain ⟨x, _, rfl⟩ := List.mem_map.mp ht
    exact pure_li _
/-! ### dicts of keys -/
def dk (o : Bool) (ks : List Key) : T := .nd o (.dK ks) (ks.map fun _ => B true)
theorem hasK_iff (ks : List Key) (k : Key) : hasK ks k = true ↔ k ∈ ks := by
  unfold hasK
  rw [List.any_eq_true]
  constructor
  · rintro ⟨x, h1, h2⟩
    have : x = k := by simpa using h2
    rw [← this]; exact h1
  · exact fun h => ⟨k, h, by simp⟩
theorem nodupK_iff : ∀ {ks : List Key}, ks.Nodup → nodupK ks = true
  | [], _ => rfl
  | a :: ks, h => by
    have h' := List.nodup_cons.mp h
    have : hasK ks a = false := by
      cases e : hasK ks a with
      | false => rfl
      | true => exact (h'.1 ((hasK_iff _ _).mp e)).elim
    rw [nodupK, this, nodupK_iff h'.2]
    rfl
theorem putKT_last {k : Key} {t : T} : ∀ (ks : List Key) (xs : List T), k ∉ ks → ks.length = xs.length → putKT ks xs k t = (ks ++ [k], xs ++ [t])
  | [], [], _, _ => rfl
  | [], _ :: _, _, h => by simp at h
  | _ :: _, [], _, h => by simp at h
  | a :: ks, x :: xs, h, hl => by
    have h1 : ¬ a = k := fun e => h (by rw [e]; exact List.mem_cons_self ..)
    rw [putKT, if_neg h1, putKT_last ks xs (fun e => h (List.mem_cons_of_mem _ e)) (by simpa using hl)]
    rfl
theorem dk_put (ks : List Key) (k : Key) {v : V} (hv : keyOf v = some k) (nd : ks.Nodup) (h : k ∉ ks) (hl : ks.length < sizeLine) : mSetD v (dk true ks) [B true] = some (N, dk true (ks ++ [k])) := by
  unfold dk mSetD
  simp only [hv, Option.bind_some, hl, nodupK_iff nd, and_self, if_true]
  rw [putKT_last ks _ h (by simp)]
  simp
theorem dk_in (o : Bool) (ks : List Key) (k : Key) {v : V} (hv : keyOf v = some k) : oIn (.lf v) (dk o ks) = some (B (hasK ks k)) := by
  unfold dk oIn inB
  simp only [hv, Option.map_some]
theorem frz_dk (o : Bool) (ks : List Key) : frz (dk o ks) = dk false ks := by
  unfold dk
  rw [frz, frzs_map, List.map_map]
  rfl
theorem pure_dk (ks : List Key) : pureT (dk true ks) = true := by
  unfold dk
  rw [pureT, pureTs_of]
  · rfl
  · intro t ht
    obtain ⟨x, _, rfl⟩ := List.mem_map.mp ht
    exact pure_lf _
abbrev kI (xs : List Int) : List Key := xs.map Sum.inl
theorem kI_mem {x : Int} {xs : List Int} : (Sum.inl x : Key) ∈ kI xs ↔ x ∈ xs := by
  constructor
  · intro h
    obtain ⟨y, h1, h2⟩ := List.mem_map.mp h
    cases h2
    exact h1
  · exact fun h => List.mem_map.mpr ⟨x, h, rfl⟩
theorem kI_nd {xs : List Int} (h : xs.Nodup) : (kI xs).Nodup := List.pairwise_map.mpr (h.imp fun h e => h (Sum.inl.inj e))
theorem dkI_put (xs : List Int) (x : Int) (nd : xs.Nodup) (h : x ∉ xs) (hl : xs.length < sizeLine) : mSetD (.int x) (dk true (kI xs)) [B true] = some (N, dk true (kI (xs ++ [x]))) := by
  rw [dk_put (kI xs) (Sum.inl x) rfl (kI_nd nd) (fun e => h (kI_mem.mp e)) (by simpa using hl)]
  simp [kI]
theorem dkI_in (o : Bool) (xs : List Int) (x : Int) : oIn (I x) (dk o (kI xs)) = some (B (decide (x ∈ xs))) := by
  rw [dk_in o (kI xs) (Sum.inl x) rfl]
  congr 3
  rw [Bool.eq_iff_iff, hasK_iff, kI_mem, decide_eq_true_iff]
theorem dk_len (o : Bool) (ks : List Key) : oLen (dk o ks) = some (I ks.length) := by
  unfold dk oLen
  simp
/-! ### machines -/
def mk1 (o : Bool) (m : Str × List Int) : T := .nd false .tup [.lf (.str m.1), li o m.2]
def mks (o : Bool) (ms : List (Str × List Int)) : T := .nd o .lst (ms.map (mk1 o))
theorem frz_mk1 (o : Bool) (m : Str × List Int) : frz (mk1 o m) = mk1 false m := by
  unfold mk1
  rw [frz, frzs, frzs, frzs, frz_lf, frz_li]
theorem frzs_mks (o : Bool) (ms : List (Str × List Int)) : frzs (ms.map (mk1 o)) = ms.map (mk1 false) := by
  rw [frzs_map, List.map_map]
  exact List.map_congr_left fun x _ => frz_mk1 o x
theorem frz_mks (o : Bool) (ms : List (Str × List Int)) : frz (mks o ms) = mks false ms := by
  unfold mks; rw [frz, frzs_mks]
def mch (o : Bool) (rs : List (List Int)) (ms : List (Str × List Int)) (fs : List (List Int)) : T := .nd o (.ins "Machine" ["steps", "marks", "fair"]) [ll o rs, mks o ms, ll o fs]
theorem frz_mch (o : Bool) (rs : List (List Int)) (ms : List (Str × List Int)) (fs : List (List Int)) : frz (mch o rs ms fs) = mch false rs ms fs := by
  unfold mch
  rw [frz, frzs, frzs, frzs, frzs, frz_ll, frz_mks, frz_ll]
theorem fld_steps (o : Bool) (rs ms fs) : oFld "Machine" "steps" (mch o rs ms fs) = some (ll o rs) := by simp [oFld, mch, getF]
theorem n_sm : ¬ ("steps" : Str) = "marks" := by decide +kernel
theorem n_sf : ¬ ("steps" : Str) = "fair" := by decide +kernel
theorem n_mf : ¬ ("marks" : Str) = "fair" := by decide +kernel
theorem fld_marks (o : Bool) (rs ms fs) : oFld "Machine" "marks" (mch o rs ms fs) = some (mks o ms) := by simp [oFld, mch, getF, n_sm]
theorem fld_fair (o : Bool) (rs ms fs) : oFld "Machine" "fair" (mch o rs ms fs) = some (ll o fs) := by simp [oFld, mch, getF, n_sf, n_mf]
theorem isIns_mch {m : Str} (o : Bool) (rs ms fs) (h : ¬ ("steps" : Str) = m ∧ ¬ ("marks" : Str) = m ∧ ¬ ("fair" : Str) = m) : isIns "Machine" m (mch o rs ms fs) = true := by
  simp [isIns, mch, h]
/-- a list of stands -/
structure Okl (n : Nat) (r : List Int) : Prop where
  nd : r.Nodup
  le : r.length ≤ 60
  bd : ∀ x ∈ r, 0 ≤ x ∧ x < n
theorem items_li (o : Bool) (xs : List Int) : itemsL (li o xs) = some (xs.map lfI) := by
  show some (frzs (xs.map lfI)) = _
  rw [frzs_ints]
theorem items_ll (o : Bool) (xs : List (List Int)) : itemsL (ll o xs) = some (xs.map (li false)) := by
  show some (frzs (xs.map (li o))) = _
  rw [frzs_ll]
theorem items_mks (o : Bool) (ms : List (Str × List Int)) : itemsL (mks o ms) = some (ms.map (mk1 false)) := by
  show some (frzs (ms.map (mk1 o))) = _
  rw [frzs_mks]
theorem isi_int (x : Int) : oIsi "int" (I x) = some (B true) := by simp [oIsi, tyN, isiB]
theorem isi_bool (x : Int) : oIsi "bool" (I x) = some (B false) := by simp [oIsi, tyN, isiB]
theorem isi_list (o : Bool) (ts : List T) : oIsi "list" (.nd o .lst ts) = some (B true) := by simp [oIsi, tyN, isiB]
theorem oNot_b (b : Bool) : oNot (B b) = some (B (!b)) := rfl
theorem oList_li (o : Bool) (xs : List Int) : oList (li o xs) = some (li true xs) := by
  show (if clns (xs.map lfI) = true then some (T.nd true .lst (xs.map lfI)) else none) = _
  rw [clns_ints]
  rfl
theorem ap_li (xs : List Int) (x : Int) (h : xs.length ≤ 1000) : mAppend (li true xs) [I x] = some (N, li true (xs ++ [x])) := by
  unfold li mAppend
  have := small (n := xs.length) h
  simp [this, lfI]
theorem ap_ll (xs : List (List Int)) (x : List Int) (h : xs.length ≤ 1000) : mAppend (ll true xs) [li true x] = some (N, ll true (xs ++ [x])) := by
  unfold ll mAppend
  have := small (n := xs.length) h
  simp [this]
theorem ix_at (rs : List (List Int)) (o : Bool) (k : Nat) (h : k < rs.length) : oIx (ll o rs) (I k) = some (li o (rs.getD k [])) := by
  rw [oIx_ll o rs k (by omega) (by simpa using h)]
  simp [h]
theorem ix_last (o : Bool) (pre : List (List Int)) (s : List Int) : oIx (ll o (pre ++ [s])) (I (-1)) = some (li o s) := by
  show L2.atI ((pre ++ [s]).map (li o)) (-1) = _
  rw [List.map_append]
  exact atI_last _ _
theorem I_eq (i j : Int) : oEq (I i) (I j) = some (B (decide (i = j))) := oEq_int i j
theorem I_neg (i : Int) : oNeg (I i) = some (I (-i)) := by simp [oNeg, oI1]
/-- numbers that rise, all below -/
structure Asc (n : Nat) (r : List Int) : Prop where
  lt : r.Pairwise (· < ·)
  bd : ∀ x ∈ r, 0 ≤ x ∧ x < n
theorem Asc.nd {n : Nat} {r : List Int} (h : Asc n r) : r.Nodup := h.lt.imp fun h e => by omega
theorem sub_len {n : Nat} {r : List Int} (nd : r.Nodup) (bd : ∀ x ∈ r, 0 ≤ x ∧ x < n) : r.length ≤ n := by
  induction n generalizing r with
  | zero => cases r with
    | nil => simp
    | cons x r => have := bd x (List.mem_cons_self ..); omega
  | succ n ih =>
    have h1 := ih (r := r.erase (n : Int)) (nd.erase _) fun x hx => by
      have h2 := nd.mem_erase_iff.mp hx
      have h3 := bd x h2.2
      have := h2.1
      omega
    have h2 := List.length_erase (a := (n : Int)) (l := r)
    split at h2 <;> omega
theorem Asc.len {n : Nat} {r : List Int} (h : Asc n r) : r.length ≤ n := sub_len h.nd h.bd
theorem Asc.okl {n : Nat} {r : List Int} (h : Asc n r) (hn : n ≤ 60) : Okl n r := ⟨h.nd, Nat.le_trans h.len hn, h.bd⟩
theorem rng_map (n : Nat) : ((List.range n).map fun (k : Nat) => lfI k) = ((List.range n).map fun (k : Nat) => (k : Int)).map lfI := by
  rw [List.map_map]; rfl
theorem E_rngN {d : DE} {env e : List T} {n : Nat} (h : d env = some (I n, e)) (hn : n ≤ 1000) : dRng d env = some ((List.range n).map (fun (k : Nat) => lfI k), e) := by
  have := E_rng (d := d) (env := env) (e := e) (j := n) h (by omega)
  simpa using this
theorem rng_get {n i : Nat} {t : T} (h : ((List.range n).map fun (k : Nat) => lfI k)[i]? = some t) : i < n ∧ t = I i := by
  have hi : i < n := by
    have := (List.getElem?_eq_some_iff.mp h).1
    simpa using this
  rw [List.getElem?_map, List.getElem?_range hi] at h
  cases h
  exact ⟨hi, rfl⟩
theorem li_get {xs : List Int} {i : Nat} {t : T} (h : (xs.map lfI)[i]? = some t) : ∃ hi : i < xs.length, t = I xs[i] := by
  have hi : i < xs.length := by
    have := (List.getElem?_eq_some_iff.mp h).1
    simpa using this
  rw [List.getElem?_map, List.getElem?_eq_getElem hi] at h
  cases h
  exact ⟨hi, rfl⟩
theorem ll_get {xs : List (List Int)} {i : Nat} {t : T} (h : (xs.map (li false))[i]? = some t) : ∃ hi : i < xs.length, t = li false xs[i] := by
  have hi : i < xs.length := by
    have := (List.getElem?_eq_some_iff.mp h).1
    simpa using this
  rw [List.getElem?_map, List.getElem?_eq_getElem hi] at h
  cases h
  exact ⟨hi, rfl⟩
theorem mks_get {xs : List (Str × List Int)} {i : Nat} {t : T} (h : (xs.map (mk1 false))[i]? = some t) : ∃ hi : i < xs.length, t = mk1 false xs[i] := by
  have hi : i < xs.length := by
    have := (List.getElem?_eq_some_iff.mp h).1
    simpa using this
  rw [List.getElem?_map, List.getElem?_eq_getElem hi] at h
  cases h
  exact ⟨hi, rfl⟩
/-- [list(r) for r in ..], the items in a slot that nothing else uses -/
theorem copies (env : List T) (k : Nat) (hk : env[k]? = some .no) (rs : List (List Int)) (hn : rs.length ≤ 1000) : dLr (gN k) dYes (o1 oList (vr (gV k))) [k] (rs.map (li false)) [] (wipeT env [k]) = some (rs.map (li true), env) := by
  have hl : k < env.length := (List.getElem?_eq_some_iff.mp hk).1
  have hw : wipeT env [k] = env := by show env.set k .no = env; exact set_self' hk
  rw [hw]
  have r := dLr_run (dg := gN k) (dc := dYes) (de := o1 oList (vr (gV k))) (vs := [k]) env (fun _ => true) (fun t => match t with | .nd _ kk xs => .nd true kk xs | t => t) (rs.map (li false)) [] (by have := small (n := rs.length) (by omega); simp; omega) (by
    intro t ht
    obtain ⟨x, hx, rfl⟩ := List.mem_map.mp ht
    refine ⟨env.set k (li false x), env.set k (li false x), by unfold gN; rw [if_pos hl], rfl, fun _ => ⟨env.set k (li false x), ?_, ?_⟩, fun h => by cases h⟩
    · have g : gV k (env.set k (li false x)) = some (li false x) := E_V (by simp [hl]) (by unfold li; intro e; cases e)
      exact E_1 (E_vr g) (oList_li _ x)
    · show (env.set k (li false x)).set k .no = env
      rw [List.set_set]
      exact set_self' hk)
  rw [r]
  congr 2
  rw [List.nil_append, List.filter_eq_self.mpr (fun _ _ => rfl), List.map_map]
  rfl
theorem E_make {c : Str} {f : FT} {bs : List (Option Nat)} {dv : List V} {dr : DA} {env e e1 ts ts' : List T} {t : T} (h1 : dr env = some (ts, e1)) (h2 : f (.nd true (.ins c []) [] :: (ts ++ dv.map .lf)) = some (.lf .non, t :: ts')) (h3 : wb bs ts' e1 = some e) : dMake c f bs dv dr env = some (t, e) := by
  simp [dMake, h1, h2, h3]
theorem E_meth {c m : Str} {f : FT} {b0 : Option Nat} {bs : List (Option Nat)} {dv : List V} {d0 : DE} {dr : DA} {env e e0 e1 ts ts' : List T} {t t0 : T} (h0 : d0 env = some (t0, e0)) (hi : isIns c m t0 = true) (h1 : dr e0 = some (ts, e1)) (h2 : f (t0 :: (ts ++ dv.map .lf)) = some (t, ts')) (h3 : wb (b0 :: bs) ts' e1 = some e) :
    dMeth c m f b0 bs dv d0 dr env = some (t, e) := by
  simp [dMeth, dCall, h0, hi, h1, h2, h3]
/-! ### two lists in a tuple -/
def tp (o : Bool) (a b : List Int) : T := .nd false .tup [li o a, li o b]
theorem frz_tp (o : Bool) (a b : List Int) : frz (tp o a b) = tp false a b := by
  unfold tp; rw [frz, frzs, frzs, frzs, frz_li, frz_li]
theorem toD_tp (o o' : Bool) (a b : List Int) : toD (.nd false .tup [li o a, li o' b]) = some (.tuple [.list (a.map .int), .list (b.map .int)]) := by
  rw [toD, toDs, toDs, toDs, toD_li, toD_li]; rfl
theorem shaped_tp (a b : List Int) : SeqAt.shaped (.tuple [.list (a.map .int), .list (b.map .int)]) = true := by
  unfold SeqAt.shaped
  simp only [PyData.canLay0, PyData.canLayAll0, canLay_ints, PyData.depth, PyData.depthAll, depth_ints]
  decide
theorem oNe_tp (o o' o'' : Bool) (a b : List Int) : oNe (tp o a b) (.nd false .tup [li o' a, li o'' b]) = some (B false) := by
  unfold oNe tp
  rw [toD_tp, toD_tp]
  simp only [Option.bind_some, shaped_tp, and_self, if_true, PyData.eqv, PyData.eqvAll, eqvAll_ints]
  simp
end Tr


set_option Elab.async false
set_option linter.all false
set_option maxRecDepth 100000
set_option maxHeartbeats 4000000
/-! M3: loops that answer, sorted, rounds. -/
namespace Pm
open PySem PySem.Spec PyProof.Rows L2 Tr
/-- a loop that may answer -/
theorem dFr_find {dg : DG} {d : DS} (Iv : List T → Prop) (p : T → Bool) (r : T) : ∀ (its : List T) (env : List T), Iv env →
    (∀ t ∈ its, ∀ env, Iv env → ∃ e e', dg t env = some e ∧ d e = some (if p t = true then .rt r else .nx, e') ∧ Iv e') → ∃ e, Iv e ∧ dFr dg d its env = some (if its.any p = true then .rt r else .nx, e)
  | [], env, h0, _ => ⟨env, h0, rfl⟩
  | t :: ts, env, h0, hs => by
    obtain ⟨e, e', h1, h2, h3⟩ := hs t (List.mem_cons_self ..) env h0
    rw [dFr]
    simp only [h1]
    cases hp : p t with
    | true =>
      rw [hp] at h2
      simp only [h2, if_true]
      exact ⟨e', h3, by simp [hp]⟩
    | false =>
      rw [hp] at h2
      simp only [h2]
      obtain ⟨e9, g1, g2⟩ := dFr_find Iv p r ts e' h3 fun u hu => hs u (List.mem_cons_of_mem _ hu)
      exact ⟨e9, g1, by simpa [hp] using g2⟩
theorem intsOf_li (xs : List Int) : intsOf (xs.map lfI) = some xs := by
  induction xs with
  | nil => rfl
  | cons x xs ih => rw [List.map_cons]; show (intsOf (xs.map lfI)).map _ = _; rw [ih]; rfl
theorem oSorted_li (o : Bool) (xs : List Int) : oSorted (li o xs) = some (li true (isort xs)) := by
  unfold li
  show (intsOf (xs.map lfI)).map _ = _
  rw [intsOf_li]
  rfl
theorem isort_any (xs : List Int) (p : Int → Bool) : (isort xs).any p = xs.any p := by
  rw [Bool.eq_iff_iff, List.any_eq_true, List.any_eq_true]
  exact ⟨fun ⟨x, h, k⟩ => ⟨x, (isort_perm xs).mem_iff.mp h, k⟩, fun ⟨x, h, k⟩ => ⟨x, (isort_perm xs).mem_iff.mpr h, k⟩⟩
/-- does a stand step to one of these -/
def tch (rs : List (List Int)) (s : List Int) (x : Int) : Bool := (rs.getD x.toNat []).any fun o => decide (o ∈ s)
theorem nbn : ¬ ("steps" : Str) = "next_of" ∧ ¬ ("marks" : Str) = "next_of" ∧ ¬ ("fair" : Str) = "next_of" := by decide +kernel
/-- what such rounds are -/
structure Rnds (f : List Int → List Int) (F : List (List Int)) (s : List Int) : Prop where
  ne : 0 < F.length
  hd : F.getD 0 [] = s
  st : ∀ i, i + 1 < F.length → F.getD (i + 1) [] = f (F.getD i [])
  lst : f (F.getD (F.length - 1) []) = F.getD (F.length - 1) []
theorem E_rng2 {a b : DV} {env : List T} {i j : Int} (h1 : a env = some (I i)) (h2 : b env = some (I j)) (h : (-(2 ^ 62) ≤ i ∧ i < 2 ^ 62) ∧ -(2 ^ 62) ≤ j ∧ j < 2 ^ 62) : dRng2 a b env = some ((List.range (j - i).toNat).map fun (k : Nat) => lfI (i + k), env) := by
  simp only [dRng2, h1, h2]; rw [if_pos h]
theorem dpIx_head (dp : DP) (env : List T) (put : T → List T) (x : List Int) (xs : List (List Int)) (h : dp env = some (ll true (x :: xs), put)) : dpIx dp (gC (.int 0)) env = some (li true x, fun t' => put (.nd true .lst (t' :: xs.map (li true)))) := by
  have : ixN ((x :: xs).map (li true)).length 0 = some 0 := by unfold ixN; simp
  unfold dpIx
  rw [h]
  show (ixN ((x :: xs).map (li true)).length 0).bind _ = _
  rw [this]
  rfl
end Pm


set_option Elab.async false
set_option linter.all false
set_option maxRecDepth 100000
set_option maxHeartbeats 4000000
/-! EV: mirrors reckoned by simp: each combinator steps by a named function that stands still until its argument is known. -/
namespace Tr
open PySem PySem.Spec PyProof.Rows L2 Pm

def okT : T → Option T
  | .no => none
  | t => some t
def okO : Option T → Option T
  | some t => okT t
  | none => none
--ev
theorem okT_lf (v : V) : okT (.lf v) = some (.lf v) := rfl
--ev
theorem okT_nd (o k xs) : okT (.nd o k xs) = some (.nd o k xs) := rfl
--ev
theorem okT_li (o xs) : okT (li o xs) = some (li o xs) := rfl
--ev
theorem okT_ll (o xs) : okT (ll o xs) = some (ll o xs) := rfl
--ev
theorem okT_dk (o xs) : okT (dk o xs) = some (dk o xs) := rfl
--ev
theorem okT_mks (o xs) : okT (mks o xs) = some (mks o xs) := rfl
--ev
theorem okT_mk1 (o xs) : okT (mk1 o xs) = some (mk1 o xs) := rfl
--ev
theorem okT_mch (o a b c) : okT (mch o a b c) = some (mch o a b c) := rfl
--ev
theorem okT_scr (ns) : okT (scrT ns) = some (scrT ns) := rfl
--ev
theorem okT_tp (o a b) : okT (tp o a b) = some (tp o a b) := rfl
--ev
theorem okO_some (t) : okO (some t) = okT t := rfl
--ev
theorem gV_ev (i : Nat) (env : List T) : gV i env = okO env[i]? := by
  unfold gV okO okT
  split <;> rename_i h <;> rw [h]
  rename_i t hne
  cases t <;> first | rfl | exact (hne rfl).elim
--ev
theorem gC_ev (v env) : gC v env = some (.lf v) := rfl
--ev
theorem gG_ev (t env) : gG t env = some t := rfl
def fM (i : Nat) (env : List T) (t : T) : Option (T × List T) := some (t, env.set i .no)
def fS (i : Nat) (env : List T) (t : T) : Option (T × List T) := some (frz t, env.set i (frz t))
--ev
theorem fM_ev (i env t) : fM i env t = some (t, env.set i .no) := rfl
--ev
theorem fS_ev (i env t) : fS i env t = some (frz t, env.set i (frz t)) := rfl
--ev
theorem gM_ev (i : Nat) (env : List T) : gM i env = (gV i env).bind (fM i env) := by unfold gM; cases gV i env <;> rfl
--ev
theorem gS_ev (i : Nat) (env : List T) : gS i env = (gV i env).bind (fS i env) := by unfold gS; cases gV i env <;> rfl
def fP {α β : Type} (e : β) (t : α) : Option (α × β) := some (t, e)
def fQ {α β : Type} (t : α) (e : β) : Option (α × β) := some (t, e)
--ev
theorem fP_ev {α β : Type} (e : β) (t : α) : fP e t = some (t, e) := rfl
--ev
theorem fQ_ev {α β : Type} (e : β) (t : α) : fQ t e = some (t, e) := rfl
--ev
theorem vr_ev (d : DV) (env) : vr d env = (d env).bind (fP env) := by unfold vr; cases d env <;> rfl
def fRe : T × List T → Option (T × List T) := fun p => if cln p.1 = true then some p else none
--ev
theorem fRe_ev (t e) : fRe (t, e) = if cln t = true then some (t, e) else none := rfl
--ev
theorem re_ev (d : DE) (env) : re d env = (d env).bind fRe := by unfold re; cases d env <;> rfl
def fO1 (o : T → Option T) : T × List T → Option (T × List T) := fun p => (o p.1).bind (fP p.2)
--ev
theorem fO1_ev (o t e) : fO1 o (t, e) = (o t).bind (fP e) := rfl
--ev
theorem o1V_ev (o) (d : DV) (env) : o1V o d env = (d env).bind o := rfl
--ev
theorem o1_ev (o) (d : DE) (env) : o1 o d env = (d env).bind (fO1 o) := by
  unfold o1 fO1; cases d env with
  | none => rfl
  | some p => simp only [Option.bind_some]; cases o p.1 <;> rfl
def fO2V (o : T → T → Option T) (vb : DV) (env : List T) (x : T) : Option T := (vb env).bind (o x)
--ev
theorem fO2V_ev (o vb env x) : fO2V o vb env x = (vb env).bind (o x) := rfl
--ev
theorem o2V_ev (o) (da db : DV) (env) : o2V o da db env = (da env).bind (fO2V o db env) := rfl
def fO2v' (o : T → T → Option T) (x : T) (e : List T) (s : T) : Option (T × List T) := (o x s).bind (fP e)
--ev
theorem fO2v'_ev (o x e s) : fO2v' o x e s = (o x s).bind (fP e) := rfl
def fO2v (o : T → T → Option T) (vb : DV) : T × List T → Option (T × List T) := fun p => (vb p.2).bind (fO2v' o p.1 p.2)
--ev
theorem fO2v_ev (o vb x e) : fO2v o vb (x, e) = (vb e).bind (fO2v' o x e) := rfl
--ev
theorem o2v_ev (o da vb env) : o2v o da vb env = (da env).bind (fO2v o vb) := by
  unfold o2v fO2v fO2v'; cases da env with
  | none => rfl
  | some p => simp only [Option.bind_some]; cases vb p.2 with
    | none => rfl
    | some s => simp only [Option.bind_some]; cases o p.1 s <;> rfl
def fO2o' (o : T → T → Option T) (x : T) : T × List T → Option (T × List T) := fun q => (o x q.1).bind (fP q.2)
--ev
theorem fO2o'_ev (o x y e) : fO2o' o x (y, e) = (o x y).bind (fP e) := rfl
def fO2o (o : T → T → Option T) (db : DE) : T × List T → Option (T × List T) := fun p => (db p.2).bind (fO2o' o p.1)
--ev
theorem fO2o_ev (o db x e) : fO2o o db (x, e) = (db e).bind (fO2o' o x) := rfl
--ev
theorem o2o_ev (o da db env) : o2o o da db env = (da env).bind (fO2o o db) := by
  unfold o2o fO2o fO2o'; cases da env with
  | none => rfl
  | some p => simp only [Option.bind_some]; cases db p.2 with
    | none => rfl
    | some s => simp only [Option.bind_some]; cases o p.1 s.1 <;> rfl
def fO2c' (o : T → T → Option T) (x : T) : T × List T → Option (T × List T) := fun q => if cln x = true then (o x q.1).bind (fP q.2) else none
--ev
theorem fO2c'_ev (o x y e) : fO2c' o x (y, e) = if cln x = true then (o x y).bind (fP e) else none := rfl
def fO2c (o : T → T → Option T) (db : DE) : T × List T → Option (T × List T) := fun p => (db p.2).bind (fO2c' o p.1)
--ev
theorem fO2c_ev (o db x e) : fO2c o db (x, e) = (db e).bind (fO2c' o x) := rfl
--ev
theorem o2c_ev (o da db env) : o2c o da db env = (da env).bind (fO2c o db) := by
  unfold o2c fO2c fO2c'; cases da env with
  | none => rfl
  | some p => simp only [Option.bind_some]; cases db p.2 with
    | none => rfl
    | some s => simp only [Option.bind_some]; cases o p.1 s.1 <;> rfl
def fO2n' (o : T → T → Option T) (i : Nat) : T × List T → Option (T × List T) := fun q => (gV i q.2).bind fun t => (o t q.1).bind (fP q.2)
def fO2n'' (o : T → T → Option T) (y : T) (e : List T) (t : T) : Option (T × List T) := (o t y).bind (fP e)
--ev
theorem fO2n''_ev (o y e t) : fO2n'' o y e t = (o t y).bind (fP e) := rfl
--ev
theorem fO2n'_ev (o i y e) : fO2n' o i (y, e) = (gV i e).bind (fO2n'' o y e) := rfl
def fO2n (o : T → T → Option T) (i : Nat) (db : DE) (env : List T) (_ : T) : Option (T × List T) := (db env).bind (fO2n' o i)
--ev
theorem fO2n_ev (o i db env t) : fO2n o i db env t = (db env).bind (fO2n' o i) := rfl
--ev
theorem o2n_ev (o i db env) : o2n o i db env = (gV i env).bind (fO2n o i db env) := by
  unfold o2n fO2n fO2n'; cases gV i env with
  | none => rfl
  | some p => simp only [Option.bind_some]; cases db env with
    | none => rfl
    | some s => simp only [Option.bind_some]; cases gV i s.2 with
      | none => rfl
      | some t => simp only [Option.bind_some]; cases o t s.1 <;> rfl
def fAnd (db : DE) : T × List T → Option (T × List T)
  | (.lf (.bl true), e) => db e
  | (.lf (.bl false), e) => some (.lf (.bl false), e)
  | _ => none
def fOr (db : DE) : T × List T → Option (T × List T)
  | (.lf (.bl true), e) => some (.lf (.bl true), e)
  | (.lf (.bl false), e) => db e
  | _ => none
--ev
theorem fAnd_ev (db b e) : fAnd db (.lf (.bl b), e) = if b = true then db e else some (.lf (.bl false), e) := by cases b <;> rfl
--ev
theorem fOr_ev (db b e) : fOr db (.lf (.bl b), e) = if b = true then some (.lf (.bl true), e) else db e := by cases b <;> rfl
--ev
theorem dAnd_ev (da db env) : dAnd da db env = (da env).bind (fAnd db) := by
  unfold dAnd; split <;> rename_i h
  · rw [h]; rfl
  · rw [h]; rfl
  · cases hd : da env with
    | none => rfl
    | some p => obtain ⟨t, e⟩ := p; rw [Option.bind_some]; unfold fAnd; split <;> simp_all
--ev
theorem dOr_ev (da db env) : dOr da db env = (da env).bind (fOr db) := by
  unfold dOr; split <;> rename_i h
  · rw [h]; rfl
  · rw [h]; rfl
  · cases hd : da env with
    | none => rfl
    | some p => obtain ⟨t, e⟩ := p; rw [Option.bind_some]; unfold fOr; split <;> simp_all
/-! merging -/
--ev
theorem ite_BB {p : Prop} [Decidable p] (b c : Bool) (e : List T) : (if p then some ((.lf (.bl b) : T), e) else some (.lf (.bl c), e)) = some (.lf (.bl (if p then b else c)), e) := by split <;> rfl
--ev
theorem ite_decF {p q : Prop} [Decidable p] [Decidable q] : (if p then decide q else false) = decide (p ∧ q) := by by_cases p <;> simp [*]
--ev
theorem ite_Tdec {p q : Prop} [Decidable p] [Decidable q] : (if p then true else decide q) = decide (p ∨ q) := by by_cases p <;> simp [*]
--ev
theorem z_cast (a b : Nat) : ((a : Int) = (b : Int)) = (a = b) := propext (by omega)
--ev
theorem z_ndec {p : Prop} [Decidable p] : (!decide p) = decide (¬ p) := by by_cases p <;> simp [*]
--ev
theorem ite_TF {p : Prop} [Decidable p] : (if p then true else false) = decide p := by by_cases p <;> simp [*]
--ev
theorem ite_FT {p : Prop} [Decidable p] : (if p then false else true) = decide (¬ p) := by by_cases p <;> simp [*]
--ev
theorem bind_ite {α β : Type} {p : Prop} [Decidable p] (x y : Option α) (f : α → Option β) : (if p then x else y).bind f = if p then x.bind f else y.bind f := by split <;> rfl
/-! arguments -/
--ev
theorem aNil_ev (env) : aNil env = some ([], env) := rfl
def fCons' (t : T) : List T × List T → Option (List T × List T) := fun q => some (t :: q.1, q.2)
def fCons (dr : DA) : T × List T → Option (List T × List T) := fun p => (dr p.2).bind (fCons' p.1)
--ev
theorem fCons'_ev (t ts e) : fCons' t (ts, e) = some (t :: ts, e) := rfl
--ev
theorem fCons_ev (dr t e) : fCons dr (t, e) = (dr e).bind (fCons' t) := rfl
--ev
theorem aCons_ev (da dr env) : aCons da dr env = (da env).bind (fCons dr) := by
  unfold aCons fCons; cases da env with
  | none => rfl
  | some p => simp only [Option.bind_some]; cases dr p.2 <;> rfl
def fCall' (bs : List (Option Nat)) (e : List T) : T × List T → Option (T × List T) := fun r => (wb bs r.2 e).bind (fQ r.1)
def fCall (f : FT) (bs : List (Option Nat)) (dv : List V) : List T × List T → Option (T × List T) := fun p => (f (p.1 ++ dv.map .lf)).bind (fCall' bs p.2)
--ev
theorem fCall'_ev (bs e t ts) : fCall' bs e (t, ts) = (wb bs ts e).bind (fQ t) := rfl
--ev
theorem fCall_ev (f bs dv ts e) : fCall f bs dv (ts, e) = (f (ts ++ dv.map .lf)).bind (fCall' bs e) := rfl
--ev
theorem dCall_ev (f bs dv da env) : dCall f bs dv da env = (da env).bind (fCall f bs dv) := by
  unfold dCall fCall fCall'; cases da env with
  | none => rfl
  | some p => simp only [Option.bind_some]; cases f (p.1 ++ dv.map .lf) with
    | none => rfl
    | some r => simp only [Option.bind_some]; cases wb bs r.2 p.2 <;> rfl
--ev
theorem wb_nil (ts env) : wb [] ts env = some env := by cases ts <;> rfl
--ev
theorem wb_none (bs t ts env) : wb (none :: bs) (t :: ts) env = wb bs ts env := rfl
def fWb (i : Nat) (bs : List (Option Nat)) (t : T) (ts env : List T) : T → Option (List T)
  | .no => wb bs ts (env.set i t)
  | _ => none
--ev
theorem fWb_ev (i bs t ts env) : fWb i bs t ts env .no = wb bs ts (env.set i t) := rfl
--ev
theorem wb_some (i bs t ts env) : wb (some i :: bs) (t :: ts) env = env[i]?.bind (fWb i bs t ts env) := by
  rw [wb]; cases env[i]? with
  | none => rfl
  | some x => cases x <;> rfl
def fMeth' (f : FT) (bs : List (Option Nat)) (dv : List V) (t : T) : List T × List T → Option (T × List T) := fun q => fCall f bs dv (t :: q.1, q.2)
def fMeth (c m : Str) (f : FT) (b0 : Option Nat) (bs : List (Option Nat)) (dv : List V) (da : DA) : T × List T → Option (T × List T) := fun p => if isIns c m p.1 = true then (da p.2).bind (fMeth' f (b0 :: bs) dv p.1) else none
--ev
theorem fMeth'_ev (f bs dv t ts e) : fMeth' f bs dv t (ts, e) = fCall f bs dv (t :: ts, e) := rfl
--ev
theorem fMeth_ev (c m f b0 bs dv da t e) : fMeth c m f b0 bs dv da (t, e) = if isIns c m t = true then (da e).bind (fMeth' f (b0 :: bs) dv t) else none := rfl
--ev
theorem dMeth_ev (c m f b0 bs dv d0 da env) : dMeth c m f b0 bs dv d0 da env = (d0 env).bind (fMeth c m f b0 bs dv da) := by
  unfold dMeth fMeth; cases d0 env with
  | none => rfl
  | some p =>
    simp only [Option.bind_some]; split
    · rw [dCall_ev]; cases da p.2 <;> rfl
    · rfl
def fMake' (bs : List (Option Nat)) (e : List T) : T × List T → Option (T × List T)
  | (.lf .non, t :: ts') => (wb bs ts' e).bind (fQ t)
  | _ => none
def fMake (c : Str) (f : FT) (bs : List (Option Nat)) (dv : List V) : List T × List T → Option (T × List T) := fun p => (f (.nd true (.ins c []) [] :: (p.1 ++ dv.map .lf))).bind (fMake' bs p.2)
--ev
theorem fMake'_ev (bs e t ts) : fMake' bs e (.lf .non, t :: ts) = (wb bs ts e).bind (fQ t) := rfl
--ev
theorem fMake_ev (c f bs dv ts e) : fMake c f bs dv (ts, e) = (f (.nd true (.ins c []) [] :: (ts ++ dv.map .lf))).bind (fMake' bs e) := rfl
--ev
theorem dMake_ev (c f bs dv da env) : dMake c f bs dv da env = (da env).bind (fMake c f bs dv) := by
  unfold dMake fMake; cases da env with
  | none => rfl
  | some p =>
    simp only [Option.bind_some]; split <;> rename_i h
    · rw [h, Option.bind_some, fMake'_ev]; cases wb bs _ p.2 <;> rfl
    · cases hd : f (.nd true (.ins c []) [] :: (p.1 ++ dv.map .lf)) with
      | none => rfl
      | some r =>
        rw [Option.bind_some]; unfold fMake'; split
        · rename_i t ts; exact (h _ _ hd).elim
        · rfl
/-! statements -/
def fSeq (b : DS) : Fl × List T → Option (Fl × List T)
  | (.nx, e) => b e
  | (r, e) => some (r, e)
--ev
theorem fSeq_nx (b e) : fSeq b (.nx, e) = b e := rfl
--ev
theorem fSeq_rt (b t e) : fSeq b (.rt t, e) = some (.rt t, e) := rfl
--ev
theorem fSeq_bk (b e) : fSeq b (.bk, e) = some (.bk, e) := rfl
--ev
theorem fSeq_ct (b e) : fSeq b (.ct, e) = some (.ct, e) := rfl
--ev
theorem dSeq_ev (a b env) : dSeq a b env = (a env).bind (fSeq b) := by
  unfold dSeq; split <;> rename_i h
  · rw [h]; rfl
  · rw [h, Option.bind_some]; unfold fSeq; split <;> simp_all
  · rw [h]; rfl
def fIf (a b : DS) : T × List T → Option (Fl × List T)
  | (.lf (.bl true), e) => a e
  | (.lf (.bl false), e) => b e
  | _ => none
--ev
theorem fIf_ev (a b x e) : fIf a b (.lf (.bl x), e) = if x = true then a e else b e := by cases x <;> rfl
--ev
theorem dIf_ev (c a b env) : dIf c a b env = (c env).bind (fIf a b) := by
  unfold dIf; split <;> rename_i h
  · rw [h]; rfl
  · rw [h]; rfl
  · cases hd : c env with
    | none => rfl
    | some p => obtain ⟨t, e⟩ := p; rw [Option.bind_some]; unfold fIf; split <;> simp_all
def fSet (i : Nat) : T × List T → Option (Fl × List T) := fun p => if i < p.2.length then some (.nx, p.2.set i p.1) else none
--ev
theorem fSet_ev (i t e) : fSet i (t, e) = if i < e.length then some (.nx, e.set i t) else none := rfl
--ev
theorem dSet_ev (i d env) : dSet i d env = (d env).bind (fSet i) := by unfold dSet; cases d env <;> rfl
def fRet : T × List T → Option (Fl × List T) := fun p => some (.rt p.1, p.2)
--ev
theorem fRet_ev (t e) : fRet (t, e) = some (.rt t, e) := rfl
--ev
theorem dRet_ev (d env) : dRet d env = (d env).bind fRet := by unfold dRet; cases d env <;> rfl
def fEx : T × List T → Option (Fl × List T) := fun p => some (.nx, p.2)
--ev
theorem fEx_ev (t e) : fEx (t, e) = some (.nx, e) := rfl
--ev
theorem dEx_ev (d env) : dEx d env = (d env).bind fEx := by unfold dEx; cases d env <;> rfl
--ev
theorem dRetN_ev (env) : dRetN env = some (.rt (.lf .non), env) := rfl
--ev
theorem dNx_ev (env) : dNx env = some (.nx, env) := rfl
--ev
theorem dBk_ev (env) : dBk env = some (.bk, env) := rfl
--ev
theorem dCt_ev (env) : dCt env = some (.ct, env) := rfl
--ev
theorem dFail_ev (env) : dFail env = none := rfl
def fPut'' (i : Nat) (e : List T) : T × T → Option (Fl × List T) := fun q => some (.nx, e.set i q.2)
def fPut' (i : Nat) (mk : V → T → List T → Option (T × T)) (t : T) (e : List T) (x : T) : T → Option (Fl × List T)
  | .lf k => (mk k x [t]).bind (fPut'' i e)
  | _ => none
def fPut1 (i : Nat) (mk : V → T → List T → Option (T × T)) (dk : DV) (t : T) (e : List T) (x : T) : Option (Fl × List T) := (dk e).bind (fPut' i mk t e x)
def fPut (i : Nat) (mk : V → T → List T → Option (T × T)) (dk : DV) : T × List T → Option (Fl × List T) := fun p => (gV i p.2).bind (fPut1 i mk dk p.1 p.2)
--ev
theorem fPut''_ev (i e x y) : fPut'' i e (x, y) = some (.nx, e.set i y) := rfl
--ev
theorem fPut'_ev (i mk t e x k) : fPut' i mk t e x (.lf k) = (mk k x [t]).bind (fPut'' i e) := rfl
--ev
theorem fPut1_ev (i mk dk t e x) : fPut1 i mk dk t e x = (dk e).bind (fPut' i mk t e x) := rfl
--ev
theorem fPut_ev (i mk dk t e) : fPut i mk dk (t, e) = (gV i e).bind (fPut1 i mk dk t e) := rfl
--ev
theorem dPut_ev (i mk dv dk env) : dPut i mk dv dk env = (dv env).bind (fPut i mk dk) := by
  unfold dPut; cases dv env with
  | none => rfl
  | some p =>
    obtain ⟨t, e⟩ := p
    show (match gV i e, dk e with
      | some t_1, some (.lf k) => (mk k t_1 [t]).map fun q => (.nx, e.set i q.2)
      | _, _ => none) = (gV i e).bind (fPut1 i mk dk t e)
    cases h1 : gV i e with
    | none => rfl
    | some x =>
      show _ = (dk e).bind (fPut' i mk t e x)
      cases h2 : dk e with
      | none => rfl
      | some y => cases y with
        | lf k => show (mk k x [t]).map _ = (mk k x [t]).bind (fPut'' i e); cases mk k x [t] <;> rfl
        | no => rfl
        | nd _ _ _ => rfl
def fMut3 (i : Nat) (e : List T) : T × T → Option (T × List T) := fun q => some (q.1, e.set i q.2)
def fMut2 (i : Nat) (op : T → List T → Option (T × T)) (ts e : List T) (t : T) : Option (T × List T) := (op t ts).bind (fMut3 i e)
def fMut1 (i : Nat) (op : T → List T → Option (T × T)) : List T × List T → Option (T × List T) := fun p => (gV i p.2).bind (fMut2 i op p.1 p.2)
def fMut (ty : String) (i : Nat) (op : T → List T → Option (T × T)) (da : DA) (env : List T) (t0 : T) : Option (T × List T) := if isTy ty t0 = true then (da env).bind (fMut1 i op) else none
--ev
theorem fMut3_ev (i e x y) : fMut3 i e (x, y) = some (x, e.set i y) := rfl
--ev
theorem fMut2_ev (i op ts e t) : fMut2 i op ts e t = (op t ts).bind (fMut3 i e) := rfl
--ev
theorem fMut1_ev (i op ts e) : fMut1 i op (ts, e) = (gV i e).bind (fMut2 i op ts e) := rfl
--ev
theorem fMut_ev (ty i op da env t0) : fMut ty i op da env t0 = if isTy ty t0 = true then (da env).bind (fMut1 i op) else none := rfl
--ev
theorem dMut_ev (ty i op da env) : dMut ty i op da env = (gV i env).bind (fMut ty i op da env) := by
  unfold dMut fMut fMut1 fMut2; cases gV i env with
  | none => rfl
  | some t0 =>
    simp only [Option.bind_some]; split
    · cases da env with
      | none => rfl
      | some p => simp only [Option.bind_some]; cases gV i p.2 with
        | none => rfl
        | some t => simp only [Option.bind_some]; cases op t p.1 <;> rfl
    · rfl
def fLst : List T × List T → Option (T × List T) := fun p => if p.1.length ≤ sizeLine then some (.nd true .lst p.1, p.2) else none
def fTup : List T × List T → Option (T × List T) := fun p => if p.1.length ≤ sizeLine then some (.nd false .tup p.1, p.2) else none
--ev
theorem fLst_ev (ts e) (h : ts.length ≤ 1000) : fLst (ts, e) = some (.nd true .lst ts, e) := by unfold fLst; rw [if_pos (Nat.le_of_lt (small h))]
--ev
theorem fTup_ev (ts e) (h : ts.length ≤ 1000) : fTup (ts, e) = some (.nd false .tup ts, e) := by unfold fTup; rw [if_pos (Nat.le_of_lt (small h))]
--ev
theorem dLst_ev (da env) : dLst da env = (da env).bind fLst := rfl
--ev
theorem dTup_ev (da env) : dTup da env = (da env).bind fTup := rfl
--ev
theorem dDic_ev (env) : dDic env = some (dk true [], env) := rfl
def fBw (env : List T) : T × List T → Option (T × List T) := fun p => if pureT p.1 = true then some (p.1, env) else none
--ev
theorem fBw_ev (env t e) : fBw env (t, e) = if pureT t = true then some (t, env) else none := rfl
--ev
theorem bw_ev (d env) : bw d env = (d (frzs env)).bind (fBw env) := by unfold bw; cases d (frzs env) <;> rfl
def fFz (i : Nat) (d : DE) (env : List T) (t : T) : Option (T × List T) := d (env.set i (frz t))
--ev
theorem fFz_ev (i d env t) : fFz i d env t = d (env.set i (frz t)) := rfl
--ev
theorem fz_ev (i d env) : fz i d env = env[i]?.bind (fFz i d env) := by unfold fz; cases env[i]? <;> rfl
def fAug' (i : Nat) (o : T → T → Option T) (t : T) : T × List T → Option (Fl × List T) := fun p => (o t p.1).bind fun u => if cln u = true then some (.nx, p.2.set i u) else none
def fAug'' (i : Nat) (e : List T) (u : T) : Option (Fl × List T) := if cln u = true then some (.nx, e.set i u) else none
--ev
theorem fAug''_ev (i e u) : fAug'' i e u = if cln u = true then some (.nx, e.set i u) else none := rfl
--ev
theorem fAug'_ev (i o t y e) : fAug' i o t (y, e) = (o t y).bind (fAug'' i e) := rfl
def fAug (i : Nat) (o : T → T → Option T) (d : DE) (env : List T) (t : T) : Option (Fl × List T) := if cln t = true then (d env).bind (fAug' i o t) else none
--ev
theorem fAug_ev (i o d env t) : fAug i o d env t = if cln t = true then (d env).bind (fAug' i o t) else none := rfl
--ev
theorem dAug_ev (i o d env) : dAug i o d env = (gV i env).bind (fAug i o d env) := by unfold dAug; cases gV i env <;> rfl
/-! answers that are asked for -/
--ev
theorem z_ex {α : Type} {fl : Fl} {e : α} {P : α → Prop} : (∃ e', (some (fl, e) : Option (Fl × α)) = some (fl, e') ∧ P e') = P e := by
  apply propext; constructor
  · rintro ⟨e', h, k⟩; cases h; exact k
  · exact fun h => ⟨e, rfl, h⟩
--ev
theorem z_exT {α β : Type} {t : β} {e : α} {P : α → Prop} : (∃ e', (some (t, e) : Option (β × α)) = some (t, e') ∧ P e') = P e := by
  apply propext; constructor
  · rintro ⟨e', h, k⟩; cases h; exact k
  · exact fun h => ⟨e, rfl, h⟩
/-! loops -/
def rngT (n : Nat) : List T := (List.range n).map fun (k : Nat) => lfI k
def fRng : T × List T → Option (List T × List T)
  | (.lf (.int j), e) => if -(2 ^ 62) ≤ j ∧ j < 2 ^ 62 then some (rngT j.toNat, e) else none
  | _ => none
theorem fRng_ev (j e) : fRng (.lf (.int j), e) = if -(2 ^ 62) ≤ j ∧ j < 2 ^ 62 then some (rngT j.toNat, e) else none := rfl
--ev
theorem fRng_nat (n : Nat) (e) (h : n ≤ 1000) : fRng (.lf (.int (n : Int)), e) = some (rngT n, e) := by rw [fRng_ev, if_pos (by omega)]; rfl
theorem fRng_int (j : Int) (e) (h : -1000 ≤ j ∧ j ≤ 1000) : fRng (.lf (.int j), e) = some (rngT j.toNat, e) := by rw [fRng_ev, if_pos (by omega)]
--ev
theorem dRng_ev (d env) : dRng d env = (d env).bind fRng := by
  unfold dRng; split <;> rename_i h
  · rw [h]; rfl
  · cases hd : d env with
    | none => rfl
    | some p =>
      obtain ⟨t, e⟩ := p; rw [Option.bind_some]; unfold fRng; split
      · rename_i hp; cases hp; exact (h _ _ hd).elim
      · rfl
def fIt' (e : List T) (its : List T) : Option (List T × List T) := some (its, e)
def fIt (f : T → Option (List T)) : T × List T → Option (List T × List T) := fun p => (f p.1).bind (fIt' p.2)
--ev
theorem fIt'_ev (e its) : fIt' e its = some (its, e) := rfl
--ev
theorem fIt_ev (f t e) : fIt f (t, e) = (f t).bind (fIt' e) := rfl
--ev
theorem dIt_ev (f d env) : dIt f d env = (d env).bind (fIt f) := by
  unfold dIt fIt; cases d env with
  | none => rfl
  | some p => simp only [Option.bind_some]; cases f p.1 <;> rfl
def fFor (dg : DG) (d : DS) : List T × List T → Option (Fl × List T) := fun p => dFr dg d p.1 p.2
--ev
theorem fFor_ev (dg d its e) : fFor dg d (its, e) = dFr dg d its e := rfl
--ev
theorem dFor_ev (di dg d env) : dFor di dg d env = (di env).bind (fFor dg d) := rfl
--ev
theorem gN_ev (i t env) : gN i t env = if i < env.length then some (env.set i t) else none := rfl
def fG (b : DG) (y : T) (e : List T) : Option (List T) := b y e
--ev
theorem fG_ev (b y e) : fG b y e = b y e := rfl
--ev
theorem gT2_ev (a b o x y env) : gT2 a b (.nd o .tup [x, y]) env = (a x env).bind (fG b y) := rfl
--ev
theorem gT2_mk1 (a b o m env) : gT2 a b (mk1 o m) env = (a (.lf (.str m.1)) env).bind (fG b (li o m.2)) := rfl
--ev
theorem dFr_nil (dg d env) : dFr dg d [] env = some (.nx, env) := rfl
def turn (dg : DG) (d : DS) (t : T) (env : List T) : Option (Fl × List T) := (dg t env).bind d
--ev
theorem turn_ev (dg d t env) : turn dg d t env = (dg t env).bind d := rfl
def fFr (dg : DG) (d : DS) (ts : List T) : Fl × List T → Option (Fl × List T)
  | (.nx, e) => dFr dg d ts e
  | (.ct, e) => dFr dg d ts e
  | (.bk, e) => some (.nx, e)
  | (.rt t, e) => some (.rt t, e)
--ev
theorem fFr_nx (dg d ts e) : fFr dg d ts (.nx, e) = dFr dg d ts e := rfl
--ev
theorem fFr_ct (dg d ts e) : fFr dg d ts (.ct, e) = dFr dg d ts e := rfl
--ev
theorem fFr_bk (dg d ts e) : fFr dg d ts (.bk, e) = some (.nx, e) := rfl
--ev
theorem fFr_rt (dg d ts t e) : fFr dg d ts (.rt t, e) = some (.rt t, e) := rfl
--ev
theorem dFr_cons (dg d t ts env) : dFr dg d (t :: ts) env = (turn dg d t env).bind (fFr dg d ts) := by
  unfold turn; rw [dFr]; cases dg t env with
  | none => rfl
  | some e => simp only [Option.bind_some]; split <;> rename_i h <;> rw [h] <;> rfl
def fWh' (c : DE) (d : DS) (m : Nat) : Fl × List T → Option (Fl × List T)
  | (.nx, e) => dWh c d m e
  | (.ct, e) => dWh c d m e
  | (.bk, e) => some (.nx, e)
  | (.rt t, e) => some (.rt t, e)
theorem fWh'_nx (c d m e) : fWh' c d m (.nx, e) = dWh c d m e := rfl
theorem fWh'_ct (c d m e) : fWh' c d m (.ct, e) = dWh c d m e := rfl
theorem fWh'_bk (c d m e) : fWh' c d m (.bk, e) = some (.nx, e) := rfl
theorem fWh'_rt (c d m t e) : fWh' c d m (.rt t, e) = some (.rt t, e) := rfl
/-- one round of a while -/
theorem wh_stop {c : DE} {d : DS} {m : Nat} {env e : List T} (h : c env = some (B false, e)) : dWh c d (m + 1) env = some (.nx, e) := by rw [dWh, h]
theorem wh_go {c : DE} {d : DS} {m : Nat} {env e e2 : List T} (h : c env = some (B true, e)) (h2 : d e = some (.nx, e2)) : dWh c d (m + 1) env = dWh c d m e2 := by rw [dWh, h]; simp only [h2]
theorem wh_rt {c : DE} {d : DS} {m : Nat} {env e e2 : List T} {t : T} (h : c env = some (B true, e)) (h2 : d e = some (.rt t, e2)) : dWh c d (m + 1) env = some (.rt t, e2) := by rw [dWh, h]; simp only [h2]
/-- loops by an invariant -/
theorem lp {dg : DG} {d : DS} (its : List T) (Iv : Nat → List T → Prop) (env : List T) (h0 : Iv 0 env)
    (hs : ∀ i t env, its[i]? = some t → Iv i env → ∃ e', (turn dg d t env = some (.nx, e') ∨ turn dg d t env = some (.ct, e')) ∧ Iv (i + 1) e') : ∃ env', dFr dg d its env = some (.nx, env') ∧ Iv its.length env' :=
  dFr_inv its Iv env h0 fun i t env h k => by
    obtain ⟨e', h1, h2⟩ := hs i t env h k
    cases hg : dg t env with
    | none => simp [turn, hg] at h1
    | some e => exact ⟨e, e', rfl, by simpa [turn, hg] using h1, h2⟩
theorem lp_li {dg : DG} {d : DS} (xs : List Int) (Iv : Nat → List T → Prop) (env : List T) (h0 : Iv 0 env)
    (hs : ∀ i (hi : i < xs.length) env, Iv i env → ∃ e', turn dg d (I xs[i]) env = some (.nx, e') ∧ Iv (i + 1) e') : ∃ env', dFr dg d (xs.map lfI) env = some (.nx, env') ∧ Iv xs.length env' := by
  have := lp (dg := dg) (d := d) (xs.map lfI) Iv env h0 fun i t env h k => by
    obtain ⟨hi, rfl⟩ := li_get h
    obtain ⟨e', h1, h2⟩ := hs i hi env k
    exact ⟨e', .inl h1, h2⟩
  simpa using this
theorem lp_rng {dg : DG} {d : DS} (n : Nat) (Iv : Nat → List T → Prop) (env : List T) (h0 : Iv 0 env)
    (hs : ∀ (i : Nat), i < n → ∀ env, Iv i env → ∃ e', turn dg d (I (i : Int)) env = some (.nx, e') ∧ Iv (i + 1) e') : ∃ env', dFr dg d (rngT n) env = some (.nx, env') ∧ Iv n env' := by
  have := lp (dg := dg) (d := d) (rngT n) Iv env h0 fun i t env h k => by
    obtain ⟨hi, rfl⟩ := rng_get h
    obtain ⟨e', h1, h2⟩ := hs i hi env k
    exact ⟨e', .inl h1, h2⟩
  simpa [rngT] using this
theorem lp_ll {dg : DG} {d : DS} (xs : List (List Int)) (Iv : Nat → List T → Prop) (env : List T) (h0 : Iv 0 env)
    (hs : ∀ i (hi : i < xs.length) env, Iv i env → ∃ e', turn dg d (li false xs[i]) env = some (.nx, e') ∧ Iv (i + 1) e') : ∃ env', dFr dg d (xs.map (li false)) env = some (.nx, env') ∧ Iv xs.length env' := by
  have := lp (dg := dg) (d := d) (xs.map (li false)) Iv env h0 fun i t env h k => by
    obtain ⟨hi, rfl⟩ := ll_get h
    obtain ⟨e', h1, h2⟩ := hs i hi env k
    exact ⟨e', .inl h1, h2⟩
  simpa using this
/-- a loop that answers at the first of these -/
theorem lp_find {dg : DG} {d : DS} (Iv : List T → Prop) (p : Int → Bool) (r : T) : ∀ (xs : List Int) (env : List T), Iv env →
    (∀ x ∈ xs, ∀ env, Iv env → ∃ e', turn dg d (I x) env = some (if p x = true then .rt r else .nx, e') ∧ Iv e') → ∃ e, Iv e ∧ dFr dg d (xs.map lfI) env = some (if xs.any p = true then .rt r else .nx, e)
  | [], env, h0, _ => ⟨env, h0, rfl⟩
  | x :: xs, env, h0, hs => by
    obtain ⟨e', h1, h2⟩ := hs x (List.mem_cons_self ..) env h0
    have h1' : turn dg d (lfI x) env = _ := h1
    rw [List.map_cons, dFr_cons, h1', Option.bind_some]
    cases hp : p x with
    | true => exact ⟨e', h2, by simp [hp, fFr_rt]⟩
    | false =>
      obtain ⟨e9, g1, g2⟩ := lp_find Iv p r xs e' h2 fun u hu => hs u (List.mem_cons_of_mem _ hu)
      exact ⟨e9, g1, by simpa [hp, fFr_nx] using g2⟩
/-! comprehensions -/
def fLc' (e : List T) (vs : List Nat) : List T × List T → Option (T × List T) := fun q => some (.nd true .lst q.1, backT e q.2 vs)
def fLc (dg : DG) (dc de : DE) (vs : List Nat) : List T × List T → Option (T × List T) := fun p => if cleanAt p.2 vs = true then (dLr dg dc de vs p.1 [] (wipeT p.2 vs)).bind (fLc' p.2 vs) else none
--ev
theorem fLc'_ev (e vs acc e2) : fLc' e vs (acc, e2) = some (.nd true .lst acc, backT e e2 vs) := rfl
--ev
theorem fLc_ev (dg dc de vs its e) : fLc dg dc de vs (its, e) = if cleanAt e vs = true then (dLr dg dc de vs its [] (wipeT e vs)).bind (fLc' e vs) else none := rfl
--ev
theorem dLc_ev (di dg dc de vs env) : dLc di dg dc de vs env = (di env).bind (fLc dg dc de vs) := by
  unfold dLc fLc; cases di env with
  | none => rfl
  | some p => simp only [Option.bind_some]; split
              · cases dLr dg dc de vs p.1 [] (wipeT p.2 vs) <;> rfl
              · rfl
--ev
theorem dLr_nil (dg dc de vs acc env) : dLr dg dc de vs [] acc env = some (acc, env) := rfl
--ev
theorem wipeT_nil (e) : wipeT e [] = e := rfl
--ev
theorem wipeT_cons (e v vs) : wipeT e (v :: vs) = (wipeT e vs).set v .no := rfl
--ev
theorem backT_nil (o e) : backT o e [] = e := rfl
--ev
theorem backT_cons (o e v vs) : backT o e (v :: vs) = backT o (e.set v (o.getD v .no)) vs := rfl
--ev
theorem cleanAt_nil (e) : cleanAt e [] = true := rfl
--ev
theorem cleanAt_cons (e v vs) : cleanAt e (v :: vs) = (decide (v < e.length) && cln (e.getD v .no) && cleanAt e vs) := by simp [cleanAt]
/-- a comprehension without a test -/
theorem lc_map {dg : DG} {de : DE} {vs : List Nat} (env : List T) (f : T → T) (its : List T) (hl : its.length ≤ 1000) (hs : ∀ t ∈ its, ∃ e e2, dg t env = some e ∧ de e = some (f t, e2) ∧ wipeT e2 vs = env) :
    dLr dg dYes de vs its [] env = some (its.map f, env) := by
  have := dLr_run (dg := dg) (dc := dYes) (de := de) (vs := vs) env (fun _ => true) f its [] (by have := small hl; simp; omega) fun t ht => by
    obtain ⟨e, e2, h1, h2, h3⟩ := hs t ht
    exact ⟨e, e, h1, rfl, fun _ => ⟨e2, h2, h3⟩, fun h => by cases h⟩
  rw [this]; congr 2; simp [List.filter_eq_self.mpr]
/-- a comprehension with a test: the items that pass, as they are -/
theorem lc_filter {dg : DG} {dc de : DE} {vs : List Nat} (env : List T) (xs : List Int) (p : Int → Bool) (hl : xs.length ≤ 1000)
    (hs : ∀ x ∈ xs, ∃ e e1, dg (I x) env = some e ∧ dc e = some (B (p x), e1) ∧ (p x = true → ∃ e2, de e1 = some (I x, e2) ∧ wipeT e2 vs = env) ∧ (p x = false → wipeT e1 vs = env)) :
    dLr dg dc de vs (xs.map lfI) [] env = some ((xs.filter p).map lfI, env) := by
  let q : T → Bool := fun t => match t with | .lf (.int o) => p o | _ => false
  have := dLr_run (dg := dg) (dc := dc) (de := de) (vs := vs) env q id (xs.map lfI) [] (by have := small hl; simp; omega) fun t ht => by
    obtain ⟨x, hx, rfl⟩ := List.mem_map.mp ht
    obtain ⟨e, e1, h1, h2, h3, h4⟩ := hs x hx
    exact ⟨e, e1, h1, h2, h3, h4⟩
  rw [this, List.map_id, List.nil_append, List.filter_map]; rfl
/-! defs -/
def fFun (keep : List Bool) : Fl × List T → Option (T × List T)
  | (.rt t, e) => some (t, outs keep e)
  | (.nx, e) => some (.lf .non, outs keep e)
  | _ => none
--ev
theorem fFun_rt (keep t e) : fFun keep (.rt t, e) = some (t, outs keep e) := rfl
--ev
theorem fFun_nx (keep e) : fFun keep (.nx, e) = some (.lf .non, outs keep e) := rfl
--ev
theorem dFun_ev (keep n d ts) : dFun keep n d ts = if ts.length = keep.length then (d (ts ++ List.replicate (n - keep.length) .no)).bind (fFun keep) else none := by
  unfold dFun; split
  · cases d (ts ++ List.replicate (n - keep.length) .no) with
    | none => rfl
    | some p => obtain ⟨r, e⟩ := p; cases r <;> rfl
  · rfl
--ev
theorem outs_cons (b bs t ts) : outs (b :: bs) (t :: ts) = (if b = true then t else .no) :: outs bs ts := rfl
--ev
theorem outs_nil (ts) : outs [] ts = [] := by cases ts <;> rfl
/-! frozen, clean, pure -/
--ev
theorem frzs_nil : frzs [] = [] := by rw [frzs]
--ev
theorem frzs_cons (t ts) : frzs (t :: ts) = frz t :: frzs ts := by rw [frzs]
theorem frz_tup2 (o a b) : frz (.nd o .tup [a, b]) = .nd false .tup [frz a, frz b] := by rw [frz, frzs, frzs, frzs]
theorem cln_dk (xs) : cln (dk false xs) = true := by rw [← frz_dk true]; exact cln_frz _
theorem cln_mks (xs) : cln (mks false xs) = true := by rw [← frz_mks true]; exact cln_frz _
theorem cln_mch (a b c) : cln (mch false a b c) = true := by rw [← frz_mch true]; exact cln_frz _
theorem cln_mk1 (m) : cln (mk1 false m) = true := by rw [← frz_mk1 true]; exact cln_frz _
theorem frz_nd (o k xs) : frz (.nd o k xs) = .nd false k (frzs xs) := by rw [frz]
theorem cln_nd (k xs) : cln (.nd false k xs) = clns xs := by rw [cln]; rfl
theorem clns_nil : clns [] = true := by rw [clns]
theorem clns_cons (t ts) : clns (t :: ts) = (cln t && clns ts) := by rw [clns]
theorem pure_nd (k xs) : pureT (.nd true k xs) = pureTs xs := by rw [pureT]; rfl
theorem pureTs_nil : pureTs [] = true := by rw [pureTs]
theorem pureTs_cons (t ts) : pureTs (t :: ts) = (pureT t && pureTs ts) := by rw [pureTs]
--ev
theorem z_frz1 (o xs) : frz (li o xs) = li false xs := frz_li o xs
--ev
theorem z_frz2 (o xs) : frz (ll o xs) = ll false xs := frz_ll o xs
--ev
theorem z_frz3 (v) : frz (.lf v) = .lf v := frz_lf v
--ev
theorem z_frz4 : frz .no = .no := frz_no
--ev
theorem z_frz5 (ns) : frz (scrT ns) = scrT ns := frz_scr ns
--ev
theorem z_frz6 (o ks) : frz (dk o ks) = dk false ks := frz_dk o ks
--ev
theorem z_frz7 (o m) : frz (mk1 o m) = mk1 false m := frz_mk1 o m
--ev
theorem z_frz8 (o ms) : frz (mks o ms) = mks false ms := frz_mks o ms
--ev
theorem z_frz9 (o a b c) : frz (mch o a b c) = mch false a b c := frz_mch o a b c
--ev
theorem z_frz10 (o a b) : frz (tp o a b) = tp false a b := frz_tp o a b
--ev
theorem z_frz11 (o k xs) : frz (.nd o k xs) = .nd false k (frzs xs) := frz_nd o k xs
--ev
theorem z_cln1 (v) : cln (.lf v) = true := cln_lf v
--ev
theorem z_cln2 : cln .no = true := cln_no
--ev
theorem z_cln3 (xs) : cln (li false xs) = true := cln_li xs
--ev
theorem z_cln4 (xs) : cln (ll false xs) = true := cln_ll xs
--ev
theorem z_cln5 (ns) : cln (scrT ns) = true := cln_scr ns
--ev
theorem z_cln6 (ks) : cln (dk false ks) = true := cln_dk ks
--ev
theorem z_cln7 (ms) : cln (mks false ms) = true := cln_mks ms
--ev
theorem z_cln8 (m) : cln (mk1 false m) = true := cln_mk1 m
--ev
theorem z_cln9 (a b c) : cln (mch false a b c) = true := cln_mch a b c
--ev
theorem z_cln10 (k xs) : cln (.nd false k xs) = clns xs := cln_nd k xs
--ev
theorem z_clns1 : clns [] = true := clns_nil
--ev
theorem z_clns2 (t ts) : clns (t :: ts) = (cln t && clns ts) := clns_cons t ts
--ev
theorem z_clns3 (xs : List Int) : clns (xs.map lfI) = true := clns_ints xs
--ev
theorem z_pure1 (v) : pureT (.lf v) = true := pure_lf v
--ev
theorem z_pure2 (xs) : pureT (li true xs) = true := pure_li xs
--ev
theorem z_pure3 (xs) : pureT (ll true xs) = true := pure_ll xs
--ev
theorem z_pure4 (ks) : pureT (dk true ks) = true := pure_dk ks
--ev
theorem z_pure5 (k xs) : pureT (.nd true k xs) = pureTs xs := pure_nd k xs
--ev
theorem z_pure6 : pureTs [] = true := pureTs_nil
--ev
theorem z_pure7 (t ts) : pureTs (t :: ts) = (pureT t && pureTs ts) := pureTs_cons t ts
/-! operators -/
--ev
theorem z_lfI (i) : lfI i = .lf (.int i) := rfl
--ev
theorem z_li (o) (xs : List Int) : (.nd o .lst (xs.map lfI) : T) = li o xs := rfl
--ev
theorem z_add (i j : Int) : oAdd (.lf (.int i)) (.lf (.int j)) = some (.lf (.int (i + j))) := rfl
--ev
theorem z_sub (i j : Int) : oSub (.lf (.int i)) (.lf (.int j)) = some (.lf (.int (i - j))) := I_sub i j
--ev
theorem z_mulr (i j : Int) (h : -1000000 < j ∧ j < 1000000) : oMul (.lf (.int i)) (.lf (.int j)) = some (.lf (.int (i * j))) := I_mul ⟨by omega, by omega⟩
--ev
theorem z_mod (i j : Int) (h : 0 < j) : oMod (.lf (.int i)) (.lf (.int j)) = some (.lf (.int (i % j))) := I_mod h
--ev
theorem z_div (i j : Int) (h : 0 < j ∧ j < 1073741824) : oDiv (.lf (.int i)) (.lf (.int j)) = some (.lf (.int (i / j))) := I_div h
--ev
theorem z_lt (i j : Int) : oLt (.lf (.int i)) (.lf (.int j)) = some (.lf (.bl (decide (i < j)))) := I_lt i j
--ev
theorem z_le (i j : Int) : oLe (.lf (.int i)) (.lf (.int j)) = some (.lf (.bl (decide (i ≤ j)))) := by simp [oLe, oI]
--ev
theorem z_gt (i j : Int) : oGt (.lf (.int i)) (.lf (.int j)) = some (.lf (.bl (decide (j < i)))) := I_gt i j
--ev
theorem z_ge (i j : Int) : oGe (.lf (.int i)) (.lf (.int j)) = some (.lf (.bl (decide (j ≤ i)))) := I_ge i j
--ev
theorem z_eq (i j : Int) : oEq (.lf (.int i)) (.lf (.int j)) = some (.lf (.bl (decide (i = j)))) := oEq_int i j
--ev
theorem z_ne (i j : Int) : oNe (.lf (.int i)) (.lf (.int j)) = some (.lf (.bl (!decide (i = j)))) := oNe_int i j
--ev
theorem z_neg (i : Int) : oNeg (.lf (.int i)) = some (.lf (.int (-i))) := I_neg i
--ev
theorem z_eqli (o o' : Bool) (xs ys : List Int) : oEq (li o xs) (li o' ys) = some (.lf (.bl (decide (xs = ys)))) := oEq_li o o' xs ys
--ev
theorem z_neli (o o' : Bool) (xs ys : List Int) : oNe (li o xs) (li o' ys) = some (.lf (.bl (!decide (xs = ys)))) := oNe_li o o' xs ys
--ev
theorem z_eqnil (o o' : Bool) (xs : List Int) : oEq (li o xs) (.nd o' .lst []) = some (.lf (.bl (decide (xs = [])))) := oEq_li o o' xs []
--ev
theorem z_nenil (o o' : Bool) (xs : List Int) : oNe (li o xs) (.nd o' .lst []) = some (.lf (.bl (!decide (xs = [])))) := oNe_li o o' xs []
--ev
theorem z_inli (x o xs) : oIn (.lf (.int x)) (li o xs) = some (.lf (.bl (decide (x ∈ xs)))) := oIn_li x o xs
--ev
theorem z_ninli (x o xs) : oNotIn (.lf (.int x)) (li o xs) = some (.lf (.bl (!decide (x ∈ xs)))) := oNotIn_li x o xs
--ev
theorem z_indk (o xs x) : oIn (.lf (.int x)) (dk o (kI xs)) = some (.lf (.bl (decide (x ∈ xs)))) := dkI_in o xs x
--ev
theorem z_nindk (o xs x) : oNotIn (.lf (.int x)) (dk o (kI xs)) = some (.lf (.bl (!decide (x ∈ xs)))) := by
  have := dkI_in o xs x
  unfold oIn at this
  obtain ⟨b, e1, e2⟩ := Option.map_eq_some_iff.mp this
  unfold oNotIn
  rw [e1]
  cases e2
  rfl
--ev
theorem z_ll (o) (xs : List (List Int)) : (.nd o .lst (xs.map (li o)) : T) = ll o xs := rfl
--ev
theorem z_mks (o) (xs : List (Str × List Int)) : (.nd o .lst (xs.map (mk1 o)) : T) = mks o xs := rfl
--ev
theorem z_nil (o : Bool) : (.nd o .lst [] : T) = li o [] := rfl
--ev
theorem z_appll (x : List Int) : mAppend (li true []) [li true x] = some (.lf .non, ll true [x]) := ap_ll [] x (by simp)
--ev
theorem z_int1 (i : Int) : oInt (.lf (.int i)) = some (.lf (.int i)) := rfl
--ev
theorem z_int2 (b : Bool) : oInt (.lf (.bl b)) = some (.lf (.int (if b = true then 1 else 0))) := rfl
--ev
theorem z_len1 (o xs) : oLen (li o xs) = some (.lf (.int xs.length)) := oLen_li o xs
--ev
theorem z_len2 (o xs) : oLen (ll o xs) = some (.lf (.int xs.length)) := oLen_ll o xs
--ev
theorem z_len3 (ns) : oLen (scrT ns) = some (.lf (.int ns.length)) := oLen_scr ns
--ev
theorem z_len4 (o ks) : oLen (dk o ks) = some (.lf (.int ks.length)) := dk_len o ks
--ev
theorem z_len5 (o ms) : oLen (mks o ms) = some (.lf (.int ms.length)) := by unfold mks oLen; simp
--ev
theorem z_len6 (o) (xs : List T) : oLen (.nd o .lst xs) = some (.lf (.int xs.length)) := rfl
--ev
theorem z_len7 (o) (xs : List T) : oLen (.nd o .tup xs) = some (.lf (.int xs.length)) := rfl
--ev
theorem z_not (b) : oNot (.lf (.bl b)) = some (.lf (.bl (!b))) := rfl
--ev
theorem z_isi1 (x) : oIsi "int" (.lf (.int x)) = some (.lf (.bl true)) := isi_int x
--ev
theorem z_isi2 (x) : oIsi "bool" (.lf (.int x)) = some (.lf (.bl false)) := isi_bool x
--ev
theorem z_isi3 (o ts) : oIsi "list" (.nd o .lst ts) = some (.lf (.bl true)) := isi_list o ts
--ev
theorem z_isi4 (o ts) : oIsi "list" (li o ts) = some (.lf (.bl true)) := isi_list o _
--ev
theorem z_isi5 (o ts) : oIsi "list" (ll o ts) = some (.lf (.bl true)) := isi_list o _
--ev
theorem z_isi6 (o ts) : oIsi "tuple" (.nd o .tup ts) = some (.lf (.bl true)) := by simp [oIsi, tyN, isiB]
--ev
theorem z_list1 (o xs) : oList (li o xs) = some (li true xs) := oList_li o xs
--ev
theorem z_sort1 (o xs) : oSorted (li o xs) = some (li true (isort xs)) := oSorted_li o xs
theorem oSortedDk (o : Bool) (K : List Int) (h : K.length < 64) : oSorted (dk o (kI K)) = some (li true (isort K)) := by
  have e : intsOf ((kI K).map fun k => T.lf (kV k)) = some K := by
    have : ((kI K).map fun k => T.lf (kV k)) = K.map lfI := by rw [List.map_map]; rfl
    rw [this, intsOf_li]
  show (intsOf ((kI K).map fun k => T.lf (kV k))).bind _ = _
  rw [e]
  simp only [Option.bind_some, h, if_true]
  rfl
--ev
theorem z_sort2 (o K) (h : K.length < 64) : oSorted (dk o (kI K)) = some (li true (isort K)) := oSortedDk o K h
--ev
theorem z_app1 (xs x) (h : xs.length ≤ 1000) : mAppend (li true xs) [.lf (.int x)] = some (.lf .non, li true (xs ++ [x])) := ap_li xs x h
--ev
theorem z_app2 (xs x) (h : xs.length ≤ 1000) : mAppend (ll true xs) [li true x] = some (.lf .non, ll true (xs ++ [x])) := ap_ll xs x h
--ev
theorem z_pop1 (L x) : mPop (li true (L ++ [x])) [] = some (.lf (.int x), li true L) := by
  unfold li mPop
  rw [List.map_append, List.map_cons, List.map_nil]
  simp [lfI]
--ev
theorem z_clr1 (xs) : mClear (li true xs) [] = some (.lf .non, li true []) := rfl
--ev
theorem z_clr2 (xs) : mClear (ll true xs) [] = some (.lf .non, ll true []) := rfl
--ev
theorem z_rev1 (xs : List Int) : mReverse (li true xs) [] = some (.lf .non, li true xs.reverse) := by
  show some (_, T.nd true .lst (xs.map lfI).reverse) = _
  rw [← List.map_reverse]; rfl
--ev
theorem z_ext1 (xs ys : List Int) (o) (h : xs.length + ys.length ≤ 1000) : mExtend (li true xs) [li o ys] = some (.lf .non, li true (xs ++ ys)) := by
  have := small h
  show (if (xs.map lfI).length + (ys.map lfI).length ≤ sizeLine then some (T.lf .non, T.nd true .lst (xs.map lfI ++ ys.map lfI)) else none) = _
  rw [if_pos (by simp; omega), ← List.map_append]; rfl
--ev
theorem z_cat1 (o o' : Bool) (xs ys : List Int) (h : xs.length + ys.length ≤ 1000) : oCat (li o xs) (li o' ys) = some (li true (xs ++ ys)) := by
  have := small h
  show (if clns (xs.map lfI) = true ∧ clns (ys.map lfI) = true ∧ (xs.map lfI).length + (ys.map lfI).length ≤ sizeLine then some (T.nd true .lst (xs.map lfI ++ ys.map lfI)) else none) = _
  rw [if_pos ⟨clns_ints _, clns_ints _, by simp; omega⟩, ← List.map_append]; rfl
--ev
theorem z_it1 (o xs) : itemsL (li o xs) = some (xs.map lfI) := items_li o xs
--ev
theorem z_it2 (o xs) : itemsL (ll o xs) = some (xs.map (li false)) := items_ll o xs
--ev
theorem z_it3 (o ms) : itemsL (mks o ms) = some (ms.map (mk1 false)) := items_mks o ms
--ev
theorem z_it4 (o) (xs : List T) : itemsL (.nd o .lst xs) = some (frzs xs) := rfl
--ev
theorem z_ty1 (o) (xs : List T) : isTy "list" (.nd o .lst xs) = true := rfl
--ev
theorem z_ty2 (o xs) : isTy "list" (li o xs) = true := rfl
--ev
theorem z_ty3 (o xs) : isTy "list" (ll o xs) = true := rfl
--ev
theorem z_ty4 (o xs) : isTy "list" (mks o xs) = true := rfl
--ev
theorem z_fst (o rs ms fs) : oFld "Machine" "steps" (mch o rs ms fs) = some (ll o rs) := fld_steps o rs ms fs
--ev
theorem z_fma (o rs ms fs) : oFld "Machine" "marks" (mch o rs ms fs) = some (mks o ms) := fld_marks o rs ms fs
--ev
theorem z_ffa (o rs ms fs) : oFld "Machine" "fair" (mch o rs ms fs) = some (ll o fs) := fld_fair o rs ms fs
--ev
theorem z_ins1 (o rs ms fs) : isIns "Machine" "next_of" (mch o rs ms fs) = true := isIns_mch o rs ms fs nbn
--ev
theorem z_ins2 (o rs ms fs) : isIns "Machine" "many" (mch o rs ms fs) = true := isIns_mch o rs ms fs (by decide +kernel)
--ev
theorem z_ins3 (o rs ms fs) : isIns "Machine" "fair_at" (mch o rs ms fs) = true := isIns_mch o rs ms fs (by decide +kernel)
--ev
theorem z_ins4 (o rs ms fs) : isIns "Machine" "marked" (mch o rs ms fs) = true := isIns_mch o rs ms fs (by decide +kernel)
--ev
theorem z_ins5 (o rs ms fs) : isIns "Machine" "before" (mch o rs ms fs) = true := isIns_mch o rs ms fs (by decide +kernel)
/-- indexing: by a number that is known to be within -/
--ev
theorem z_ixli (o) (xs : List Int) (i : Int) (h0 : 0 ≤ i) (h : i.toNat < xs.length) : oIx (li o xs) (.lf (.int i)) = some (.lf (.int (xs.getD i.toNat 0))) := by
  rw [oIx_li o xs i h0 h]; simp [h]
--ev
theorem z_ixll (o) (xs : List (List Int)) (i : Int) (h0 : 0 ≤ i) (h : i.toNat < xs.length) : oIx (ll o xs) (.lf (.int i)) = some (li o (xs.getD i.toNat [])) := by
  rw [oIx_ll o xs i h0 h]; simp [h]
--ev
theorem z_ixlast (o) (xs : List Int) (h : xs ≠ []) : oIx (li o xs) (.lf (.int (-1))) = some (.lf (.int (xs.getD (xs.length - 1) 0))) := by
  have hl : 0 < xs.length := List.length_pos_iff.mpr h
  show L2.atI (xs.map lfI) (-1) = _
  unfold L2.atI ixN
  rw [if_neg (by omega), if_pos (by simp; omega)]
  have : ((-1 + ((xs.map lfI).length : Nat) : Int)).toNat = xs.length - 1 := by simp; omega
  have h2 : ((((xs.map lfI).length : Nat) : Int) + -1).toNat = xs.length - 1 := by simp; omega
  simp only [Option.bind_some]
  have h3 : xs[xs.length - 1]? = some (xs[xs.length - 1]'(by omega)) := List.getElem?_eq_getElem _
  first
    | rw [this]; simp [lfI, h3]
    | rw [h2]; simp [lfI, h3]
--ev
theorem z_setdk (xs x) (nd : xs.Nodup) (h : x ∉ xs) (hl : xs.length < 1000) : mSetD (.int x) (dk true (kI xs)) [.lf (.bl true)] = some (.lf .non, dk true (kI (xs ++ [x]))) := dkI_put xs x nd h (small (by omega))
def fDic1' (env : List T) (k : V) : T → Option (T × List T)
  | .lf w => (keyOf k).map fun kk => (.nd true (.dK [kk]) [.lf w], env)
  | _ => none
def fDic1 (dv : DV) (env : List T) : T → Option (T × List T)
  | .lf k => (dv env).bind (fDic1' env k)
  | _ => none
--ev
theorem fDic1_ev (dv env k) : fDic1 dv env (.lf k) = (dv env).bind (fDic1' env k) := rfl
--ev
theorem fDic1'_ev (env) (k : Int) : fDic1' env (.int k) (.lf (.bl true)) = some (dk true (kI [k]), env) := rfl
--ev
theorem dDic1_ev (dk dv env) : dDic1 dk dv env = (dk env).bind (fDic1 dv env) := by
  unfold dDic1
  cases h1 : dk env with
  | none => rfl
  | some x => cases x with
    | lf k =>
      show _ = (dv env).bind (fDic1' env k)
      cases h2 : dv env with
      | none => rfl
      | some y => cases y <;> rfl
    | no => rfl
    | nd _ _ _ => rfl
def fLRg : T × List T → Option (T × List T)
  | (.lf (.int j), e) => if -(2 ^ 62) ≤ j ∧ j ≤ 2 ^ 24 then some (.nd true .lst (rngT j.toNat), e) else none
  | _ => none
def rgI (n : Nat) : List Int := (List.range n).map fun (k : Nat) => (k : Int)
theorem rgI_len (n) : (rgI n).length = n := by simp [rgI]
theorem rgI_asc (n) : Asc n (rgI n) := ⟨List.pairwise_map.mpr (List.pairwise_lt_range.imp fun h => by omega), fun x h => by
  obtain ⟨k, h2, rfl⟩ := List.mem_map.mp h
  have := List.mem_range.mp h2
  omega⟩
theorem asc_up {n : Nat} {xs : List Int} (h : Asc n xs) : Asc (n + 1) xs := ⟨h.lt, fun x hx => by have := h.bd x hx; omega⟩
theorem asc_snoc {n : Nat} {xs : List Int} (h : Asc n xs) : Asc (n + 1) (xs ++ [(n : Int)]) := by
  have one : ∀ b : Int, b ∈ [(n : Int)] → b = (n : Int) := fun b hb => by simpa using hb
  constructor
  · rw [List.pairwise_append]
    refine ⟨h.lt, List.pairwise_singleton _ _, fun a ha b hb => ?_⟩
    have h1 := h.bd a ha
    have h2 := one b hb
    omega
  · intro x hx
    rcases List.mem_append.mp hx with hx | hx
    · have := h.bd x hx; omega
    · have := one x hx; omega
theorem asc_one {n : Nat} {x : Int} (h : 0 ≤ x ∧ x < n) : Asc n [x] := by
  refine ⟨List.pairwise_singleton _ _, fun y hy => ?_⟩
  have : y = x := by simpa using hy
  omega
theorem mem_rgI {n : Nat} {x : Int} : x ∈ rgI n ↔ 0 ≤ x ∧ x < n := ⟨(rgI_asc n).bd x, fun h => List.mem_map.mpr ⟨x.toNat, List.mem_range.mpr (by omega), by omega⟩⟩
theorem rngT_rgI (n) : rngT n = (rgI n).map lfI := rng_map n
--ev
theorem fLRg_nat (n : Nat) (e) (h : n ≤ 1000) : fLRg (.lf (.int (n : Int)), e) = some (li true (rgI n), e) := by
  show (if -(2 ^ 62) ≤ (n : Int) ∧ (n : Int) ≤ 2 ^ 24 then some (T.nd true .lst (rngT (n : Int).toNat), e) else none) = _
  rw [if_pos (by omega)]; simp only [Int.toNat_natCast]; rw [rngT_rgI]; rfl
--ev
theorem dLRg_ev (d env) : dLRg d env = (d env).bind fLRg := by
  unfold dLRg; split <;> rename_i h
  · rw [h]; rfl
  · cases hd : d env with
    | none => rfl
    | some p =>
      obtain ⟨t, e⟩ := p; rw [Option.bind_some]; unfold fLRg; split
      · rename_i hp; cases hp; exact (h _ _ hd).elim
      · rfl
--ev
theorem z_len8 (n) : (rngT n).length = n := by simp [rngT]
--ev
theorem z_bind_some {α β : Type} (a : α) (f : α → Option β) : (some a).bind f = f a := rfl
--ev
theorem z_get0 {α : Type} (a : α) (l : List α) : (a :: l)[0]? = some a := rfl
--ev
theorem z_gets {α : Type} (a : α) (l : List α) (i : Nat) : (a :: l)[i + 1]? = l[i]? := rfl
--ev
theorem z_getD0 {α : Type} (a d : α) (l : List α) : (a :: l).getD 0 d = a := rfl
--ev
theorem z_getDs {α : Type} (a d : α) (l : List α) (i : Nat) : (a :: l).getD (i + 1) d = l.getD i d := rfl
--ev
theorem z_set0 {α : Type} (a b : α) (l : List α) : (a :: l).set 0 b = b :: l := rfl
--ev
theorem z_sets {α : Type} (a b : α) (l : List α) (i : Nat) : (a :: l).set (i + 1) b = a :: l.set i b := rfl
--ev
theorem z_app {α : Type} (a : α) (l m : List α) : (a :: l) ++ m = a :: (l ++ m) := rfl
--ev
theorem z_nil_app {α : Type} (m : List α) : ([] : List α) ++ m = m := rfl
--ev
theorem z_app_nil {α : Type} (m : List α) : m ++ [] = m := List.append_nil m
--ev
theorem z_map0 {α β : Type} (f : α → β) : [].map f = [] := rfl
--ev
theorem z_mapc (v : V) (l : List V) : (v :: l).map T.lf = T.lf v :: l.map T.lf := rfl
--ev
theorem z_rep0 : List.replicate 0 T.no = [] := rfl
--ev
theorem z_reps (n) : List.replicate (n + 1) T.no = T.no :: List.replicate n T.no := rfl
--ev
theorem z_lenc {α : Type} (a : α) (l : List α) : (a :: l).length = l.length + 1 := rfl
--ev
theorem z_lenn {α : Type} : ([] : List α).length = 0 := rfl
end Tr


set_option Elab.async false
set_option linter.all false
set_option maxRecDepth 100000
set_option maxHeartbeats 4000000
/-! D14: one mirror or another; slices. -/
namespace Tr
open PySem PySem.Spec PyProof.Rows L2

/-! ### scopes out of a text -/
def exSc : Expr → Scope
  | .ListComp _ _ s _ => s
  | _ => defScope (.Pass ⟨0, 0, 0, 0⟩)
/-- the scope of a comprehension within its def, as the names that it finds there are told -/
def reLbl (scope sc : Scope) : Scope := { scope with names := scope.names.map fun (n, k) => if (k == .free && sc.kind == .function && sc.names.lookup n == some .cell) then (n, .cell) else (n, k) }
def stV : Stmt → Expr
  | .Assign _ e _ => e
  | .Return (some e) _ => e
  | .Expr e _ => e
  | _ => .Constant .none 0 ⟨0, 0, 0, 0⟩
def stK (l : List Stmt) (k : Nat) : Stmt := l.getD k (.Pass ⟨0, 0, 0, 0⟩)
def stB : Stmt → List Stmt
  | .For _ _ b _ _ => b
  | .While _ b _ _ => b
  | .If _ b _ _ => b
  | _ => []
def stL : Stmt → List Stmt
  | .If _ _ b _ => b
  | _ => []
/-! ### one or the other -/
def elsE (a b : DE) : DE := fun env => match a env with
  | some r => some r
  | none => b env
def elsV (a b : DV) : DV := fun env => match a env with
  | some r => some r
  | none => b env
theorem elsE_some {a b : DE} {env : List T} {r : T × List T} (h : elsE a b env = some r) : a env = some r ∨ b env = some r := by
  unfold elsE at h
  cases e : a env with
  | some x => rw [e] at h; exact .inl h
  | none => rw [e] at h; exact .inr h
theorem elsV_some {a b : DV} {env : List T} {r : T} (h : elsV a b env = some r) : a env = some r ∨ b env = some r := by
  unfold elsV at h
  cases e : a env with
  | some x => rw [e] at h; exact .inl h
  | none => rw [e] at h; exact .inr h
section
variable {X : Cx} {e : Expr} {a b : DE} {va vb : DV}
theorem PE.els {t1 t2 t : TE} (h1 : PE X e t1) (h2 : PE X e t2) (i : ∀ σ H Q, t σ H Q → t1 σ H Q ∨ t2 σ H Q) : PE X e t := ⟨fun pins s σ H Q I q => (i σ H Q q).elim (h1.run pins s σ H Q I) (h2.run pins s σ H Q I)⟩
theorem SE.els (h1 : SE X e a) (h2 : SE X e b) : SE X e (elsE a b) := PE.els h1 h2 fun σ H Q ⟨F, env, S, t, env', ok, hd, q⟩ => (elsE_some hd).elim (fun z => .inl ⟨F, env, S, t, env', ok, z, q⟩) fun z => .inr ⟨F, env, S, t, env', ok, z, q⟩
theorem SR.els (h1 : SR X e a) (h2 : SR X e b) : SR X e (elsE a b) := PE.els h1 h2 fun σ H Q ⟨F, env, S, t, env', ok, hd, q⟩ => (elsE_some hd).elim (fun z => .inl ⟨F, env, S, t, env', ok, z, q⟩) fun z => .inr ⟨F, env, S, t, env', ok, z, q⟩
theorem SV.els (h1 : SV X e va) (h2 : SV X e vb) : SV X e (elsV va vb) := PE.els h1 h2 fun σ H Q ⟨F, env, S, t, ok, hd, q⟩ => (elsV_some hd).elim (fun z => .inl ⟨F, env, S, t, ok, z, q⟩) fun z => .inr ⟨F, env, S, t, ok, z, q⟩
end

/-! ### all frozen meanwhile, a leaf as the answer -/
def fBwS (env : List T) : T × List T → Option (T × List T)
  | (.lf w, _) => some (.lf w, env)
  | _ => none
def bwS (d : DE) : DE := fun env => (d (frzs env)).bind (fBwS env)
theorem bwS_imp {K : PySem.W.Frag} {mg : Mg} {d : DE} {σ : L2.St} {H : Hp} {Q : VK} (h : tR K mg (bwS d) σ H Q) : tR K mg d σ H Q := by
  obtain ⟨F, env, S, t, e, ok, hd, q⟩ := h
  obtain ⟨⟨t', e2⟩, h2, h3⟩ := Option.bind_eq_some_iff.mp hd
  cases t' with
  | lf w =>
    cases h3
    have ff := frF_le (A := S) ok.le
    refine ⟨frF F H S, frzs env, Emp, _, e2, ⟨ff.2, ok.st.freeze ff.1 fun x z => frF_in z⟩, h2, fun v F2 H2 S2 R st2 ok2 r => ?_⟩
    have kp : ∀ a o, H a = some o → H2 a = some o := fun a o z => st2.kp a o z fun z => z
    obtain ⟨e4, e5, _⟩ := r.lf_inv
    subst e4
    refine q v F H2 S Emp ⟨Le.refl _, fun a o z _ => kp a o z, fun _ _ z => .inl z, fun a z => .inl z⟩ ⟨fun a o z => kp a o (ok.le a o z), ok.st.frame (Le.refl _) fun x z => ?_⟩ (.lf e5 fun _ z => z)
    obtain ⟨⟨o, e1⟩, e3⟩ := ok.st.dom x z
    exact ⟨(kp x o e1).trans e1.symm, e3⟩
  | _ => cases h3
theorem SR.bwS {X : Cx} {e : Expr} {d : DE} (h : SR X e d) : SR X e (Tr.bwS d) := pew h fun _ _ _ => bwS_imp
theorem ST.bwS {X : Cx} {e : Expr} {d : DE} (h : ST X e d) : ST X e (Tr.bwS d) := ptw h fun _ _ _ => bwS_imp
/-! ### slices -/
def cutT {α : Type} (xs : List α) (lo hi : Option Int) : List α := (xs.drop (HT.sIx xs.length 0 lo)).take (HT.sIx xs.length xs.length hi - HT.sIx xs.length 0 lo)
/-- a bound: none, or a view -/
def ptT : Option DV → List T → Option (Option Int)
  | none, _ => some none
  | some v, env => match v env with
    | some (.lf (.int i)) => some (some i)
    | _ => none
def oSlL (lo hi : Option Int) : T → Option T
  | .nd _ .lst xs => if clns xs = true then some (.nd true .lst (cutT xs lo hi)) else none
  | .nd _ .rol xs => if clns xs = true then some (.nd true .lst (cutT xs lo hi)) else none
  | _ => none
def oSlT (lo hi : Option Int) : T → Option T
  | .nd _ .tup xs => if clns xs = true ∧ ¬ (HT.sIx xs.length 0 lo = 0 ∧ HT.sIx xs.length xs.length hi = xs.length) then some (.nd false .tup (cutT xs lo hi)) else none
  | _ => none
def oSlS (lo hi : Option Int) : T → Option T
  | .lf (.str z) => if z.length ≤ sizeLine then some (.lf (.str (cutS z lo hi))) else none
  | _ => none
def dSl (o : Option Int → Option Int → T → Option T) (d : DE) (lo hi : Option DV) : DE := fun env => (d env).bind fun p => (ptT lo p.2).bind fun l => (ptT hi p.2).bind fun u => (o l u p.1).map fun t => (t, p.2)
section
variable {K : PySem.W.Frag} {mg : Mg} {F H : Hp} {σ : L2.St}
theorem Reps.drop : ∀ (n : Nat) {vs : List V} {ts : List T}, Reps K mg F H vs ts Emp → Reps K mg F H (vs.drop n) (ts.drop n) Emp
  | 0, _, _, r => by simpa using r
  | n + 1, _, _, r => by
    cases r with
    | nil h => simpa using (Reps.nil (K := K) (mg := mg) (F := F) (H := H) (S := Emp) fun _ z => z)
    | cons r q d hS =>
      rw [List.drop_succ_cons, List.drop_succ_cons]
      exact Reps.drop n (q.iff fun x => ⟨fun z => z.elim, fun z => (hS x).mpr (.inr z)⟩)
theorem Reps.take : ∀ (n : Nat) {vs : List V} {ts : List T}, Reps K mg F H vs ts Emp → Reps K mg F H (vs.take n) (ts.take n) Emp
  | 0, _, _, r => by simpa using (Reps.nil (K := K) (mg := mg) (F := F) (H := H) (S := Emp) fun _ z => z)
  | n + 1, _, _, r => by
    cases r with
    | nil h => simpa using (Reps.nil (K := K) (mg := mg) (F := F) (H := H) (S := Emp) fun _ z => z)
    | cons r q d hS =>
      rw [List.take_succ_cons, List.take_succ_cons]
      exact .cons (S1 := Emp) (S2 := Emp) (r.iff fun x => ⟨fun z => z.elim, fun z => (hS x).mpr (.inl z)⟩) (Reps.take n (q.iff fun x => ⟨fun z => z.elim, fun z => (hS x).mpr (.inr z)⟩)) dj_emp fun x => ⟨fun z => z.elim, fun z => z.elim id id⟩
theorem Reps.cut {vs : List V} {ts : List T} (lo hi : Option Int) (r : Reps K mg F H vs ts Emp) : Reps K mg F H (cutV vs lo hi) (cutT ts lo hi) Emp := by
  unfold cutV cutT
  rw [r.length (S := Emp)]
  exact Reps.take _ (Reps.drop _ r)
theorem e_slL (lo hi : Option Int) : Op1E K mg (fun x H Q => rSlL K x lo hi H Q) (oSlL lo hi) := by
  intro F H x t R u Q le r h q
  have sq : ∀ {o : Bool} {k : Kd} {ys : List T}, (∀ {a : Addr} {vs : List V}, Here K mg H a k vs → SqL K H a vs) → Rep K mg F H x (.nd o k ys) R → clns ys = true → u = .nd true .lst (cutT ys lo hi) → rSlL K x lo hi H Q := by
    intro o k ys hk r c e
    obtain ⟨a, vs, S0, rfl, p, _, hr⟩ := r.nd_inv le
    refine ⟨a, vs, rfl, hk hr, fun l hl => ?_⟩
    obtain ⟨g1, g2, g3⟩ := new_one (k := .lst) (o := .lst (cutV vs lo hi)) le hl rfl ((p.clean0 c).cut lo hi)
    exact q _ _ _ _ g1 g2 (by rw [e]; exact g3)
  unfold oSlL at h
  split at h
  · split at h
    · exact sq (k := .lst) (fun z => SqL.of z) r (by assumption) (Option.some.inj h).symm
    · cases h
  · split at h
    · exact sq (k := .rol) (fun z => z) r (by assumption) (Option.some.inj h).symm
    · cases h
  · cases h
theorem e_slT (lo hi : Option Int) : Op1E K mg (fun x H Q => rSlT K x lo hi H Q) (oSlT lo hi) := by
  intro F H x t R u Q le r h q
  unfold oSlT at h
  split at h
  · split at h
    · rename_i o ys c
      cases h
      obtain ⟨a, vs, S0, rfl, p, _, hr⟩ := r.nd_inv le
      have hl := p.length (S := Emp)
      refine ⟨a, vs, rfl, SqT.of hr, by rw [hl]; exact c.2, fun l hp => ?_⟩
      obtain ⟨g1, g2, g3⟩ := new_tup le hp ((p.clean0 c.1).cut lo hi)
      exact q _ _ _ _ g1 g2 g3
    · cases h
  · cases h
theorem e_slS (lo hi : Option Int) : Op1E K mg (fun x H Q => rSlS x lo hi H Q) (oSlS lo hi) := by
  intro F H x t R u Q le r h q
  unfold oSlS at h
  split at h
  · split at h
    · cases h
      exact ⟨_, r.lf_inv.1, by assumption, q _ F H Emp .refl le (.lf rfl fun _ z => z)⟩
    · cases h
  · cases h
def tPO (K : PySem.W.Frag) (mg : Mg) : Option DV → TO
  | none => tNoPart
  | some v => tPart (tV K mg v)
theorem pt_imp {lo : Option DV} {env : List T} {l : Option Int} {S : AS} {Q : Option Int → Hp → Prop} (ok : Ok K mg F H σ env S) (h : ptT lo env = some l) (q : Q l H) : tPO K mg lo σ H Q := by
  cases lo with
  | none => cases h; exact q
  | some v =>
    replace h : (match v env with | some (.lf (.int i)) => some (some i) | _ => none) = some l := h
    cases e : v env with
    | none => rw [e] at h; cases h
    | some t =>
      rw [e] at h
      cases t with
      | lf w =>
        cases w with
        | int i => cases h; exact ⟨F, env, S, _, ok, e, fun w R r => ⟨i, r.lf_inv.1, q⟩⟩
        | _ => cases h
      | _ => cases h
theorem sl_imp {r : V → Option Int → Option Int → Hp → VK → Prop} {o : Option Int → Option Int → T → Option T} {d : DE} {lo hi : Option DV} {Q : VK} (hv : ∀ l u, Op1E K mg (fun x H Q => r x l u H Q) (o l u)) (h : tE K mg (dSl o d lo hi) σ H Q) :
    tSl r (tR K mg d) (tPO K mg lo) (tPO K mg hi) σ H Q := by
  obtain ⟨F, env, S, t, env', ok, hd, q⟩ := h
  obtain ⟨⟨x, e1⟩, h1, h2⟩ := Option.bind_eq_some_iff.mp hd
  obtain ⟨l, h3, h4⟩ := Option.bind_eq_some_iff.mp h2
  obtain ⟨u, h5, h6⟩ := Option.bind_eq_some_iff.mp h4
  obtain ⟨t', h7, h8⟩ := Option.map_eq_some_iff.mp h6
  cases h8
  refine ⟨F, env, S, x, _, ok, h1, fun v F1 H1 S1 R st ok1 r1 => pt_imp ok1 h3 (pt_imp ok1 h5 ?_)⟩
  refine hv l u F1 H1 v x R t Q ok1.le r1 h7 fun v' F2 H2 R' st2 le2 r' => ?_
  obtain ⟨a, b, c⟩ := fin_new st ok1 st2 le2
  exact q v' F2 H2 S1 R' a b r' c
end
/-- the bounds of a slice -/
inductive SP2 (X : Cx) : Option Expr → Option DV → Prop
  | no : SP2 X none none
  | so {e : Expr} {v : DV} : SV X e v → SP2 X (some e) (some v)
theorem SP2.po {X : Cx} {e : Option Expr} {v : Option DV} (h : SP2 X e v) : PO X e (tPO X.K X.mg v) := by
  cases h with
  | no => exact po_none
  | so h => exact po_some h
section
variable {X : Cx} {e : Expr} {lo hi : Option Expr} {vl vh : Option DV} {d : DE} {pos p2 : Pos}
theorem se_slL (he : SR X e d) (hl : SP2 X lo vl) (hh : SP2 X hi vh) : SE X (.Subscript e (.Slice lo hi none p2) pos) (dSl oSlL d vl vh) := pew (pe_slice sl_list he hl.po hh.po) fun _ _ _ h => sl_imp e_slL h
theorem se_slT (he : SR X e d) (hl : SP2 X lo vl) (hh : SP2 X hi vh) : SE X (.Subscript e (.Slice lo hi none p2) pos) (dSl oSlT d vl vh) := pew (pe_slice sl_tup he hl.po hh.po) fun _ _ _ h => sl_imp e_slT h
theorem se_slS (he : SR X e d) (hl : SP2 X lo vl) (hh : SP2 X hi vh) : SE X (.Subscript e (.Slice lo hi none p2) pos) (dSl oSlS d vl vh) := pew (pe_slice sl_str he hl.po hh.po) fun _ _ _ h => sl_imp e_slS h
end
/-! ### a value into a target -/
def dAsg (d : DE) (dg : DG) : DS := fun env => (d env).bind fun p => (dg p.1 p.2).map fun e => (.nx, e)
theorem ss_asg2 {X : Cx} {value tg : Expr} {pos : Pos} {W : List Nat} {dv : DE} {dg : DG} (hv : SE X value dv) (hg : SG X tg W dg) (hs : swapsWithSole [tg] value pos.line X.env = pure false := by rfl) (hw : swappedStores [tg] value X.env = pure none := by rfl)
    (h1 : (assignEach [tg] X.env).map (·.2) = [assign tg X.env] := by rfl) : SS X (.Assign [tg] value pos) W (dAsg dv dg) := ss_asg hv hg hs hw h1
/-! ### + of tuples -/
def oCatT : T → T → Option T
  | .nd _ .tup xs, .nd _ .tup ys => if clns xs = true ∧ clns ys = true ∧ xs ≠ [] ∧ ys ≠ [] ∧ xs.length + ys.length ≤ sizeLine then some (.nd false .tup (xs ++ ys)) else none
  | _, _ => none
theorem e_catT {K : PySem.W.Frag} {mg : Mg} : Op2E K mg (rCatT K) oCatT := by
  intro F H x y t s R R2 u Q le r1 r2 h q
  unfold oCatT at h
  split at h
  · split at h
    · rename_i xs _ ys c
      cases h
      obtain ⟨a, vs, S0, rfl, p1, _, h1⟩ := r1.nd_inv le
      obtain ⟨b, ws, S1, rfl, p2, _, h2⟩ := r2.nd_inv le
      have l1 := p1.length (S := Emp)
      have l2 := p2.length (S := Emp)
      have n1 : vs ≠ [] := fun e => c.2.2.1 (List.length_eq_zero_iff.mp (by rw [← l1, e]; rfl))
      have n2 : ws ≠ [] := fun e => c.2.2.2.1 (List.length_eq_zero_iff.mp (by rw [← l2, e]; rfl))
      refine ⟨a, b, vs, ws, rfl, rfl, SqT.of h1, SqT.of h2, n1, by rw [l1, l2]; exact c.2.2.2.2, fun e => (n2 e).elim, fun _ p hp => ?_⟩
      have rr := Reps.append (p2.clean0 c.2.1) (p1.clean0 c.1) fun _ z => z.elim
      obtain ⟨g1, g2, g3⟩ := new_tup le hp (rr.iff (S' := Emp) fun x => ⟨fun z => z.elim, fun z => z.elim id id⟩)
      exact q _ _ _ _ g1 g2 g3
    · cases h
  · cases h
/-! ### two values of one's own -/
def Op2X (K : PySem.W.Frag) (mg : Mg) (r : R2) (o : T → T → Option T) : Prop := ∀ (F H : Hp) (x y : V) (t s : T) (R R2 : AS) (u : T) (Q : VK), Le F H → Rep K mg F H x t R → Rep K mg F H y s R2 → Dj R R2 → o t s = some u →
  (∀ v F' H' R', Stp F H (Cup R R2) F' H' R' → Le F' H' → Rep K mg F' H' v u R' → Q v H') → r x y H Q
section
variable {K : PySem.W.Frag} {mg : Mg} {p : T → T → Option T} {da db : DE} {r : R2} {σ : L2.St} {H : Hp} {Q : VK}
theorem i2x (h : Op2X K mg r p) (q : tE K mg (o2o p da db) σ H Q) : tOp r (tE K mg da) (tE K mg db) σ H Q := by
  obtain ⟨F, env, S, t, env', ok, hd, q⟩ := q
  obtain ⟨x, e1, y, h1, h3, h4⟩ := o2o_some hd
  refine ⟨F, env, S, x, e1, ok, h1, fun v F1 H1 S1 R st ok1 r dj => ⟨F1, e1, S1, y, _, ok1, h3, fun w F2 H2 S2 R2 st2 ok2 r' dj2 => ?_⟩⟩
  obtain ⟨g1, g2, g3⟩ := join_step st (fun x z => (r.dom x z).1) dj st2
  refine h F2 H2 v w x y R R2 t Q ok2.le (r.keep st2 dj) r' g2 h4 fun v' F3 H3 R3 st3 le3 r3 => ?_
  have dS : Dj (Cup R R2) S2 := fun z a b => a.elim (fun a => g3 z b a) fun a => dj2 z b a
  have ok3 := ok2.keep st3 dS le3
  exact q v' F3 H3 S2 R3 (g1.trans (st3.frameL S2)) ok3 r3 fun z a b => st3.dj (fun y z => (ok2.st.dom y z).1) dS z b a
end
theorem se_binx {X : Cx} {op : Operator} {a b : Expr} {pos : Pos} {r : R2} {o : T → T → Option T} {da db : DE} (ho : OpR X (binaryOp op) r) (hv : Op2X X.K X.mg r o) (ha : SE X a da) (hb : SE X b db) : SE X (.BinOp a op b pos) (o2o o da db) := pew (pe_op ho ha hb) fun _ _ _ => i2x hv
def oCatX : T → T → Option T
  | .nd false .tup xs, .nd false .tup ys => if xs ≠ [] ∧ ys ≠ [] ∧ xs.length + ys.length ≤ sizeLine then some (.nd false .tup (xs ++ ys)) else none
  | _, _ => none
theorem e_catX {K : PySem.W.Frag} {mg : Mg} : Op2X K mg (rCatT K) oCatX := by
  intro F H x y t s R R2 u Q le r1 r2 dj h q
  unfold oCatX at h
  split at h
  · split at h
    · rename_i xs ys c
      cases h
      have f1 : ∃ a vs, x = .ref a ∧ F a = some (.tup vs) ∧ Reps K mg F H vs xs R := by
        cases r1 with
        | frz e cc r => cases cc; exact ⟨_, _, rfl, e, r⟩
      have f2 : ∃ a vs, y = .ref a ∧ F a = some (.tup vs) ∧ Reps K mg F H vs ys R2 := by
        cases r2 with
        | frz e cc r => cases cc; exact ⟨_, _, rfl, e, r⟩
      obtain ⟨a, vs, rfl, ea, p1⟩ := f1
      obtain ⟨b, ws, rfl, eb, p2⟩ := f2
      have l1 := p1.length (S := Emp)
      have l2 := p2.length (S := Emp)
      have n1 : vs ≠ [] := fun e => c.1 (List.length_eq_zero_iff.mp (by rw [← l1, e]; rfl))
      have n2 : ws ≠ [] := fun e => c.2.1 (List.length_eq_zero_iff.mp (by rw [← l2, e]; rfl))
      refine ⟨a, b, vs, ws, rfl, rfl, SqT.of (le _ _ ea), SqT.of (le _ _ eb), n1, by rw [l1, l2]; exact c.2.2, fun e => (n2 e).elim, fun _ l hp => ?_⟩
      have fp : F l = none := le.nn hp
      have ff : Le F (upd F l (.tup (vs ++ ws))) := fun z o e => by rw [upd_ne (ne_of_none e fp)]; exact e
      have le2 : Le (upd F l (.tup (vs ++ ws))) (upd H l (.tup (vs ++ ws))) := fun z o e => by
        by_cases hz : z = l
        · subst hz; rw [upd_same] at e ⊢; exact e
        · rw [upd_ne hz] at e ⊢; exact le z o e
      have pp := Reps.append p2 p1 dj
      refine q (.ref l) _ _ (Cup R R2) ⟨ff, fun z o e _ => by rw [upd_ne (ne_of_none e hp)]; exact e, fun z o e => ?_, fun z hz => .inl hz⟩ le2 (.frz upd_same rfl (pp.frame ff fun z hz => ?_))
      · by_cases hz : z = l
        · exact .inr (.inr (by rw [hz]; exact hp))
        · rw [upd_ne hz] at e; exact .inl e
      · obtain ⟨⟨o, e1⟩, e2⟩ := pp.dom z hz
        have hn : z ≠ l := fun e => by rw [e, hp] at e1; cases e1
        exact ⟨upd_ne hn, by rw [upd_ne hn]; exact e2⟩
    · cases h
  · cases h
end Tr


set_option Elab.async false
set_option linter.all false
set_option maxRecDepth 100000
set_option maxHeartbeats 4000000
namespace Wk
open PySem PySem.Spec PyProof.Rows L2 Tr
/-! ### the text by places -/
def top (i : Nat) : Stmt := PySem.Challenge.pw_treesay_k55_lives_told.main.body.getD i (.Pass ⟨0, 0, 0, 0⟩)
abbrev s_law_small_by : Stmt := top 39
abbrev s_law_cell_at : Stmt := top 33
abbrev s_law_mix : Stmt := top 35
abbrev s_law_steps_by : Stmt := top 36
abbrev s_law_fair_by : Stmt := top 38
abbrev s_look_stands : Stmt := top 29
abbrev s_is_mark : Stmt := top 28
abbrev s_look_machine : Stmt := top 30
abbrev s_Machine_init : Stmt := inClass (top 31) 0
abbrev s_law_word_by : Stmt := top 40
abbrev s_law_set_by : Stmt := top 37
abbrev s_keyed : Stmt := top 2
abbrev s_Machine_next_of : Stmt := inClass (top 31) 2
abbrev s_touches : Stmt := top 3
abbrev s_shrinking : Stmt := top 5
abbrev s_Machine_fair_at : Stmt := inClass (top 31) 5
abbrev s_Machine_many : Stmt := inClass (top 31) 1
abbrev s_growing : Stmt := top 4
abbrev s_core : Stmt := top 10
abbrev s_reach : Stmt := top 9
abbrev s_missed_of : Stmt := top 14
abbrev s_ranks : Stmt := top 15
abbrev s_alive : Stmt := top 11
abbrev s_bottom_of : Stmt := top 12
abbrev s_distances : Stmt := top 6
abbrev s_short_walk : Stmt := top 7
abbrev s_loop_within : Stmt := top 13
abbrev s_lives : Stmt := top 17
abbrev s_law_whole : Stmt := top 34
abbrev s_law_walk : Stmt := top 41
abbrev s_law_loop : Stmt := top 42
abbrev s_law_is_rank : Stmt := top 43
abbrev s_law_falls : Stmt := top 44
abbrev s_law_ranked : Stmt := top 45
abbrev s_law_told : Stmt := top 46
abbrev s_law : Stmt := top 47
def k_KEPT : T := .nd false .rot [.lf (.str "all"), .lf (.str "not"), .lf (.str "both"), .lf (.str "either"), .lf (.str "somenext"), .lf (.str "eachnext"), .lf (.str "sometill"), .lf (.str "eachtill"), .lf (.str "someever"), .lf (.str "eachever")]
def k_LETTERS : T := .lf (.str "abcdefghijklmnopqrstuvwxyz")
def k_LONGEST : T := .lf (.int 8)
def k_MOST_STANDS : T := .lf (.int 60)
/-! ### the mirrors -/
def b_law_small_by : DS := (dSeq (dIf (vr (o2V oEq (o2V oMod (gV 0) (gC (.int 8))) (gC (.int 5)))) (dRet (re (vr (o2V oAdd (gC (.int 1)) (o2V oMod (o2V oDiv (gV 0) (gC (.int 8))) (gC (.int 12))))))) dNx) (dRet (re (vr (o2V oAdd (gC (.int 1)) (o2V oMod (o2V oDiv (gV 0) (gC (.int 8))) (gC (.int 8))))))))
def m_law_small_by : FT := dFun [true] 1 b_law_small_by
theorem bn_law_small_by : b_law_small_by = (dSeq (dIf (vr (o2V oEq (o2V oMod (gV 0) (gC (.int 8))) (gC (.int 5)))) (dRet (re (vr (o2V oAdd (gC (.int 1)) (o2V oMod (o2V oDiv (gV 0) (gC (.int 8))) (gC (.int 12))))))) dNx) (dRet (re (vr (o2V oAdd (gC (.int 1)) (o2V oMod (o2V oDiv (gV 0) (gC (.int 8))) (gC (.int 8)))))))) := rfl
abbrev e_law_small_by (v0_cell : T) : List T := [v0_cell]
def b_law_cell_at : DS := (dSeq (dIf (vr (o2V oLt (gV 1) (o1V oLen (gV 0)))) (dRet (re (vr (o2V oIx (gV 0) (gV 1))))) dNx) (dRet (re (vr (gC (.int 0))))))
def m_law_cell_at : FT := dFun [true, true] 2 b_law_cell_at
theorem bn_law_cell_at : b_law_cell_at = (dSeq (dIf (vr (o2V oLt (gV 1) (o1V oLen (gV 0)))) (dRet (re (vr (o2V oIx (gV 0) (gV 1))))) dNx) (dRet (re (vr (gC (.int 0)))))) := rfl
abbrev e_law_cell_at (v0_script v1_k : T) : List T := [v0_script, v1_k]
def b_law_mix : DS := (dSeq (dSet 2 (re (vr (o2V oMod (o2V oAdd (o2V oAdd (o2V oMul (gV 0) (o2V oAdd (gC (.int 48271)) (o2V oMul (gC (.int 2)) (gV 1)))) (o2V oMul (gC (.int 7919)) (gV 1))) (gC (.int 5))) (gC (.int 99991)))))) (dRet (re (vr (o2V oMod (o2V oMul (gV 2) (o2V oAdd (o2V oAdd (gV 2) (gC (.int 3))) (gV 1))) (gC (.int 99989)))))))
def m_law_mix : FT := dFun [true, true] 3 b_law_mix
theorem bn_law_mix : b_law_mix = (dSeq (dSet 2 (re (vr (o2V oMod (o2V oAdd (o2V oAdd (o2V oMul (gV 0) (o2V oAdd (gC (.int 48271)) (o2V oMul (gC (.int 2)) (gV 1)))) (o2V oMul (gC (.int 7919)) (gV 1))) (gC (.int 5))) (gC (.int 99991)))))) (dRet (re (vr (o2V oMod (o2V oMul (gV 2) (o2V oAdd (o2V oAdd (gV 2) (gC (.int 3))) (gV 1))) (gC (.int 99989))))))) := rfl
abbrev e_law_mix (v0_cell v1_k v2_one : T) : List T := [v0_cell, v1_k, v2_one]
def b_law_steps_by : DS := (dSeq (dSet 2 (dLst aNil)) (dSeq (dFor (dRng (vr (gV 1))) (gN 3) (dSeq (dSet 4 (dCall m_law_cell_at [none, none] [] (aCons (gS 0) (aCons (re (vr (o2V oAdd (gC (.int 4)) (o2V oMod (gV 3) (o2V oMax (gC (.int 1)) (o2V oSub (o1V oLen (gV 0)) (gC (.int 4)))))))) aNil)))) (dSeq (dSet 5 (dLst aNil)) (dSeq (dFor (dRng (o2c oAdd (vr (gC (.int 1))) (o2v oMod (dCall m_law_mix [none, none] [] (aCons (gS 4) (aCons (gS 3) aNil))) (gC (.int 3))))) (gN 6) (dSeq (dSet 7 (re (o2v oMod (dCall m_law_mix [none, none] [] (aCons (re (vr (o2V oAdd (gV 4) (gV 6)))) (aCons (re (vr (o2V oAdd (o2V oAdd (gV 3) (o2V oMul (gC (.int 70)) (gV 6))) (gC (.int 70))))) aNil))) (gV 1)))) (dSeq (dIf (o2v oEq (o2v oMod (dCall m_law_mix [none, none] [] (aCons (gS 4) (aCons (re (vr (o2V oAdd (o2V oAdd (gC (.int 300)) (gV 3)) (gV 6)))) aNil))) (gC (.int 3))) (gC (.int 0))) (dSet 7 (re (vr (o2V oMod (o2V oAdd (gV 3) (gC (.int 1))) (gV 1))))) dNx) (dIf (vr (o2V oNotIn (gV 7) (gV 5))) (dEx (dMut "list" 5 mAppend (aCons (gM 7) aNil))) dNx)))) (dEx (dMut "list" 2 mAppend (aCons (gM 5) aNil))))))) (dRet (gM 2))))
def m_law_steps_by : FT := dFun [true, true] 8 b_law_steps_by
def l_law_steps_by_2 : DS := (dSeq (dSet 7 (re (o2v oMod (dCall m_law_mix [none, none] [] (aCons (re (vr (o2V oAdd (gV 4) (gV 6)))) (aCons (re (vr (o2V oAdd (o2V oAdd (gV 3) (o2V oMul (gC (.int 70)) (gV 6))) (gC (.int 70))))) aNil))) (gV 1)))) (dSeq (dIf (o2v oEq (o2v oMod (dCall m_law_mix [none, none] [] (aCons (gS 4) (aCons (re (vr (o2V oAdd (o2V oAdd (gC (.int 300)) (gV 3)) (gV 6)))) aNil))) (gC (.int 3))) (gC (.int 0))) (dSet 7 (re (vr (o2V oMod (o2V oAdd (gV 3) (gC (.int 1))) (gV 1))))) dNx) (dIf (vr (o2V oNotIn (gV 7) (gV 5))) (dEx (dMut "list" 5 mAppend (aCons (gM 7) aNil))) dNx)))
def l_law_steps_by_1 : DS := (dSeq (dSet 4 (dCall m_law_cell_at [none, none] [] (aCons (gS 0) (aCons (re (vr (o2V oAdd (gC (.int 4)) (o2V oMod (gV 3) (o2V oMax (gC (.int 1)) (o2V oSub (o1V oLen (gV 0)) (gC (.int 4)))))))) aNil)))) (dSeq (dSet 5 (dLst aNil)) (dSeq (dFor (dRng (o2c oAdd (vr (gC (.int 1))) (o2v oMod (dCall m_law_mix [none, none] [] (aCons (gS 4) (aCons (gS 3) aNil))) (gC (.int 3))))) (gN 6) l_law_steps_by_2) (dEx (dMut "list" 2 mAppend (aCons (gM 5) aNil))))))
theorem bn_law_steps_by : b_law_steps_by = (dSeq (dSet 2 (dLst aNil)) (dSeq (dFor (dRng (vr (gV 1))) (gN 3) l_law_steps_by_1) (dRet (gM 2)))) := rfl
abbrev e_law_steps_by (v0_script v1_many v2_steps v3_stand v4_cell v5_row v6_k v7_other : T) : List T := [v0_script, v1_many, v2_steps, v3_stand, v4_cell, v5_row, v6_k, v7_other]
def b_law_fair_by : DS := (dSeq (dSet 2 (dLst aNil)) (dSeq (dSet 3 (re (vr (o2V oDiv (gV 0) (gC (.int 4)))))) (dSeq (dFor (dRng (vr (o2V oMod (gV 0) (gC (.int 4))))) (gN 4) (dSeq (dSet 5 (dLst aNil)) (dSeq (dSet 6 (re (o2o oIx (dLst (aCons (re (vr (gC (.int 1)))) (aCons (re (vr (gC (.int 2)))) (aCons (re (vr (gC (.int 2)))) (aCons (re (vr (gC (.int 3)))) (aCons (re (vr (gC (.int 6)))) aNil)))))) (o2v oMod (dCall m_law_mix [none, none] [] (aCons (gS 0) (aCons (re (vr (o2V oAdd (gC (.int 400)) (gV 4)))) aNil))) (gC (.int 5)))))) (dSeq (dFor (dRng (vr (gV 1))) (gN 7) (dSeq (dSet 8 (re (o1 oInt (o2v oLt (o2v oMod (dCall m_law_mix [none, none] [] (aCons (gS 0) (aCons (re (vr (o2V oAdd (o2V oAdd (gC (.int 500)) (o2V oMul (gC (.int 61)) (gV 4))) (gV 7)))) aNil))) (gC (.int 6))) (gV 6))))) (dSeq (dIf (vr (o2V oGe (gV 0) (o2V oPow (gC (.int 10)) (gC (.int 18))))) (dSet 8 (re (vr (o2V oMod (gV 3) (gC (.int 2)))))) dNx) (dSeq (dIf (vr (o2V oEq (gV 8) (gC (.int 1)))) (dEx (dMut "list" 5 mAppend (aCons (gM 7) aNil))) dNx) (dSet 3 (re (vr (o2V oDiv (gV 3) (gC (.int 2)))))))))) (dSeq (dIf (dAnd (o2n oEq 5 (dLst aNil)) (dAnd (vr (o2V oLt (gV 0) (o2V oPow (gC (.int 10)) (gC (.int 18))))) (o2v oGt (o2v oMod (dCall m_law_mix [none, none] [] (aCons (gS 0) (aCons (re (vr (o2V oAdd (gC (.int 450)) (gV 4)))) aNil))) (gC (.int 8))) (gC (.int 0))))) (dSet 5 (dLst (aCons (re (o2v oMod (dCall m_law_mix [none, none] [] (aCons (gS 0) (aCons (re (vr (o2V oAdd (gC (.int 460)) (gV 4)))) aNil))) (gV 1))) aNil))) dNx) (dEx (dMut "list" 2 mAppend (aCons (gM 5) aNil)))))))) (dRet (gM 2)))))
def m_law_fair_by : FT := dFun [true, true] 9 b_law_fair_by
def l_law_fair_by_2 : DS := (dSeq (dSet 8 (re (o1 oInt (o2v oLt (o2v oMod (dCall m_law_mix [none, none] [] (aCons (gS 0) (aCons (re (vr (o2V oAdd (o2V oAdd (gC (.int 500)) (o2V oMul (gC (.int 61)) (gV 4))) (gV 7)))) aNil))) (gC (.int 6))) (gV 6))))) (dSeq (dIf (vr (o2V oGe (gV 0) (o2V oPow (gC (.int 10)) (gC (.int 18))))) (dSet 8 (re (vr (o2V oMod (gV 3) (gC (.int 2)))))) dNx) (dSeq (dIf (vr (o2V oEq (gV 8) (gC (.int 1)))) (dEx (dMut "list" 5 mAppend (aCons (gM 7) aNil))) dNx) (dSet 3 (re (vr (o2V oDiv (gV 3) (gC (.int 2)))))))))
def l_law_fair_by_1 : DS := (dSeq (dSet 5 (dLst aNil)) (dSeq (dSet 6 (re (o2o oIx (dLst (aCons (re (vr (gC (.int 1)))) (aCons (re (vr (gC (.int 2)))) (aCons (re (vr (gC (.int 2)))) (aCons (re (vr (gC (.int 3)))) (aCons (re (vr (gC (.int 6)))) aNil)))))) (o2v oMod (dCall m_law_mix [none, none] [] (aCons (gS 0) (aCons (re (vr (o2V oAdd (gC (.int 400)) (gV 4)))) aNil))) (gC (.int 5)))))) (dSeq (dFor (dRng (vr (gV 1))) (gN 7) l_law_fair_by_2) (dSeq (dIf (dAnd (o2n oEq 5 (dLst aNil)) (dAnd (vr (o2V oLt (gV 0) (o2V oPow (gC (.int 10)) (gC (.int 18))))) (o2v oGt (o2v oMod (dCall m_law_mix [none, none] [] (aCons (gS 0) (aCons (re (vr (o2V oAdd (gC (.int 450)) (gV 4)))) aNil))) (gC (.int 8))) (gC (.int 0))))) (dSet 5 (dLst (aCons (re (o2v oMod (dCall m_law_mix [none, none] [] (aCons (gS 0) (aCons (re (vr (o2V oAdd (gC (.int 460)) (gV 4)))) aNil))) (gV 1))) aNil))) dNx) (dEx (dMut "list" 2 mAppend (aCons (gM 5) aNil)))))))
theorem bn_law_fair_by : b_law_fair_by = (dSeq (dSet 2 (dLst aNil)) (dSeq (dSet 3 (re (vr (o2V oDiv (gV 0) (gC (.int 4)))))) (dSeq (dFor (dRng (vr (o2V oMod (gV 0) (gC (.int 4))))) (gN 4) l_law_fair_by_1) (dRet (gM 2))))) := rfl
abbrev e_law_fair_by (v0_cell v1_many v2_fair v3_rest v4_k v5_some v6_way v7_stand v8_one : T) : List T := [v0_cell, v1_many, v2_fair, v3_rest, v4_k, v5_some, v6_way, v7_stand, v8_one]
def b_look_stands : DS := (dSeq (dSet 2 dDic) (dFor (dIt itemsL (gM 0)) (gN 3) (dSeq (dIf (dOr (o1 oNot (vr (o1V (oIsi "int") (gV 3)))) (vr (o1V (oIsi "bool") (gV 3)))) dFail dNx) (dSeq (dIf (dOr (vr (o2V oLt (gV 3) (gC (.int 0)))) (dOr (vr (o2V oGe (gV 3) (gV 1))) (vr (o2V oIn (gV 3) (gV 2))))) dFail dNx) (dPut 2 mSetD (re (vr (gC (.bl true)))) (gV 3))))))
def m_look_stands : FT := dFun [true, true] 4 b_look_stands
def l_look_stands_1 : DS := (dSeq (dIf (dOr (o1 oNot (vr (o1V (oIsi "int") (gV 3)))) (vr (o1V (oIsi "bool") (gV 3)))) dFail dNx) (dSeq (dIf (dOr (vr (o2V oLt (gV 3) (gC (.int 0)))) (dOr (vr (o2V oGe (gV 3) (gV 1))) (vr (o2V oIn (gV 3) (gV 2))))) dFail dNx) (dPut 2 mSetD (re (vr (gC (.bl true)))) (gV 3))))
theorem bn_look_stands : b_look_stands = (dSeq (dSet 2 dDic) (dFor (dIt itemsL (gM 0)) (gN 3) l_look_stands_1)) := rfl
abbrev e_look_stands (v0_stands v1_many v2_ahead v3_stand : T) : List T := [v0_stands, v1_many, v2_ahead, v3_stand]
def b_is_mark : DS := (dSeq (dIf (dOr (vr (o2V oLt (o1V oLen (gV 0)) (gC (.int 1)))) (dOr (vr (o2V oGt (o1V oLen (gV 0)) (gG k_LONGEST))) (vr (o2V oIn (gV 0) (gG k_KEPT))))) (dRet (re (vr (gC (.bl false))))) dNx) (dSeq (dFor (dIt itemsS (vr (gV 0))) (gN 1) (dIf (vr (o2V oNotIn (gV 1) (gG k_LETTERS))) (dRet (re (vr (gC (.bl false))))) dNx)) (dRet (re (vr (gC (.bl true)))))))
def m_is_mark : FT := dFun [true] 2 b_is_mark
def l_is_mark_1 : DS := (dIf (vr (o2V oNotIn (gV 1) (gG k_LETTERS))) (dRet (re (vr (gC (.bl false))))) dNx)
theorem bn_is_mark : b_is_mark = (dSeq (dIf (dOr (vr (o2V oLt (o1V oLen (gV 0)) (gC (.int 1)))) (dOr (vr (o2V oGt (o1V oLen (gV 0)) (gG k_LONGEST))) (vr (o2V oIn (gV 0) (gG k_KEPT))))) (dRet (re (vr (gC (.bl false))))) dNx) (dSeq (dFor (dIt itemsS (vr (gV 0))) (gN 1) l_is_mark_1) (dRet (re (vr (gC (.bl true))))))) := rfl
abbrev e_is_mark (v0_name v1_sign : T) : List T := [v0_name, v1_sign]
def b_look_machine : DS := (dSeq (dSet 3 (re (vr (o1V oLen (gV 0))))) (dSeq (dIf (dOr (vr (o2V oLt (gV 3) (gC (.int 1)))) (vr (o2V oGt (gV 3) (gG k_MOST_STANDS)))) dFail dNx) (dSeq (dFor (dIt itemsL (gM 0)) (gN 4) (dSeq (dEx (dCall m_look_stands [none, none] [] (aCons (gS 4) (aCons (gS 3) aNil)))) (dIf (vr (o2V oEq (o1V oLen (gV 4)) (gC (.int 0)))) dFail dNx))) (dSeq (dSet 5 dDic) (dSeq (dFor (dIt itemsL (gM 1)) (gT2 (gN 6) (gN 4)) (dSeq (dIf (dOr (o1 oNot (bw (dCall m_is_mark [none] [] (aCons (gS 6) aNil)))) (vr (o2V oIn (gV 6) (gV 5)))) dFail dNx) (dSeq (dPut 5 mSetD (re (vr (gC (.bl true)))) (gV 6)) (dEx (dCall m_look_stands [none, none] [] (aCons (gM 4) (aCons (gS 3) aNil))))))) (dFor (dIt itemsL (gM 2)) (gN 4) (dEx (dCall m_look_stands [none, none] [] (aCons (gM 4) (aCons (gS 3) aNil))))))))))
def m_look_machine : FT := dFun [true, true, true] 7 b_look_machine
def l_look_machine_1 : DS := (dSeq (dEx (dCall m_look_stands [none, none] [] (aCons (gS 4) (aCons (gS 3) aNil)))) (dIf (vr (o2V oEq (o1V oLen (gV 4)) (gC (.int 0)))) dFail dNx))
def l_look_machine_2 : DS := (dSeq (dIf (dOr (o1 oNot (bw (dCall m_is_mark [none] [] (aCons (gS 6) aNil)))) (vr (o2V oIn (gV 6) (gV 5)))) dFail dNx) (dSeq (dPut 5 mSetD (re (vr (gC (.bl true)))) (gV 6)) (dEx (dCall m_look_stands [none, none] [] (aCons (gM 4) (aCons (gS 3) aNil))))))
def l_look_machine_3 : DS := (dEx (dCall m_look_stands [none, none] [] (aCons (gM 4) (aCons (gS 3) aNil))))
theorem bn_look_machine : b_look_machine = (dSeq (dSet 3 (re (vr (o1V oLen (gV 0))))) (dSeq (dIf (dOr (vr (o2V oLt (gV 3) (gC (.int 1)))) (vr (o2V oGt (gV 3) (gG k_MOST_STANDS)))) dFail dNx) (dSeq (dFor (dIt itemsL (gM 0)) (gN 4) l_look_machine_1) (dSeq (dSet 5 dDic) (dSeq (dFor (dIt itemsL (gM 1)) (gT2 (gN 6) (gN 4)) l_look_machine_2) (dFor (dIt itemsL (gM 2)) (gN 4) l_look_machine_3)))))) := rfl
abbrev e_look_machine (v0_steps v1_marks v2_fair v3_many v4_stands v5_ahead v6_name : T) : List T := [v0_steps, v1_marks, v2_fair, v3_many, v4_stands, v5_ahead, v6_name]
def b_Machine_init : DS := (dSeq (dIf (vr (o2V oIsN (gV 2) (gC .non))) (dSet 2 (dLst aNil)) dNx) (dSeq (dIf (vr (o2V oIsN (gV 3) (gC .non))) (dSet 3 (dLst aNil)) dNx) (dSeq (dEx (dCall m_look_machine [none, none, none] [] (aCons (gS 1) (aCons (gS 2) (aCons (gS 3) aNil))))) (dSeq (dPut 0 (fun _ => mFld "Machine" "steps") (dLc (dIt itemsL (gM 1)) (gN 4) dYes (o1 oList (vr (gV 4))) [4]) (gC .non)) (dSeq (dPut 0 (fun _ => mFld "Machine" "marks") (dLc (dIt itemsL (gM 2)) (gN 5) dYes (dTup (aCons (re (vr (o2V oIx (gV 5) (gC (.int 0))))) (aCons (o1 oList (vr (o2V oIx (gV 5) (gC (.int 1))))) aNil))) [5]) (gC .non)) (dPut 0 (fun _ => mFld "Machine" "fair") (dLc (dIt itemsL (gM 3)) (gN 4) dYes (o1 oList (vr (gV 4))) [4]) (gC .non)))))))
def m_Machine_init : FT := dFun [true, true, false, false] 6 b_Machine_init
def x_Machine_init_1 : DE := (o1 oList (vr (gV 4)))
def x_Machine_init_2 : DE := (dTup (aCons (re (vr (o2V oIx (gV 5) (gC (.int 0))))) (aCons (o1 oList (vr (o2V oIx (gV 5) (gC (.int 1))))) aNil)))
def x_Machine_init_3 : DE := (o1 oList (vr (gV 4)))
theorem bn_Machine_init : b_Machine_init = (dSeq (dIf (vr (o2V oIsN (gV 2) (gC .non))) (dSet 2 (dLst aNil)) dNx) (dSeq (dIf (vr (o2V oIsN (gV 3) (gC .non))) (dSet 3 (dLst aNil)) dNx) (dSeq (dEx (dCall m_look_machine [none, none, none] [] (aCons (gS 1) (aCons (gS 2) (aCons (gS 3) aNil))))) (dSeq (dPut 0 (fun _ => mFld "Machine" "steps") (dLc (dIt itemsL (gM 1)) (gN 4) dYes x_Machine_init_1 [4]) (gC .non)) (dSeq (dPut 0 (fun _ => mFld "Machine" "marks") (dLc (dIt itemsL (gM 2)) (gN 5) dYes x_Machine_init_2 [5]) (gC .non)) (dPut 0 (fun _ => mFld "Machine" "fair") (dLc (dIt itemsL (gM 3)) (gN 4) dYes x_Machine_init_3 [4]) (gC .non))))))) := rfl
abbrev e_Machine_init (v0_self v1_steps v2_marks v3_fair v4_stands v5_pair : T) : List T := [v0_self, v1_steps, v2_marks, v3_fair, v4_stands, v5_pair]
def b_law_word_by : DS := (dSeq (dSet 2 (re (vr (gC (.str "abcdefghijklmnopqrstuvwxyz"))))) (dSeq (dSet 3 (re (vr (o2V oAdd (gC (.int 1)) (o2V oMod (gV 0) (gC (.int 8))))))) (dSeq (dSet 4 (re (vr (gC (.str ""))))) (dSeq (dFor (dRng (vr (gV 3))) (gN 5) (dSeq (dSet 6 (re (vr (o2V oAdd (o2V oDiv (gV 0) (gC (.int 64))) (o2V oMul (gV 5) (gV 5)))))) (dSeq (dIf (vr (o2V oEq (gV 5) (o2V oMod (o2V oDiv (gV 0) (gC (.int 8))) (gV 3)))) (dSet 6 (re (vr (o2V oAdd (gV 6) (gV 1))))) dNx) (dSet 4 (re (vr (o2V oAdd (gV 4) (o2V oIx (gV 2) (o2V oMod (gV 6) (gC (.int 26))))))))))) (dSeq (dIf (o2n oIn 4 (dTup (aCons (re (vr (gC (.str "all")))) (aCons (re (vr (gC (.str "not")))) (aCons (re (vr (gC (.str "both")))) (aCons (re (vr (gC (.str "either")))) (aCons (re (vr (gC (.str "somenext")))) (aCons (re (vr (gC (.str "eachnext")))) (aCons (re (vr (gC (.str "sometill")))) (aCons (re (vr (gC (.str "eachtill")))) (aCons (re (vr (gC (.str "someever")))) (aCons (re (vr (gC (.str "eachever")))) aNil)))))))))))) (dSet 4 (re (o2v oAdd (dSl oSlS (vr (gV 4)) none (some (gC (.int 1)))) (gC (.str "q"))))) dNx) (dRet (gM 4)))))))
def m_law_word_by : FT := dFun [true, true] 7 b_law_word_by
def l_law_word_by_1 : DS := (dSeq (dSet 6 (re (vr (o2V oAdd (o2V oDiv (gV 0) (gC (.int 64))) (o2V oMul (gV 5) (gV 5)))))) (dSeq (dIf (vr (o2V oEq (gV 5) (o2V oMod (o2V oDiv (gV 0) (gC (.int 8))) (gV 3)))) (dSet 6 (re (vr (o2V oAdd (gV 6) (gV 1))))) dNx) (dSet 4 (re (vr (o2V oAdd (gV 4) (o2V oIx (gV 2) (o2V oMod (gV 6) (gC (.int 26))))))))))
theorem bn_law_word_by : b_law_word_by = (dSeq (dSet 2 (re (vr (gC (.str "abcdefghijklmnopqrstuvwxyz"))))) (dSeq (dSet 3 (re (vr (o2V oAdd (gC (.int 1)) (o2V oMod (gV 0) (gC (.int 8))))))) (dSeq (dSet 4 (re (vr (gC (.str ""))))) (dSeq (dFor (dRng (vr (gV 3))) (gN 5) l_law_word_by_1) (dSeq (dIf (o2n oIn 4 (dTup (aCons (re (vr (gC (.str "all")))) (aCons (re (vr (gC (.str "not")))) (aCons (re (vr (gC (.str "both")))) (aCons (re (vr (gC (.str "either")))) (aCons (re (vr (gC (.str "somenext")))) (aCons (re (vr (gC (.str "eachnext")))) (aCons (re (vr (gC (.str "sometill")))) (aCons (re (vr (gC (.str "eachtill")))) (aCons (re (vr (gC (.str "someever")))) (aCons (re (vr (gC (.str "eachever")))) aNil)))))))))))) (dSet 4 (re (o2v oAdd (dSl oSlS (vr (gV 4)) none (some (gC (.int 1)))) (gC (.str "q"))))) dNx) (dRet (gM 4))))))) := rfl
abbrev e_law_word_by (v0_cell v1_k v2_some v3_size v4_word v5_place v6_at : T) : List T := [v0_cell, v1_k, v2_some, v3_size, v4_word, v5_place, v6_at]
def b_law_set_by : DS := (dSeq (dSet 3 (dLst aNil)) (dSeq (dSet 4 (re (vr (o2V oDiv (gV 0) (gC (.int 216)))))) (dSeq (dIf (vr (o2V oEq (o2V oMod (gV 0) (gC (.int 2))) (gC (.int 1)))) (dFor (dRng (vr (gV 1))) (gN 5) (dSet 4 (re (vr (o2V oDiv (gV 4) (gC (.int 6))))))) dNx) (dSeq (dFor (dRng (vr (gV 1))) (gN 5) (dSeq (dSet 6 (dCall m_law_mix [none, none] [] (aCons (gS 0) (aCons (re (vr (o2V oAdd (gV 5) (gC (.int 1))))) aNil)))) (dSeq (dIf (vr (o2V oGe (gV 0) (o2V oPow (gC (.int 10)) (gC (.int 18))))) (dSet 6 (gS 4)) dNx) (dSeq (dIf (vr (o2V oLt (o2V oMod (gV 6) (gC (.int 6))) (gV 2))) (dEx (dMut "list" 3 mAppend (aCons (gM 5) aNil))) dNx) (dSet 4 (re (vr (o2V oDiv (gV 4) (gC (.int 6)))))))))) (dRet (gM 3))))))
def m_law_set_by : FT := dFun [true, true, true] 7 b_law_set_by
def l_law_set_by_1 : DS := (dSet 4 (re (vr (o2V oDiv (gV 4) (gC (.int 6))))))
def l_law_set_by_2 : DS := (dSeq (dSet 6 (dCall m_law_mix [none, none] [] (aCons (gS 0) (aCons (re (vr (o2V oAdd (gV 5) (gC (.int 1))))) aNil)))) (dSeq (dIf (vr (o2V oGe (gV 0) (o2V oPow (gC (.int 10)) (gC (.int 18))))) (dSet 6 (gS 4)) dNx) (dSeq (dIf (vr (o2V oLt (o2V oMod (gV 6) (gC (.int 6))) (gV 2))) (dEx (dMut "list" 3 mAppend (aCons (gM 5) aNil))) dNx) (dSet 4 (re (vr (o2V oDiv (gV 4) (gC (.int 6)))))))))
theorem bn_law_set_by : b_law_set_by = (dSeq (dSet 3 (dLst aNil)) (dSeq (dSet 4 (re (vr (o2V oDiv (gV 0) (gC (.int 216)))))) (dSeq (dIf (vr (o2V oEq (o2V oMod (gV 0) (gC (.int 2))) (gC (.int 1)))) (dFor (dRng (vr (gV 1))) (gN 5) l_law_set_by_1) dNx) (dSeq (dFor (dRng (vr (gV 1))) (gN 5) l_law_set_by_2) (dRet (gM 3)))))) := rfl
abbrev e_law_set_by (v0_cell v1_many v2_way v3_some v4_rest v5_stand v6_one : T) : List T := [v0_cell, v1_many, v2_way, v3_some, v4_rest, v5_stand, v6_one]
def b_keyed : DS := (dSeq (dSet 1 dDic) (dSeq (dFor (dIt itemsL (gM 0)) (gN 2) (dPut 1 mSetD (re (vr (gC (.bl true)))) (gV 2))) (dRet (gM 1))))
def m_keyed : FT := dFun [true] 3 b_keyed
def l_keyed_1 : DS := (dPut 1 mSetD (re (vr (gC (.bl true)))) (gV 2))
theorem bn_keyed : b_keyed = (dSeq (dSet 1 dDic) (dSeq (dFor (dIt itemsL (gM 0)) (gN 2) l_keyed_1) (dRet (gM 1)))) := rfl
abbrev e_keyed (v0_stands v1_keys v2_stand : T) : List T := [v0_stands, v1_keys, v2_stand]
def b_Machine_next_of : DS := (dRet (o1 oSorted (vr (o2V oIx (o1V (oFld "Machine" "steps") (gV 0)) (gV 1)))))
def m_Machine_next_of : FT := dFun [true, true] 2 b_Machine_next_of
theorem bn_Machine_next_of : b_Machine_next_of = (dRet (o1 oSorted (vr (o2V oIx (o1V (oFld "Machine" "steps") (gV 0)) (gV 1))))) := rfl
abbrev e_Machine_next_of (v0_self v1_stand : T) : List T := [v0_self, v1_stand]
def b_touches : DS := (dSeq (dFor (dIt itemsL (dMeth "Machine" "next_of" m_Machine_next_of none [none] [] (gM 0) (aCons (gM 1) aNil))) (gN 3) (dIf (vr (o2V oIn (gV 3) (gV 2))) (dRet (re (vr (gC (.bl true))))) dNx)) (dRet (re (vr (gC (.bl false))))))
def m_touches : FT := dFun [true, true, true] 4 b_touches
def l_touches_1 : DS := (dIf (vr (o2V oIn (gV 3) (gV 2))) (dRet (re (vr (gC (.bl true))))) dNx)
theorem bn_touches : b_touches = (dSeq (dFor (dIt itemsL (dMeth "Machine" "next_of" m_Machine_next_of none [none] [] (gM 0) (aCons (gM 1) aNil))) (gN 3) l_touches_1) (dRet (re (vr (gC (.bl false)))))) := rfl
abbrev e_touches (v0_machine v1_stand v2_keys v3_other : T) : List T := [v0_machine, v1_stand, v2_keys, v3_other]
def b_shrinking : DS := (dSeq (dSet 2 (dLst (aCons (o1 oList (vr (gV 1))) aNil))) (dWh (vr (gC (.bl true))) (dSeq (dSet 3 (bw (dCall m_keyed [none] [] (aCons (re (vr (o2V oIx (gV 2) (o1V oNeg (gC (.int 1)))))) aNil)))) (dSeq (dSet 4 (bw (dLc (dIt itemsL (re (vr (o2V oIx (gV 2) (o1V oNeg (gC (.int 1))))))) (gN 5) (bw (dCall m_touches [none, none, none] [] (aCons (gS 0) (aCons (gS 5) (aCons (gS 3) aNil))))) (gM 5) [5]))) (dSeq (dIf (vr (o2V oEq (o1V oLen (gV 4)) (o1V oLen (gV 3)))) (dRet (gM 2)) dNx) (dEx (dMut "list" 2 mAppend (aCons (gM 4) aNil)))))) 4000))
def m_shrinking : FT := dFun [true, true] 6 b_shrinking
def x_shrinking_1 : DE := (gM 5)
def y_shrinking_1 : DE := (bw (dCall m_touches [none, none, none] [] (aCons (gS 0) (aCons (gS 5) (aCons (gS 3) aNil)))))
def c_shrinking_1 : DE := (vr (gC (.bl true)))
def l_shrinking_1 : DS := (dSeq (dSet 3 (bw (dCall m_keyed [none] [] (aCons (re (vr (o2V oIx (gV 2) (o1V oNeg (gC (.int 1)))))) aNil)))) (dSeq (dSet 4 (bw (dLc (dIt itemsL (re (vr (o2V oIx (gV 2) (o1V oNeg (gC (.int 1))))))) (gN 5) y_shrinking_1 x_shrinking_1 [5]))) (dSeq (dIf (vr (o2V oEq (o1V oLen (gV 4)) (o1V oLen (gV 3)))) (dRet (gM 2)) dNx) (dEx (dMut "list" 2 mAppend (aCons (gM 4) aNil))))))
theorem bn_shrinking : b_shrinking = (dSeq (dSet 2 (dLst (aCons (o1 oList (vr (gV 1))) aNil))) (dWh c_shrinking_1 l_shrinking_1 4000)) := rfl
abbrev e_shrinking (v0_machine v1_within v2_sets v3_last v4_fewer v5_stand : T) : List T := [v0_machine, v1_within, v2_sets, v3_last, v4_fewer, v5_stand]
def b_Machine_fair_at : DS := (dRet (o1 oSorted (vr (o2V oIx (o1V (oFld "Machine" "fair") (gV 0)) (gV 1)))))
def m_Machine_fair_at : FT := dFun [true, true] 2 b_Machine_fair_at
theorem bn_Machine_fair_at : b_Machine_fair_at = (dRet (o1 oSorted (vr (o2V oIx (o1V (oFld "Machine" "fair") (gV 0)) (gV 1))))) := rfl
abbrev e_Machine_fair_at (v0_self v1_number : T) : List T := [v0_self, v1_number]
def b_Machine_many : DS := (dRet (re (vr (o1V oLen (o1V (oFld "Machine" "steps") (gV 0))))))
def m_Machine_many : FT := dFun [true] 1 b_Machine_many
theorem bn_Machine_many : b_Machine_many = (dRet (re (vr (o1V oLen (o1V (oFld "Machine" "steps") (gV 0)))))) := rfl
abbrev e_Machine_many (v0_self : T) : List T := [v0_self]
def b_growing : DS := (dSeq (dSet 3 (dCall m_keyed [none] [] (aCons (gS 2) aNil))) (dSeq (dSet 4 (dCall m_keyed [none] [] (aCons (gM 1) aNil))) (dSeq (dSet 5 (dLst (aCons (o1 oList (vr (gV 2))) aNil))) (dWh (vr (gC (.bl true))) (dSeq (dSet 6 (bw (dCall m_keyed [none] [] (aCons (re (vr (o2V oIx (gV 5) (o1V oNeg (gC (.int 1)))))) aNil)))) (dSeq (dSet 7 (dLst aNil)) (dSeq (dFor (dRng (bw (dMeth "Machine" "many" m_Machine_many none [] [] (gS 0) aNil))) (gN 8) (dIf (dOr (vr (o2V oIn (gV 8) (gV 3))) (dAnd (vr (o2V oIn (gV 8) (gV 4))) (bw (dCall m_touches [none, none, none] [] (aCons (gS 0) (aCons (gS 8) (aCons (gS 6) aNil))))))) (dEx (dMut "list" 7 mAppend (aCons (gM 8) aNil))) dNx)) (dSeq (dIf (vr (o2V oEq (o1V oLen (gV 7)) (o1V oLen (gV 6)))) (dRet (gM 5)) dNx) (dEx (dMut "list" 5 mAppend (aCons (gM 7) aNil))))))) 4000))))
def m_growing : FT := dFun [true, true, true] 9 b_growing
def l_growing_2 : DS := (dIf (dOr (vr (o2V oIn (gV 8) (gV 3))) (dAnd (vr (o2V oIn (gV 8) (gV 4))) (bw (dCall m_touches [none, none, none] [] (aCons (gS 0) (aCons (gS 8) (aCons (gS 6) aNil))))))) (dEx (dMut "list" 7 mAppend (aCons (gM 8) aNil))) dNx)
def c_growing_1 : DE := (vr (gC (.bl true)))
def l_growing_1 : DS := (dSeq (dSet 6 (bw (dCall m_keyed [none] [] (aCons (re (vr (o2V oIx (gV 5) (o1V oNeg (gC (.int 1)))))) aNil)))) (dSeq (dSet 7 (dLst aNil)) (dSeq (dFor (dRng (bw (dMeth "Machine" "many" m_Machine_many none [] [] (gS 0) aNil))) (gN 8) l_growing_2) (dSeq (dIf (vr (o2V oEq (o1V oLen (gV 7)) (o1V oLen (gV 6)))) (dRet (gM 5)) dNx) (dEx (dMut "list" 5 mAppend (aCons (gM 7) aNil)))))))
theorem bn_growing : b_growing = (dSeq (dSet 3 (dCall m_keyed [none] [] (aCons (gS 2) aNil))) (dSeq (dSet 4 (dCall m_keyed [none] [] (aCons (gM 1) aNil))) (dSeq (dSet 5 (dLst (aCons (o1 oList (vr (gV 2))) aNil))) (dWh c_growing_1 l_growing_1 4000)))) := rfl
abbrev e_growing (v0_machine v1_through v2_goal v3_goals v4_ways v5_sets v6_last v7_more v8_stand : T) : List T := [v0_machine, v1_through, v2_goal, v3_goals, v4_ways, v5_sets, v6_last, v7_more, v8_stand]
def b_core : DS := (dSeq (dSet 2 (o2v oIx (dCall m_shrinking [none, none] [] (aCons (gS 0) (aCons (gM 1) aNil))) (o1V oNeg (gC (.int 1))))) (dWh (vr (gC (.bl true))) (dSeq (dSet 3 (re (vr (o1V oLen (gV 2))))) (dSeq (dFor (dRng (vr (o1V oLen (o1V (oFld "Machine" "fair") (gV 0))))) (gN 4) (dSeq (dSet 5 (dCall m_keyed [none] [] (aCons (dMeth "Machine" "fair_at" m_Machine_fair_at none [none] [] (gS 0) (aCons (gM 4) aNil)) aNil))) (dSeq (dSet 6 (dLc (dIt itemsL (gS 2)) (gN 7) (vr (o2V oIn (gV 7) (gV 5))) (gM 7) [7])) (dSet 2 (o2v oIx (dCall m_shrinking [none, none] [] (aCons (gS 0) (aCons (o2v oIx (dCall m_growing [none, none, none] [] (aCons (gS 0) (aCons (gM 2) (aCons (gM 6) aNil)))) (o1V oNeg (gC (.int 1)))) aNil))) (o1V oNeg (gC (.int 1)))))))) (dIf (vr (o2V oEq (o1V oLen (gV 2)) (gV 3))) (dRet (gM 2)) dNx))) 4000))
def m_core : FT := dFun [true, true] 8 b_core
def x_core_1 : DE := (gM 7)
def y_core_1 : DE := (vr (o2V oIn (gV 7) (gV 5)))
def l_core_2 : DS := (dSeq (dSet 5 (dCall m_keyed [none] [] (aCons (dMeth "Machine" "fair_at" m_Machine_fair_at none [none] [] (gS 0) (aCons (gM 4) aNil)) aNil))) (dSeq (dSet 6 (dLc (dIt itemsL (gS 2)) (gN 7) y_core_1 x_core_1 [7])) (dSet 2 (o2v oIx (dCall m_shrinking [none, none] [] (aCons (gS 0) (aCons (o2v oIx (dCall m_growing [none, none, none] [] (aCons (gS 0) (aCons (gM 2) (aCons (gM 6) aNil)))) (o1V oNeg (gC (.int 1)))) aNil))) (o1V oNeg (gC (.int 1)))))))
def c_core_1 : DE := (vr (gC (.bl true)))
def l_core_1 : DS := (dSeq (dSet 3 (re (vr (o1V oLen (gV 2))))) (dSeq (dFor (dRng (vr (o1V oLen (o1V (oFld "Machine" "fair") (gV 0))))) (gN 4) l_core_2) (dIf (vr (o2V oEq (o1V oLen (gV 2)) (gV 3))) (dRet (gM 2)) dNx)))
theorem bn_core : b_core = (dSeq (dSet 2 (o2v oIx (dCall m_shrinking [none, none] [] (aCons (gS 0) (aCons (gM 1) aNil))) (o1V oNeg (gC (.int 1))))) (dWh c_core_1 l_core_1 4000)) := rfl
abbrev e_core (v0_machine v1_within v2_kept v3_ahead v4_number v5_fair v6_goal v7_stand : T) : List T := [v0_machine, v1_within, v2_kept, v3_ahead, v4_number, v5_fair, v6_goal, v7_stand]
def b_reach : DS := (dSeq (dSet 3 (dCall m_keyed [none] [] (aCons (gM 1) aNil))) (dSeq (dSet 4 (dDic1 (gV 2) (gC (.bl true)))) (dSeq (dSet 5 (dLst (aCons (gM 2) aNil))) (dSeq (dWh (vr (o2V oGt (o1V oLen (gV 5)) (gC (.int 0)))) (dFor (dIt itemsL (dMeth "Machine" "next_of" m_Machine_next_of none [none] [] (gS 0) (aCons (dMut "list" 5 mPop aNil) aNil))) (gN 6) (dIf (dAnd (vr (o2V oIn (gV 6) (gV 3))) (vr (o2V oNotIn (gV 6) (gV 4)))) (dSeq (dPut 4 mSetD (re (vr (gC (.bl true)))) (gV 6)) (dEx (dMut "list" 5 mAppend (aCons (gM 6) aNil)))) dNx)) 4000) (dRet (o1 oSorted (vr (gV 4))))))))
def m_reach : FT := dFun [true, true, true] 7 b_reach
def l_reach_2 : DS := (dIf (dAnd (vr (o2V oIn (gV 6) (gV 3))) (vr (o2V oNotIn (gV 6) (gV 4)))) (dSeq (dPut 4 mSetD (re (vr (gC (.bl true)))) (gV 6)) (dEx (dMut "list" 5 mAppend (aCons (gM 6) aNil)))) dNx)
def c_reach_1 : DE := (vr (o2V oGt (o1V oLen (gV 5)) (gC (.int 0))))
def l_reach_1 : DS := (dFor (dIt itemsL (dMeth "Machine" "next_of" m_Machine_next_of none [none] [] (gS 0) (aCons (dMut "list" 5 mPop aNil) aNil))) (gN 6) l_reach_2)
theorem bn_reach : b_reach = (dSeq (dSet 3 (dCall m_keyed [none] [] (aCons (gM 1) aNil))) (dSeq (dSet 4 (dDic1 (gV 2) (gC (.bl true)))) (dSeq (dSet 5 (dLst (aCons (gM 2) aNil))) (dSeq (dWh c_reach_1 l_reach_1 4000) (dRet (o1 oSorted (vr (gV 4)))))))) := rfl
abbrev e_reach (v0_machine v1_within v2_stand v3_keys v4_found v5_waiting v6_other : T) : List T := [v0_machine, v1_within, v2_stand, v3_keys, v4_found, v5_waiting, v6_other]
def b_missed_of : DS := (dSeq (dFor (dRng (vr (o1V oLen (o1V (oFld "Machine" "fair") (gV 0))))) (gN 2) (dSeq (dSet 3 (dCall m_keyed [none] [] (aCons (dMeth "Machine" "fair_at" m_Machine_fair_at none [none] [] (gS 0) (aCons (gS 2) aNil)) aNil))) (dIf (o2v oEq (o1 oLen (dLc (dIt itemsL (gS 1)) (gN 4) (vr (o2V oIn (gV 4) (gV 3))) (gM 4) [4])) (gC (.int 0))) (dRet (gM 2)) dNx))) (dRet (re (vr (gC .non)))))
def m_missed_of : FT := dFun [true, true] 5 b_missed_of
def x_missed_of_1 : DE := (gM 4)
def y_missed_of_1 : DE := (vr (o2V oIn (gV 4) (gV 3)))
def l_missed_of_1 : DS := (dSeq (dSet 3 (dCall m_keyed [none] [] (aCons (dMeth "Machine" "fair_at" m_Machine_fair_at none [none] [] (gS 0) (aCons (gS 2) aNil)) aNil))) (dIf (o2v oEq (o1 oLen (dLc (dIt itemsL (gS 1)) (gN 4) y_missed_of_1 x_missed_of_1 [4])) (gC (.int 0))) (dRet (gM 2)) dNx))
theorem bn_missed_of : b_missed_of = (dSeq (dFor (dRng (vr (o1V oLen (o1V (oFld "Machine" "fair") (gV 0))))) (gN 2) l_missed_of_1) (dRet (re (vr (gC .non))))) := rfl
abbrev e_missed_of (v0_machine v1_together v2_number v3_fair v4_stand : T) : List T := [v0_machine, v1_together, v2_number, v3_fair, v4_stand]
def b_ranks : DS := (dSeq (dSet 2 (dCall m_keyed [none] [] (aCons (dCall m_core [none, none] [] (aCons (gS 0) (aCons (gS 1) aNil))) aNil))) (dSeq (dSet 3 (dLc (dRng (bw (dMeth "Machine" "many" m_Machine_many none [] [] (gS 0) aNil))) (gN 5) dYes (re (vr (gC .non))) [5])) (dSeq (dSet 4 dDic) (dSeq (dFor (dIt itemsL (gS 1)) (gN 5) (dPut 4 mSetD (dCall m_reach [none, none, none] [] (aCons (gS 0) (aCons (gS 1) (aCons (gS 5) aNil)))) (gV 5))) (dSeq (dFor (dIt itemsL (gM 1)) (gN 5) (dIf (vr (o2V oNotIn (gV 5) (gV 2))) (dSeq (dSet 6 (bw (dLc (dIt itemsL (re (vr (o2V oIx (gV 4) (gV 5))))) (gN 7) (vr (o2V oIn (gV 5) (o2V oIx (gV 4) (gV 7)))) (gM 7) [7]))) (dPut 3 mSetL (dTup (aCons (re (vr (o1V oLen (o2V oIx (gV 4) (gV 5))))) (aCons (bw (dCall m_missed_of [none, none] [] (aCons (gS 0) (aCons (gM 6) aNil)))) aNil))) (gV 5))) dNx)) (dRet (gM 3)))))))
def m_ranks : FT := dFun [true, true] 8 b_ranks
def x_ranks_1 : DE := (re (vr (gC .non)))
def l_ranks_1 : DS := (dPut 4 mSetD (dCall m_reach [none, none, none] [] (aCons (gS 0) (aCons (gS 1) (aCons (gS 5) aNil)))) (gV 5))
def x_ranks_2 : DE := (gM 7)
def y_ranks_2 : DE := (vr (o2V oIn (gV 5) (o2V oIx (gV 4) (gV 7))))
def l_ranks_2 : DS := (dIf (vr (o2V oNotIn (gV 5) (gV 2))) (dSeq (dSet 6 (bw (dLc (dIt itemsL (re (vr (o2V oIx (gV 4) (gV 5))))) (gN 7) y_ranks_2 x_ranks_2 [7]))) (dPut 3 mSetL (dTup (aCons (re (vr (o1V oLen (o2V oIx (gV 4) (gV 5))))) (aCons (bw (dCall m_missed_of [none, none] [] (aCons (gS 0) (aCons (gM 6) aNil)))) aNil))) (gV 5))) dNx)
theorem bn_ranks : b_ranks = (dSeq (dSet 2 (dCall m_keyed [none] [] (aCons (dCall m_core [none, none] [] (aCons (gS 0) (aCons (gS 1) aNil))) aNil))) (dSeq (dSet 3 (dLc (dRng (bw (dMeth "Machine" "many" m_Machine_many none [] [] (gS 0) aNil))) (gN 5) dYes x_ranks_1 [5])) (dSeq (dSet 4 dDic) (dSeq (dFor (dIt itemsL (gS 1)) (gN 5) l_ranks_1) (dSeq (dFor (dIt itemsL (gM 1)) (gN 5) l_ranks_2) (dRet (gM 3))))))) := rfl
abbrev e_ranks (v0_machine v1_within v2_kept v3_found v4_reached v5_stand v6_together v7_other : T) : List T := [v0_machine, v1_within, v2_kept, v3_found, v4_reached, v5_stand, v6_together, v7_other]
def b_alive : DS := (dRet (dCall m_core [none, none] [] (aCons (gS 0) (aCons (dLRg (bw (dMeth "Machine" "many" m_Machine_many none [] [] (gM 0) aNil))) aNil))))
def m_alive : FT := dFun [true] 1 b_alive
theorem bn_alive : b_alive = (dRet (dCall m_core [none, none] [] (aCons (gS 0) (aCons (dLRg (bw (dMeth "Machine" "many" m_Machine_many none [] [] (gM 0) aNil))) aNil)))) := rfl
abbrev e_alive (v0_machine : T) : List T := [v0_machine]
def b_bottom_of : DS := (dSeq (dSet 3 (dCall m_reach [none, none, none] [] (aCons (gS 0) (aCons (gS 1) (aCons (gM 2) aNil))))) (dSeq (dFor (dIt itemsL (gS 3)) (gN 4) (dSeq (dSet 5 (dCall m_reach [none, none, none] [] (aCons (gS 0) (aCons (gS 1) (aCons (gM 4) aNil))))) (dIf (vr (o2V oLt (o1V oLen (gV 5)) (o1V oLen (gV 3)))) (dSet 3 (gM 5)) dNx))) (dRet (gM 3))))
def m_bottom_of : FT := dFun [true, true, true] 6 b_bottom_of
def l_bottom_of_1 : DS := (dSeq (dSet 5 (dCall m_reach [none, none, none] [] (aCons (gS 0) (aCons (gS 1) (aCons (gM 4) aNil))))) (dIf (vr (o2V oLt (o1V oLen (gV 5)) (o1V oLen (gV 3)))) (dSet 3 (gM 5)) dNx))
theorem bn_bottom_of : b_bottom_of = (dSeq (dSet 3 (dCall m_reach [none, none, none] [] (aCons (gS 0) (aCons (gS 1) (aCons (gM 2) aNil))))) (dSeq (dFor (dIt itemsL (gS 3)) (gN 4) l_bottom_of_1) (dRet (gM 3)))) := rfl
abbrev e_bottom_of (v0_machine v1_within v2_stand v3_best v4_other v5_found : T) : List T := [v0_machine, v1_within, v2_stand, v3_best, v4_other, v5_found]
def b_distances : DS := (dSeq (dSet 3 (dLc (dRng (bw (dMeth "Machine" "many" m_Machine_many none [] [] (gS 0) aNil))) (gN 6) dYes (re (vr (gC .non))) [6])) (dSeq (dFor (dIt itemsE (dCall m_growing [none, none, none] [] (aCons (gM 0) (aCons (gM 1) (aCons (gM 2) aNil))))) (gT2 (gN 4) (gN 5)) (dFor (dIt itemsL (gM 5)) (gN 6) (dIf (vr (o2V oIsN (o2V oIx (gV 3) (gV 6)) (gC .non))) (dPut 3 mSetL (gS 4) (gV 6)) dNx))) (dRet (gM 3))))
def m_distances : FT := dFun [true, true, true] 7 b_distances
def x_distances_1 : DE := (re (vr (gC .non)))
def l_distances_2 : DS := (dIf (vr (o2V oIsN (o2V oIx (gV 3) (gV 6)) (gC .non))) (dPut 3 mSetL (gS 4) (gV 6)) dNx)
def l_distances_1 : DS := (dFor (dIt itemsL (gM 5)) (gN 6) l_distances_2)
theorem bn_distances : b_distances = (dSeq (dSet 3 (dLc (dRng (bw (dMeth "Machine" "many" m_Machine_many none [] [] (gS 0) aNil))) (gN 6) dYes x_distances_1 [6])) (dSeq (dFor (dIt itemsE (dCall m_growing [none, none, none] [] (aCons (gM 0) (aCons (gM 1) (aCons (gM 2) aNil))))) (gT2 (gN 4) (gN 5)) l_distances_1) (dRet (gM 3)))) := rfl
abbrev e_distances (v0_machine v1_through v2_goal v3_found v4_place v5_stands v6_stand : T) : List T := [v0_machine, v1_through, v2_goal, v3_found, v4_place, v5_stands, v6_stand]
def b_short_walk : DS := (dSeq (dSet 4 (dCall m_distances [none, none, none] [] (aCons (gS 0) (aCons (gM 1) (aCons (gM 2) aNil))))) (dSeq (dIf (vr (o2V oIsN (o2V oIx (gV 4) (gV 3)) (gC .non))) (dRet (re (vr (gC .non)))) dNx) (dSeq (dSet 5 (dLst (aCons (gS 3) aNil))) (dSeq (dWh (vr (o2V oGt (o2V oIx (gV 4) (gV 3)) (gC (.int 0)))) (dSeq (dSet 6 (re (vr (o2V oSub (o2V oIx (gV 4) (gV 3)) (gC (.int 1)))))) (dSeq (dSet 3 (re (o1 oMinL (dLc (dIt itemsL (dMeth "Machine" "next_of" m_Machine_next_of none [none] [] (gS 0) (aCons (gM 3) aNil))) (gN 7) (vr (o2V oEq (o2V oIx (gV 4) (gV 7)) (gV 6))) (gM 7) [7])))) (dEx (dMut "list" 5 mAppend (aCons (gS 3) aNil))))) 4000) (dRet (gM 5))))))
def m_short_walk : FT := dFun [true, true, true, false] 8 b_short_walk
def x_short_walk_1 : DE := (gM 7)
def y_short_walk_1 : DE := (vr (o2V oEq (o2V oIx (gV 4) (gV 7)) (gV 6)))
def c_short_walk_1 : DE := (vr (o2V oGt (o2V oIx (gV 4) (gV 3)) (gC (.int 0))))
def l_short_walk_1 : DS := (dSeq (dSet 6 (re (vr (o2V oSub (o2V oIx (gV 4) (gV 3)) (gC (.int 1)))))) (dSeq (dSet 3 (re (o1 oMinL (dLc (dIt itemsL (dMeth "Machine" "next_of" m_Machine_next_of none [none] [] (gS 0) (aCons (gM 3) aNil))) (gN 7) y_short_walk_1 x_short_walk_1 [7])))) (dEx (dMut "list" 5 mAppend (aCons (gS 3) aNil)))))
theorem bn_short_walk : b_short_walk = (dSeq (dSet 4 (dCall m_distances [none, none, none] [] (aCons (gS 0) (aCons (gM 1) (aCons (gM 2) aNil))))) (dSeq (dIf (vr (o2V oIsN (o2V oIx (gV 4) (gV 3)) (gC .non))) (dRet (re (vr (gC .non)))) dNx) (dSeq (dSet 5 (dLst (aCons (gS 3) aNil))) (dSeq (dWh c_short_walk_1 l_short_walk_1 4000) (dRet (gM 5)))))) := rfl
abbrev e_short_walk (v0_machine v1_through v2_goal v3_stand v4_far v5_walk v6_nearer v7_other : T) : List T := [v0_machine, v1_through, v2_goal, v3_stand, v4_far, v5_walk, v6_nearer, v7_other]
def b_loop_within : DS := (dSeq (dIf (vr (o2V oNotIn (gV 2) (gV 1))) (dRet (re (vr (gC .non)))) dNx) (dSeq (dSet 3 (dCall m_bottom_of [none, none, none] [] (aCons (gS 0) (aCons (gS 1) (aCons (gS 2) aNil))))) (dSeq (dSet 4 (fz 3 (re (vr (o2V oIx (gV 3) (gC (.int 0))))))) (dSeq (dSet 5 (dLst (aCons (gS 4) aNil))) (dSeq (dFor (dRng (vr (o1V oLen (o1V (oFld "Machine" "fair") (gV 0))))) (gN 6) (dSeq (dSet 8 (dCall m_keyed [none] [] (aCons (dMeth "Machine" "fair_at" m_Machine_fair_at none [none] [] (gS 0) (aCons (gM 6) aNil)) aNil))) (dSeq (dSet 9 (dLc (dIt itemsL (gS 3)) (gN 10) (vr (o2V oIn (gV 10) (gV 8))) (gM 10) [10])) (dEx (dMut "list" 5 mExtend (aCons (dSl oSlL (bw (dCall m_short_walk [none, none, none, none] [] (aCons (gS 0) (aCons (gS 3) (aCons (gM 9) (aCons (re (vr (o2V oIx (gV 5) (o1V oNeg (gC (.int 1)))))) aNil)))))) (some (gC (.int 1))) none) aNil)))))) (dSeq (dSet 7 (dLc (dIt itemsL (bw (dMeth "Machine" "next_of" m_Machine_next_of none [none] [] (gS 0) (aCons (re (vr (o2V oIx (gV 5) (o1V oNeg (gC (.int 1)))))) aNil)))) (gN 10) (vr (o2V oIn (gV 10) (gV 3))) (gM 10) [10])) (dSeq (dEx (dMut "list" 5 mExtend (aCons (dCall m_short_walk [none, none, none, none] [] (aCons (gS 0) (aCons (gM 3) (aCons (dLst (aCons (gS 4) aNil)) (aCons (fz 7 (re (vr (o2V oIx (gV 7) (gC (.int 0)))))) aNil))))) aNil))) (dRet (dTup (aCons (dCall m_short_walk [none, none, none, none] [] (aCons (gM 0) (aCons (gM 1) (aCons (dLst (aCons (gM 4) aNil)) (aCons (gM 2) aNil))))) (aCons (dSl oSlL (vr (gV 5)) none (some (o1V oNeg (gC (.int 1))))) aNil)))))))))))
def m_loop_within : FT := dFun [true, true, true] 11 b_loop_within
def x_loop_within_1 : DE := (gM 10)
def y_loop_within_1 : DE := (vr (o2V oIn (gV 10) (gV 8)))
def l_loop_within_1 : DS := (dSeq (dSet 8 (dCall m_keyed [none] [] (aCons (dMeth "Machine" "fair_at" m_Machine_fair_at none [none] [] (gS 0) (aCons (gM 6) aNil)) aNil))) (dSeq (dSet 9 (dLc (dIt itemsL (gS 3)) (gN 10) y_loop_within_1 x_loop_within_1 [10])) (dEx (dMut "list" 5 mExtend (aCons (dSl oSlL (bw (dCall m_short_walk [none, none, none, none] [] (aCons (gS 0) (aCons (gS 3) (aCons (gM 9) (aCons (re (vr (o2V oIx (gV 5) (o1V oNeg (gC (.int 1)))))) aNil)))))) (some (gC (.int 1))) none) aNil)))))
def x_loop_within_2 : DE := (gM 10)
def y_loop_within_2 : DE := (vr (o2V oIn (gV 10) (gV 3)))
theorem bn_loop_within : b_loop_within = (dSeq (dIf (vr (o2V oNotIn (gV 2) (gV 1))) (dRet (re (vr (gC .non)))) dNx) (dSeq (dSet 3 (dCall m_bottom_of [none, none, none] [] (aCons (gS 0) (aCons (gS 1) (aCons (gS 2) aNil))))) (dSeq (dSet 4 (fz 3 (re (vr (o2V oIx (gV 3) (gC (.int 0))))))) (dSeq (dSet 5 (dLst (aCons (gS 4) aNil))) (dSeq (dFor (dRng (vr (o1V oLen (o1V (oFld "Machine" "fair") (gV 0))))) (gN 6) l_loop_within_1) (dSeq (dSet 7 (dLc (dIt itemsL (bw (dMeth "Machine" "next_of" m_Machine_next_of none [none] [] (gS 0) (aCons (re (vr (o2V oIx (gV 5) (o1V oNeg (gC (.int 1)))))) aNil)))) (gN 10) y_loop_within_2 x_loop_within_2 [10])) (dSeq (dEx (dMut "list" 5 mExtend (aCons (dCall m_short_walk [none, none, none, none] [] (aCons (gS 0) (aCons (gM 3) (aCons (dLst (aCons (gS 4) aNil)) (aCons (fz 7 (re (vr (o2V oIx (gV 7) (gC (.int 0)))))) aNil))))) aNil))) (dRet (dTup (aCons (dCall m_short_walk [none, none, none, none] [] (aCons (gM 0) (aCons (gM 1) (aCons (dLst (aCons (gM 4) aNil)) (aCons (gM 2) aNil))))) (aCons (dSl oSlL (vr (gV 5)) none (some (o1V oNeg (gC (.int 1))))) aNil))))))))))) := rfl
abbrev e_loop_within (v0_machine v1_kept v2_stand v3_inside v4_base v5_path v6_number v7_onward v8_fair v9_goal v10_other : T) : List T := [v0_machine, v1_kept, v2_stand, v3_inside, v4_base, v5_path, v6_number, v7_onward, v8_fair, v9_goal, v10_other]
def b_lives : DS := (dSeq (dSet 1 (dLRg (bw (dMeth "Machine" "many" m_Machine_many none [] [] (gS 0) aNil)))) (dSeq (dSet 2 (dCall m_ranks [none, none] [] (aCons (gS 0) (aCons (gS 1) aNil)))) (dSeq (dSet 3 (dCall m_alive [none] [] (aCons (gS 0) aNil))) (dSeq (dSet 4 (dLst aNil)) (dSeq (dFor (dIt itemsL (gM 1)) (gN 5) (dIf (vr (o2V oIsN (o2V oIx (gV 2) (gV 5)) (gC .non))) (dEx (dMut "list" 4 mAppend (aCons (o2o oCatX (dTup (aCons (re (vr (gC (.str "loop")))) aNil)) (dCall m_loop_within [none, none, none] [] (aCons (gS 0) (aCons (gS 3) (aCons (gM 5) aNil))))) aNil))) (dEx (dMut "list" 4 mAppend (aCons (o2v oCatT (dTup (aCons (re (vr (gC (.str "rank")))) aNil)) (o2V oIx (gV 2) (gV 5))) aNil))))) (dRet (gM 4)))))))
def m_lives : FT := dFun [true] 6 b_lives
def l_lives_1 : DS := (dIf (vr (o2V oIsN (o2V oIx (gV 2) (gV 5)) (gC .non))) (dEx (dMut "list" 4 mAppend (aCons (o2o oCatX (dTup (aCons (re (vr (gC (.str "loop")))) aNil)) (dCall m_loop_within [none, none, none] [] (aCons (gS 0) (aCons (gS 3) (aCons (gM 5) aNil))))) aNil))) (dEx (dMut "list" 4 mAppend (aCons (o2v oCatT (dTup (aCons (re (vr (gC (.str "rank")))) aNil)) (o2V oIx (gV 2) (gV 5))) aNil))))
theorem bn_lives : b_lives = (dSeq (dSet 1 (dLRg (bw (dMeth "Machine" "many" m_Machine_many none [] [] (gS 0) aNil)))) (dSeq (dSet 2 (dCall m_ranks [none, none] [] (aCons (gS 0) (aCons (gS 1) aNil)))) (dSeq (dSet 3 (dCall m_alive [none] [] (aCons (gS 0) aNil))) (dSeq (dSet 4 (dLst aNil)) (dSeq (dFor (dIt itemsL (gM 1)) (gN 5) l_lives_1) (dRet (gM 4))))))) := rfl
abbrev e_lives (v0_machine v1_everywhere v2_ranked v3_kept v4_found v5_stand : T) : List T := [v0_machine, v1_everywhere, v2_ranked, v3_kept, v4_found, v5_stand]
def b_law_whole : DS := (dRet (re (dAnd (vr (o1V (oIsi "int") (gV 0))) (o1 oNot (vr (o1V (oIsi "bool") (gV 0)))))))
def m_law_whole : FT := dFun [true] 1 b_law_whole
theorem bn_law_whole : b_law_whole = (dRet (re (dAnd (vr (o1V (oIsi "int") (gV 0))) (o1 oNot (vr (o1V (oIsi "bool") (gV 0))))))) := rfl
abbrev e_law_whole (v0_found : T) : List T := [v0_found]
def b_law_walk : DS := (dSeq (dIf (dOr (o1 oNot (vr (o1V (oIsi "list") (gV 0)))) (dOr (o2n oEq 0 (dLst aNil)) (vr (o2V oGt (o1V oLen (gV 0)) (gC (.int 600)))))) (dRet (re (vr (gC (.bl false))))) dNx) (dSeq (dFor (dRng (vr (o1V oLen (gV 0)))) (gN 3) (dSeq (dIf (dOr (o1 oNot (bw (dCall m_law_whole [none] [] (aCons (fz 0 (re (vr (o2V oIx (gV 0) (gV 3))))) aNil)))) (o1 oNot (vr (oCh oLe oLt (gC (.int 0)) (o2V oIx (gV 0) (gV 3)) (o1V oLen (gV 1)))))) (dRet (re (vr (gC (.bl false))))) dNx) (dIf (dAnd (vr (o2V oGt (gV 3) (gC (.int 0)))) (vr (o2V oNotIn (o2V oIx (gV 0) (gV 3)) (o2V oIx (gV 1) (o2V oIx (gV 0) (o2V oSub (gV 3) (gC (.int 1)))))))) (dRet (re (vr (gC (.bl false))))) dNx))) (dRet (re (vr (o2V oEq (o2V oIx (gV 0) (gC (.int 0))) (gV 2)))))))
def m_law_walk : FT := dFun [true, true, true] 4 b_law_walk
def l_law_walk_1 : DS := (dSeq (dIf (dOr (o1 oNot (bw (dCall m_law_whole [none] [] (aCons (fz 0 (re (vr (o2V oIx (gV 0) (gV 3))))) aNil)))) (o1 oNot (vr (oCh oLe oLt (gC (.int 0)) (o2V oIx (gV 0) (gV 3)) (o1V oLen (gV 1)))))) (dRet (re (vr (gC (.bl false))))) dNx) (dIf (dAnd (vr (o2V oGt (gV 3) (gC (.int 0)))) (vr (o2V oNotIn (o2V oIx (gV 0) (gV 3)) (o2V oIx (gV 1) (o2V oIx (gV 0) (o2V oSub (gV 3) (gC (.int 1)))))))) (dRet (re (vr (gC (.bl false))))) dNx))
theorem bn_law_walk : b_law_walk = (dSeq (dIf (dOr (o1 oNot (vr (o1V (oIsi "list") (gV 0)))) (dOr (o2n oEq 0 (dLst aNil)) (vr (o2V oGt (o1V oLen (gV 0)) (gC (.int 600)))))) (dRet (re (vr (gC (.bl false))))) dNx) (dSeq (dFor (dRng (vr (o1V oLen (gV 0)))) (gN 3) l_law_walk_1) (dRet (re (vr (o2V oEq (o2V oIx (gV 0) (gC (.int 0))) (gV 2))))))) := rfl
abbrev e_law_walk (v0_row v1_steps v2_start v3_k : T) : List T := [v0_row, v1_steps, v2_start, v3_k]
def b_law_loop : DS := (dSeq (dIf (dOr (vr (o2V oNe (o2V oIx (gV 0) (gC (.int 0))) (gC (.str "loop")))) (dOr (vr (o2V oNe (o1V oLen (gV 0)) (gC (.int 3)))) (o1 oNot (bw (dCall m_law_walk [none, none, none] [] (aCons (fz 0 (re (vr (o2V oIx (gV 0) (gC (.int 1)))))) (aCons (gS 1) (aCons (gM 4) aNil)))))))) (dRet (re (vr (gC (.bl false))))) dNx) (dSeq (dIf (dOr (o1 oNot (bw (dCall m_law_walk [none, none, none] [] (aCons (fz 0 (re (vr (o2V oIx (gV 0) (gC (.int 2)))))) (aCons (gS 1) (aCons (fz 0 (re (vr (o2V oIx (o2V oIx (gV 0) (gC (.int 1))) (o1V oNeg (gC (.int 1))))))) aNil)))))) (vr (o2V oNotIn (o2V oIx (o2V oIx (gV 0) (gC (.int 2))) (gC (.int 0))) (o2V oIx (gV 1) (o2V oIx (o2V oIx (gV 0) (gC (.int 2))) (o1V oNeg (gC (.int 1)))))))) (dRet (re (vr (gC (.bl false))))) dNx) (dSeq (dFor (dIt itemsL (o2v oCat (vr (o2V oIx (gV 0) (gC (.int 1)))) (o2V oIx (gV 0) (gC (.int 2))))) (gN 5) (dIf (vr (o2V oNotIn (gV 5) (gV 3))) (dRet (re (vr (gC (.bl false))))) dNx)) (dSeq (dFor (dIt itemsL (gM 2)) (gN 6) (dIf (o2v oEq (o1 oLen (dLc (dIt itemsL (fz 0 (re (vr (o2V oIx (gV 0) (gC (.int 2))))))) (gN 5) (vr (o2V oIn (gV 5) (gV 6))) (gM 5) [5])) (gC (.int 0))) (dRet (re (vr (gC (.bl false))))) dNx)) (dRet (re (vr (gC (.bl true)))))))))
def m_law_loop : FT := dFun [true, true, true, true, true] 7 b_law_loop
def l_law_loop_1 : DS := (dIf (vr (o2V oNotIn (gV 5) (gV 3))) (dRet (re (vr (gC (.bl false))))) dNx)
def x_law_loop_1 : DE := (gM 5)
def y_law_loop_1 : DE := (vr (o2V oIn (gV 5) (gV 6)))
def l_law_loop_2 : DS := (dIf (o2v oEq (o1 oLen (dLc (dIt itemsL (fz 0 (re (vr (o2V oIx (gV 0) (gC (.int 2))))))) (gN 5) y_law_loop_1 x_law_loop_1 [5])) (gC (.int 0))) (dRet (re (vr (gC (.bl false))))) dNx)
theorem bn_law_loop : b_law_loop = (dSeq (dIf (dOr (vr (o2V oNe (o2V oIx (gV 0) (gC (.int 0))) (gC (.str "loop")))) (dOr (vr (o2V oNe (o1V oLen (gV 0)) (gC (.int 3)))) (o1 oNot (bw (dCall m_law_walk [none, none, none] [] (aCons (fz 0 (re (vr (o2V oIx (gV 0) (gC (.int 1)))))) (aCons (gS 1) (aCons (gM 4) aNil)))))))) (dRet (re (vr (gC (.bl false))))) dNx) (dSeq (dIf (dOr (o1 oNot (bw (dCall m_law_walk [none, none, none] [] (aCons (fz 0 (re (vr (o2V oIx (gV 0) (gC (.int 2)))))) (aCons (gS 1) (aCons (fz 0 (re (vr (o2V oIx (o2V oIx (gV 0) (gC (.int 1))) (o1V oNeg (gC (.int 1))))))) aNil)))))) (vr (o2V oNotIn (o2V oIx (o2V oIx (gV 0) (gC (.int 2))) (gC (.int 0))) (o2V oIx (gV 1) (o2V oIx (o2V oIx (gV 0) (gC (.int 2))) (o1V oNeg (gC (.int 1)))))))) (dRet (re (vr (gC (.bl false))))) dNx) (dSeq (dFor (dIt itemsL (o2v oCat (vr (o2V oIx (gV 0) (gC (.int 1)))) (o2V oIx (gV 0) (gC (.int 2))))) (gN 5) l_law_loop_1) (dSeq (dFor (dIt itemsL (gM 2)) (gN 6) l_law_loop_2) (dRet (re (vr (gC (.bl true))))))))) := rfl
abbrev e_law_loop (v0_reason v1_steps v2_fair v3_within v4_start v5_stand v6_some : T) : List T := [v0_reason, v1_steps, v2_fair, v3_within, v4_start, v5_stand, v6_some]
def b_law_is_rank : DS := (dSeq (dIf (dOr (vr (o2V oNe (o2V oIx (gV 0) (gC (.int 0))) (gC (.str "rank")))) (dOr (vr (o2V oNe (o1V oLen (gV 0)) (gC (.int 3)))) (dOr (o1 oNot (bw (dCall m_law_whole [none] [] (aCons (fz 0 (re (vr (o2V oIx (gV 0) (gC (.int 1)))))) aNil)))) (vr (o2V oLt (o2V oIx (gV 0) (gC (.int 1))) (gC (.int 0))))))) (dRet (re (vr (gC (.bl false))))) dNx) (dRet (re (dOr (vr (o2V oIsN (o2V oIx (gV 0) (gC (.int 2))) (gC .non))) (dAnd (bw (dCall m_law_whole [none] [] (aCons (fz 0 (re (vr (o2V oIx (gV 0) (gC (.int 2)))))) aNil))) (vr (oCh oLe oLt (gC (.int 0)) (o2V oIx (gV 0) (gC (.int 2))) (o1V oLen (gV 1)))))))))
def m_law_is_rank : FT := dFun [true, true] 2 b_law_is_rank
theorem bn_law_is_rank : b_law_is_rank = (dSeq (dIf (dOr (vr (o2V oNe (o2V oIx (gV 0) (gC (.int 0))) (gC (.str "rank")))) (dOr (vr (o2V oNe (o1V oLen (gV 0)) (gC (.int 3)))) (dOr (o1 oNot (bw (dCall m_law_whole [none] [] (aCons (fz 0 (re (vr (o2V oIx (gV 0) (gC (.int 1)))))) aNil)))) (vr (o2V oLt (o2V oIx (gV 0) (gC (.int 1))) (gC (.int 0))))))) (dRet (re (vr (gC (.bl false))))) dNx) (dRet (re (dOr (vr (o2V oIsN (o2V oIx (gV 0) (gC (.int 2))) (gC .non))) (dAnd (bw (dCall m_law_whole [none] [] (aCons (fz 0 (re (vr (o2V oIx (gV 0) (gC (.int 2)))))) aNil))) (vr (oCh oLe oLt (gC (.int 0)) (o2V oIx (gV 0) (gC (.int 2))) (o1V oLen (gV 1))))))))) := rfl
abbrev e_law_is_rank (v0_reason v1_fair : T) : List T := [v0_reason, v1_fair]
def b_law_falls : DS := (dSeq (dIf (dOr (o1 oNot (bw (dCall m_law_is_rank [none, none] [] (aCons (gS 0) (aCons (gS 2) aNil))))) (o1 oNot (bw (dCall m_law_is_rank [none, none] [] (aCons (gS 1) (aCons (gS 2) aNil)))))) (dRet (re (vr (gC (.bl false))))) dNx) (dSeq (dIf (vr (o2V oLt (o2V oIx (gV 1) (gC (.int 1))) (o2V oIx (gV 0) (gC (.int 1))))) (dRet (re (vr (gC (.bl true))))) dNx) (dSeq (dIf (dOr (vr (o2V oNe (o2V oIx (gV 1) (gC (.int 1))) (o2V oIx (gV 0) (gC (.int 1))))) (dOr (vr (o2V oIsN (o2V oIx (gV 0) (gC (.int 2))) (gC .non))) (vr (o2V oNe (o2V oIx (gV 1) (gC (.int 2))) (o2V oIx (gV 0) (gC (.int 2))))))) (dRet (re (vr (gC (.bl false))))) dNx) (dRet (re (dAnd (vr (o2V oNotIn (gV 3) (o2V oIx (gV 2) (o2V oIx (gV 0) (gC (.int 2)))))) (vr (o2V oNotIn (gV 4) (o2V oIx (gV 2) (o2V oIx (gV 0) (gC (.int 2))))))))))))
def m_law_falls : FT := dFun [true, true, true, true, true] 5 b_law_falls
theorem bn_law_falls : b_law_falls = (dSeq (dIf (dOr (o1 oNot (bw (dCall m_law_is_rank [none, none] [] (aCons (gS 0) (aCons (gS 2) aNil))))) (o1 oNot (bw (dCall m_law_is_rank [none, none] [] (aCons (gS 1) (aCons (gS 2) aNil)))))) (dRet (re (vr (gC (.bl false))))) dNx) (dSeq (dIf (vr (o2V oLt (o2V oIx (gV 1) (gC (.int 1))) (o2V oIx (gV 0) (gC (.int 1))))) (dRet (re (vr (gC (.bl true))))) dNx) (dSeq (dIf (dOr (vr (o2V oNe (o2V oIx (gV 1) (gC (.int 1))) (o2V oIx (gV 0) (gC (.int 1))))) (dOr (vr (o2V oIsN (o2V oIx (gV 0) (gC (.int 2))) (gC .non))) (vr (o2V oNe (o2V oIx (gV 1) (gC (.int 2))) (o2V oIx (gV 0) (gC (.int 2))))))) (dRet (re (vr (gC (.bl false))))) dNx) (dRet (re (dAnd (vr (o2V oNotIn (gV 3) (o2V oIx (gV 2) (o2V oIx (gV 0) (gC (.int 2)))))) (vr (o2V oNotIn (gV 4) (o2V oIx (gV 2) (o2V oIx (gV 0) (gC (.int 2)))))))))))) := rfl
abbrev e_law_falls (v0_one v1_other v2_fair v3_stand v4_further : T) : List T := [v0_one, v1_other, v2_fair, v3_stand, v4_further]
def b_law_ranked : DS := (dSeq (dIf (o1 oNot (bw (dCall m_law_is_rank [none, none] [] (aCons (fz 0 (re (vr (o2V oIx (gV 0) (gV 3))))) (aCons (gS 2) aNil))))) (dRet (re (vr (gC (.bl false))))) dNx) (dSeq (dFor (dIt itemsL (fz 1 (re (vr (o2V oIx (gV 1) (gV 3)))))) (gN 4) (dIf (o1 oNot (bw (dCall m_law_falls [none, none, none, none, none] [] (aCons (fz 0 (re (vr (o2V oIx (gV 0) (gV 3))))) (aCons (fz 0 (re (vr (o2V oIx (gV 0) (gV 4))))) (aCons (gS 2) (aCons (gS 3) (aCons (gM 4) aNil)))))))) (dRet (re (vr (gC (.bl false))))) dNx)) (dRet (re (vr (gC (.bl true)))))))
def m_law_ranked : FT := dFun [true, true, true, true] 5 b_law_ranked
def l_law_ranked_1 : DS := (dIf (o1 oNot (bw (dCall m_law_falls [none, none, none, none, none] [] (aCons (fz 0 (re (vr (o2V oIx (gV 0) (gV 3))))) (aCons (fz 0 (re (vr (o2V oIx (gV 0) (gV 4))))) (aCons (gS 2) (aCons (gS 3) (aCons (gM 4) aNil)))))))) (dRet (re (vr (gC (.bl false))))) dNx)
theorem bn_law_ranked : b_law_ranked = (dSeq (dIf (o1 oNot (bw (dCall m_law_is_rank [none, none] [] (aCons (fz 0 (re (vr (o2V oIx (gV 0) (gV 3))))) (aCons (gS 2) aNil))))) (dRet (re (vr (gC (.bl false))))) dNx) (dSeq (dFor (dIt itemsL (fz 1 (re (vr (o2V oIx (gV 1) (gV 3)))))) (gN 4) l_law_ranked_1) (dRet (re (vr (gC (.bl true))))))) := rfl
abbrev e_law_ranked (v0_found v1_steps v2_fair v3_stand v4_other : T) : List T := [v0_found, v1_steps, v2_fair, v3_stand, v4_other]
def b_law_told : DS := (dSeq (dIf (dOr (o1 oNot (vr (o1V (oIsi "list") (gV 0)))) (vr (o2V oNe (o1V oLen (gV 0)) (o1V oLen (gV 1))))) (dRet (re (vr (gC (.bl false))))) dNx) (dSeq (dFor (dIt itemsL (gS 0)) (gN 3) (dIf (dOr (o1 oNot (vr (o1V (oIsi "tuple") (gV 3)))) (dOr (vr (o2V oNe (o1V oLen (gV 3)) (gC (.int 3)))) (o1 oNot (vr (o1V (oIsi "str") (o2V oIx (gV 3) (gC (.int 0)))))))) (dRet (re (vr (gC (.bl false))))) dNx)) (dSeq (dSet 4 (dLRg (vr (o1V oLen (gV 1))))) (dSeq (dFor (dIt itemsL (gS 4)) (gN 5) (dIf (vr (o2V oEq (o2V oIx (o2V oIx (gV 0) (gV 5)) (gC (.int 0))) (gC (.str "loop")))) (dIf (o1 oNot (bw (dCall m_law_loop [none, none, none, none, none] [] (aCons (fz 0 (re (vr (o2V oIx (gV 0) (gV 5))))) (aCons (gS 1) (aCons (gS 2) (aCons (gS 4) (aCons (gM 5) aNil)))))))) (dRet (re (vr (gC (.bl false))))) dNx) (dIf (o1 oNot (bw (dCall m_law_ranked [none, none, none, none] [] (aCons (gS 0) (aCons (gS 1) (aCons (gS 2) (aCons (gM 5) aNil))))))) (dRet (re (vr (gC (.bl false))))) dNx))) (dRet (re (vr (gC (.bl true)))))))))
def m_law_told : FT := dFun [true, true, true] 6 b_law_told
def l_law_told_1 : DS := (dIf (dOr (o1 oNot (vr (o1V (oIsi "tuple") (gV 3)))) (dOr (vr (o2V oNe (o1V oLen (gV 3)) (gC (.int 3)))) (o1 oNot (vr (o1V (oIsi "str") (o2V oIx (gV 3) (gC (.int 0)))))))) (dRet (re (vr (gC (.bl false))))) dNx)
def l_law_told_2 : DS := (dIf (vr (o2V oEq (o2V oIx (o2V oIx (gV 0) (gV 5)) (gC (.int 0))) (gC (.str "loop")))) (dIf (o1 oNot (bw (dCall m_law_loop [none, none, none, none, none] [] (aCons (fz 0 (re (vr (o2V oIx (gV 0) (gV 5))))) (aCons (gS 1) (aCons (gS 2) (aCons (gS 4) (aCons (gM 5) aNil)))))))) (dRet (re (vr (gC (.bl false))))) dNx) (dIf (o1 oNot (bw (dCall m_law_ranked [none, none, none, none] [] (aCons (gS 0) (aCons (gS 1) (aCons (gS 2) (aCons (gM 5) aNil))))))) (dRet (re (vr (gC (.bl false))))) dNx))
theorem bn_law_told : b_law_told = (dSeq (dIf (dOr (o1 oNot (vr (o1V (oIsi "list") (gV 0)))) (vr (o2V oNe (o1V oLen (gV 0)) (o1V oLen (gV 1))))) (dRet (re (vr (gC (.bl false))))) dNx) (dSeq (dFor (dIt itemsL (gS 0)) (gN 3) l_law_told_1) (dSeq (dSet 4 (dLRg (vr (o1V oLen (gV 1))))) (dSeq (dFor (dIt itemsL (gS 4)) (gN 5) l_law_told_2) (dRet (re (vr (gC (.bl true))))))))) := rfl
abbrev e_law_told (v0_found v1_steps v2_fair v3_reason v4_every v5_stand : T) : List T := [v0_found, v1_steps, v2_fair, v3_reason, v4_every, v5_stand]
def b_law : DS := (dSeq (dSet 1 (dCall m_law_small_by [none] [] (aCons (dCall m_law_cell_at [none, none] [] (aCons (gS 0) (aCons (re (vr (gC (.int 0)))) aNil))) aNil))) (dSeq (dSet 2 (dCall m_law_steps_by [none, none] [] (aCons (gS 0) (aCons (gS 1) aNil)))) (dSeq (dSet 3 (dCall m_law_fair_by [none, none] [] (aCons (dCall m_law_cell_at [none, none] [] (aCons (gS 0) (aCons (re (vr (gC (.int 1)))) aNil))) (aCons (gS 1) aNil)))) (dSeq (dSet 4 (dCall m_law_cell_at [none, none] [] (aCons (gM 0) (aCons (re (vr (gC (.int 2)))) aNil)))) (dSeq (dSet 5 (dLc (dRng (vr (gC (.int 3)))) (gN 12) dYes (dCall m_law_word_by [none, none] [] (aCons (re (vr (o2V oDiv (gV 4) (gC (.int 36))))) (aCons (gM 12) aNil))) [12])) (dSeq (dSet 6 (dLc (dRng (vr (gC (.int 2)))) (gN 12) dYes (dCall m_law_set_by [none, none, none] [] (aCons (re (vr (o2V oAdd (gV 4) (gV 12)))) (aCons (gS 1) (aCons (o2v oIx (dLst (aCons (re (vr (gC (.int 3)))) (aCons (re (vr (gC (.int 5)))) (aCons (re (vr (gC (.int 1)))) (aCons (re (vr (gC (.int 4)))) (aCons (re (vr (gC (.int 2)))) (aCons (re (vr (gC (.int 6)))) aNil))))))) (o2V oMod (o2V oAdd (o2V oDiv (gV 4) (gC (.int 6))) (gV 12)) (gC (.int 6)))) aNil)))) [12])) (dSeq (dSet 7 (dLc (dRng (vr (gC (.int 2)))) (gN 12) dYes (dTup (aCons (fz 5 (re (vr (o2V oIx (gV 5) (gV 12))))) (aCons (o1 oList (vr (o2V oIx (gV 6) (gV 12)))) aNil))) [12])) (dSeq (dSet 8 (dMake "Machine" m_Machine_init [none, none, none] [] (aCons (dLc (dIt itemsL (gS 2)) (gN 15) dYes (o1 oList (vr (gV 15))) [15]) (aCons (gM 7) (aCons (dLc (dIt itemsL (gS 3)) (gN 16) dYes (o1 oList (vr (gV 16))) [16]) aNil))))) (dSeq (dFor (dRng (vr (gC (.int 2)))) (gN 9) (dSeq (dSet 10 (dCall m_lives [none] [] (aCons (gS 8) aNil))) (dSeq (dIf (o1 oNot (bw (dCall m_law_told [none, none, none] [] (aCons (gS 10) (aCons (gS 2) (aCons (gS 3) aNil)))))) (dRet (re (vr (gC (.bl false))))) dNx) (dSeq (dSet 11 (dLc (dRng (vr (gV 1))) (gN 12) (vr (o2V oEq (o2V oIx (o2V oIx (gV 10) (gV 12)) (gC (.int 0))) (gC (.str "loop")))) (gM 12) [12])) (dSeq (dIf (o2n oNe 11 (dLst aNil)) (dSeq (dSet 13 (fz 11 (re (vr (o2V oIx (gV 11) (o2V oMod (gV 4) (o1V oLen (gV 11)))))))) (dSeq (dSet 14 (dLc (dIt itemsL (gS 11)) (gN 12) (vr (o2V oNe (gV 12) (gV 13))) (dTup (aCons (o1 oList (vr (o2V oIx (o2V oIx (gV 10) (gV 12)) (gC (.int 1))))) (aCons (o1 oList (vr (o2V oIx (o2V oIx (gV 10) (gV 12)) (gC (.int 2))))) aNil))) [12])) (dSeq (dEx (dMutP0 "list" (dpIx (dpIx (dpV 10) (gV 13)) (gC (.int 1))) mClear)) (dSeq (dEx (dMutP "list" (dpIx (dpIx (dpV 10) (gV 13)) (gC (.int 2))) mAppend (gV 1))) (dIf (bwS (o2n oNe 14 (dLc (dIt itemsL (gM 11)) (gN 12) (vr (o2V oNe (gV 12) (gV 13))) (dTup (aCons (re (vr (o2V oIx (o2V oIx (gV 10) (gV 12)) (gC (.int 1))))) (aCons (re (vr (o2V oIx (o2V oIx (gV 10) (gV 12)) (gC (.int 2))))) aNil))) [12]))) (dRet (re (vr (gC (.bl false))))) dNx))))) dNx) (dEx (dMut "list" 10 mClear aNil))))))) (dRet (re (vr (gC (.bl true))))))))))))))
def m_law : FT := dFun [true] 17 b_law
def x_law_1 : DE := (dCall m_law_word_by [none, none] [] (aCons (re (vr (o2V oDiv (gV 4) (gC (.int 36))))) (aCons (gM 12) aNil)))
def x_law_2 : DE := (dCall m_law_set_by [none, none, none] [] (aCons (re (vr (o2V oAdd (gV 4) (gV 12)))) (aCons (gS 1) (aCons (o2v oIx (dLst (aCons (re (vr (gC (.int 3)))) (aCons (re (vr (gC (.int 5)))) (aCons (re (vr (gC (.int 1)))) (aCons (re (vr (gC (.int 4)))) (aCons (re (vr (gC (.int 2)))) (aCons (re (vr (gC (.int 6)))) aNil))))))) (o2V oMod (o2V oAdd (o2V oDiv (gV 4) (gC (.int 6))) (gV 12)) (gC (.int 6)))) aNil))))
def x_law_3 : DE := (dTup (aCons (fz 5 (re (vr (o2V oIx (gV 5) (gV 12))))) (aCons (o1 oList (vr (o2V oIx (gV 6) (gV 12)))) aNil)))
def x_law_4 : DE := (o1 oList (vr (gV 16)))
def x_law_5 : DE := (o1 oList (vr (gV 15)))
def x_law_6 : DE := (gM 12)
def y_law_6 : DE := (vr (o2V oEq (o2V oIx (o2V oIx (gV 10) (gV 12)) (gC (.int 0))) (gC (.str "loop"))))
def x_law_7 : DE := (dTup (aCons (o1 oList (vr (o2V oIx (o2V oIx (gV 10) (gV 12)) (gC (.int 1))))) (aCons (o1 oList (vr (o2V oIx (o2V oIx (gV 10) (gV 12)) (gC (.int 2))))) aNil)))
def y_law_7 : DE := (vr (o2V oNe (gV 12) (gV 13)))
def x_law_8 : DE := (dTup (aCons (re (vr (o2V oIx (o2V oIx (gV 10) (gV 12)) (gC (.int 1))))) (aCons (re (vr (o2V oIx (o2V oIx (gV 10) (gV 12)) (gC (.int 2))))) aNil)))
def y_law_8 : DE := (vr (o2V oNe (gV 12) (gV 13)))
def l_law_1 : DS := (dSeq (dSet 10 (dCall m_lives [none] [] (aCons (gS 8) aNil))) (dSeq (dIf (o1 oNot (bw (dCall m_law_told [none, none, none] [] (aCons (gS 10) (aCons (gS 2) (aCons (gS 3) aNil)))))) (dRet (re (vr (gC (.bl false))))) dNx) (dSeq (dSet 11 (dLc (dRng (vr (gV 1))) (gN 12) y_law_6 x_law_6 [12])) (dSeq (dIf (o2n oNe 11 (dLst aNil)) (dSeq (dSet 13 (fz 11 (re (vr (o2V oIx (gV 11) (o2V oMod (gV 4) (o1V oLen (gV 11)))))))) (dSeq (dSet 14 (dLc (dIt itemsL (gS 11)) (gN 12) y_law_7 x_law_7 [12])) (dSeq (dEx (dMutP0 "list" (dpIx (dpIx (dpV 10) (gV 13)) (gC (.int 1))) mClear)) (dSeq (dEx (dMutP "list" (dpIx (dpIx (dpV 10) (gV 13)) (gC (.int 2))) mAppend (gV 1))) (dIf (bwS (o2n oNe 14 (dLc (dIt itemsL (gM 11)) (gN 12) y_law_8 x_law_8 [12]))) (dRet (re (vr (gC (.bl false))))) dNx))))) dNx) (dEx (dMut "list" 10 mClear aNil))))))
theorem bn_law : b_law = (dSeq (dSet 1 (dCall m_law_small_by [none] [] (aCons (dCall m_law_cell_at [none, none] [] (aCons (gS 0) (aCons (re (vr (gC (.int 0)))) aNil))) aNil))) (dSeq (dSet 2 (dCall m_law_steps_by [none, none] [] (aCons (gS 0) (aCons (gS 1) aNil)))) (dSeq (dSet 3 (dCall m_law_fair_by [none, none] [] (aCons (dCall m_law_cell_at [none, none] [] (aCons (gS 0) (aCons (re (vr (gC (.int 1)))) aNil))) (aCons (gS 1) aNil)))) (dSeq (dSet 4 (dCall m_law_cell_at [none, none] [] (aCons (gM 0) (aCons (re (vr (gC (.int 2)))) aNil)))) (dSeq (dSet 5 (dLc (dRng (vr (gC (.int 3)))) (gN 12) dYes x_law_1 [12])) (dSeq (dSet 6 (dLc (dRng (vr (gC (.int 2)))) (gN 12) dYes x_law_2 [12])) (dSeq (dSet 7 (dLc (dRng (vr (gC (.int 2)))) (gN 12) dYes x_law_3 [12])) (dSeq (dSet 8 (dMake "Machine" m_Machine_init [none, none, none] [] (aCons (dLc (dIt itemsL (gS 2)) (gN 15) dYes x_law_5 [15]) (aCons (gM 7) (aCons (dLc (dIt itemsL (gS 3)) (gN 16) dYes x_law_4 [16]) aNil))))) (dSeq (dFor (dRng (vr (gC (.int 2)))) (gN 9) l_law_1) (dRet (re (vr (gC (.bl true)))))))))))))) := rfl
abbrev e_law (v0_script v1_many v2_steps v3_fair v4_cell v5_names v6_sets v7_marks v8_machine v9_turn v10_found v11_loops v12_k v13_at v14_kept v15_row v16_some : T) : List T := [v0_script, v1_many, v2_steps, v3_fair, v4_cell, v5_names, v6_sets, v7_marks, v8_machine, v9_turn, v10_found, v11_loops, v12_k, v13_at, v14_kept, v15_row, v16_some]
/-! ### what the top has written -/
structure Txt (K : PySem.W.Frag) (mg : Mg) where
  C_Machine : Addr
  m_Machine : mg "Machine" = some (.ref C_Machine)
  cl_Machine : Cls K C_Machine
  na_Machine_fair : NoAttr K C_Machine "fair"
  na_Machine_marks : NoAttr K C_Machine "marks"
  na_Machine_steps : NoAttr K C_Machine "steps"
  a_law_small_by : Addr
  fd_law_small_by : FuncData
  F_law_small_by : Fun K "_law_small_by" "_law_small_by" s_law_small_by a_law_small_by fd_law_small_by
  g_law_small_by : mg "_law_small_by" = some (.ref a_law_small_by)
  b_law_small_by : L2.Binds K fd_law_small_by ["_law_cell"] []
  a_law_cell_at : Addr
  fd_law_cell_at : FuncData
  F_law_cell_at : Fun K "_law_cell_at" "_law_cell_at" s_law_cell_at a_law_cell_at fd_law_cell_at
  g_law_cell_at : mg "_law_cell_at" = some (.ref a_law_cell_at)
  b_law_cell_at : L2.Binds K fd_law_cell_at ["_law_script", "_law_k"] []
  a_law_mix : Addr
  fd_law_mix : FuncData
  F_law_mix : Fun K "_law_mix" "_law_mix" s_law_mix a_law_mix fd_law_mix
  g_law_mix : mg "_law_mix" = some (.ref a_law_mix)
  b_law_mix : L2.Binds K fd_law_mix ["_law_cell", "_law_k"] []
  a_law_steps_by : Addr
  fd_law_steps_by : FuncData
  F_law_steps_by : Fun K "_law_steps_by" "_law_steps_by" s_law_steps_by a_law_steps_by fd_law_steps_by
  g_law_steps_by : mg "_law_steps_by" = some (.ref a_law_steps_by)
  b_law_steps_by : L2.Binds K fd_law_steps_by ["_law_script", "_law_many"] []
  a_law_fair_by : Addr
  fd_law_fair_by : FuncData
  F_law_fair_by : Fun K "_law_fair_by" "_law_fair_by" s_law_fair_by a_law_fair_by fd_law_fair_by
  g_law_fair_by : mg "_law_fair_by" = some (.ref a_law_fair_by)
  b_law_fair_by : L2.Binds K fd_law_fair_by ["_law_cell", "_law_many"] []
  a_look_stands : Addr
  fd_look_stands : FuncData
  F_look_stands : Fun K "look_stands" "look_stands" s_look_stands a_look_stands fd_look_stands
  g_look_stands : mg "look_stands" = some (.ref a_look_stands)
  b_look_stands : L2.Binds K fd_look_stands ["stands", "many"] []
  a_is_mark : Addr
  fd_is_mark : FuncData
  F_is_mark : Fun K "is_mark" "is_mark" s_is_mark a_is_mark fd_is_mark
  g_is_mark : mg "is_mark" = some (.ref a_is_mark)
  b_is_mark : L2.Binds K fd_is_mark ["name"] []
  a_look_machine : Addr
  fd_look_machine : FuncData
  F_look_machine : Fun K "look_machine" "look_machine" s_look_machine a_look_machine fd_look_machine
  g_look_machine : mg "look_machine" = some (.ref a_look_machine)
  b_look_machine : L2.Binds K fd_look_machine ["steps", "marks", "fair"] []
  a_Machine_init : Addr
  fd_Machine_init : FuncData
  F_Machine_init : FunD K "__init__" "Machine.__init__" (defArgs s_Machine_init) (defBody s_Machine_init) (defScope s_Machine_init) [.non, .non] [] a_Machine_init fd_Machine_init
  mk_Machine : Mk K C_Machine a_Machine_init
  ds_Machine_init_3 : List Value
  b_Machine_init_3 : Vals [] ds_Machine_init_3 ∧ L2.Binds K fd_Machine_init ["self", "steps", "marks", "fair"] ds_Machine_init_3
  a_law_word_by : Addr
  fd_law_word_by : FuncData
  F_law_word_by : Fun K "_law_word_by" "_law_word_by" s_law_word_by a_law_word_by fd_law_word_by
  g_law_word_by : mg "_law_word_by" = some (.ref a_law_word_by)
  b_law_word_by : L2.Binds K fd_law_word_by ["_law_cell", "_law_k"] []
  a_law_set_by : Addr
  fd_law_set_by : FuncData
  F_law_set_by : Fun K "_law_set_by" "_law_set_by" s_law_set_by a_law_set_by fd_law_set_by
  g_law_set_by : mg "_law_set_by" = some (.ref a_law_set_by)
  b_law_set_by : L2.Binds K fd_law_set_by ["_law_cell", "_law_many", "_law_way"] []
  a_keyed : Addr
  fd_keyed : FuncData
  F_keyed : Fun K "keyed" "keyed" s_keyed a_keyed fd_keyed
  g_keyed : mg "keyed" = some (.ref a_keyed)
  b_keyed : L2.Binds K fd_keyed ["stands"] []
  a_Machine_next_of : Addr
  fd_Machine_next_of : FuncData
  F_Machine_next_of : Fun K "next_of" "Machine.next_of" s_Machine_next_of a_Machine_next_of fd_Machine_next_of
  me_Machine_next_of : Meth K C_Machine "next_of" a_Machine_next_of
  b_Machine_next_of : L2.Binds K fd_Machine_next_of ["self", "stand"] []
  a_touches : Addr
  fd_touches : FuncData
  F_touches : Fun K "touches" "touches" s_touches a_touches fd_touches
  g_touches : mg "touches" = some (.ref a_touches)
  b_touches : L2.Binds K fd_touches ["machine", "stand", "keys"] []
  a_shrinking : Addr
  fd_shrinking : FuncData
  F_shrinking : Fun K "shrinking" "shrinking" s_shrinking a_shrinking fd_shrinking
  g_shrinking : mg "shrinking" = some (.ref a_shrinking)
  b_shrinking : L2.Binds K fd_shrinking ["machine", "within"] []
  a_Machine_fair_at : Addr
  fd_Machine_fair_at : FuncData
  F_Machine_fair_at : Fun K "fair_at" "Machine.fair_at" s_Machine_fair_at a_Machine_fair_at fd_Machine_fair_at
  me_Machine_fair_at : Meth K C_Machine "fair_at" a_Machine_fair_at
  b_Machine_fair_at : L2.Binds K fd_Machine_fair_at ["self", "number"] []
  a_Machine_many : Addr
  fd_Machine_many : FuncData
  F_Machine_many : Fun K "many" "Machine.many" s_Machine_many a_Machine_many fd_Machine_many
  me_Machine_many : Meth K C_Machine "many" a_Machine_many
  b_Machine_many : L2.Binds K fd_Machine_many ["self"] []
  a_growing : Addr
  fd_growing : FuncData
  F_growing : Fun K "growing" "growing" s_growing a_growing fd_growing
  g_growing : mg "growing" = some (.ref a_growing)
  b_growing : L2.Binds K fd_growing ["machine", "through", "goal"] []
  a_core : Addr
  fd_core : FuncData
  F_core : Fun K "core" "core" s_core a_core fd_core
  g_core : mg "core" = some (.ref a_core)
  b_core : L2.Binds K fd_core ["machine", "within"] []
  a_reach : Addr
  fd_reach : FuncData
  F_reach : Fun K "reach" "reach" s_reach a_reach fd_reach
  g_reach : mg "reach" = some (.ref a_reach)
  b_reach : L2.Binds K fd_reach ["machine", "within", "stand"] []
  a_missed_of : Addr
  fd_missed_of : FuncData
  F_missed_of : Fun K "missed_of" "missed_of" s_missed_of a_missed_of fd_missed_of
  g_missed_of : mg "missed_of" = some (.ref a_missed_of)
  b_missed_of : L2.Binds K fd_missed_of ["machine", "together"] []
  a_ranks : Addr
  fd_ranks : FuncData
  F_ranks : Fun K "ranks" "ranks" s_ranks a_ranks fd_ranks
  g_ranks : mg "ranks" = some (.ref a_ranks)
  b_ranks : L2.Binds K fd_ranks ["machine", "within"] []
  a_alive : Addr
  fd_alive : FuncData
  F_alive : Fun K "alive" "alive" s_alive a_alive fd_alive
  g_alive : mg "alive" = some (.ref a_alive)
  b_alive : L2.Binds K fd_alive ["machine"] []
  a_bottom_of : Addr
  fd_bottom_of : FuncData
  F_bottom_of : Fun K "bottom_of" "bottom_of" s_bottom_of a_bottom_of fd_bottom_of
  g_bottom_of : mg "bottom_of" = some (.ref a_bottom_of)
  b_bottom_of : L2.Binds K fd_bottom_of ["machine", "within", "stand"] []
  a_distances : Addr
  fd_distances : FuncData
  F_distances : Fun K "distances" "distances" s_distances a_distances fd_distances
  g_distances : mg "distances" = some (.ref a_distances)
  b_distances : L2.Binds K fd_distances ["machine", "through", "goal"] []
  a_short_walk : Addr
  fd_short_walk : FuncData
  F_short_walk : Fun K "short_walk" "short_walk" s_short_walk a_short_walk fd_short_walk
  g_short_walk : mg "short_walk" = some (.ref a_short_walk)
  b_short_walk : L2.Binds K fd_short_walk ["machine", "through", "goal", "stand"] []
  a_loop_within : Addr
  fd_loop_within : FuncData
  F_loop_within : Fun K "loop_within" "loop_within" s_loop_within a_loop_within fd_loop_within
  g_loop_within : mg "loop_within" = some (.ref a_loop_within)
  b_loop_within : L2.Binds K fd_loop_within ["machine", "kept", "stand"] []
  a_lives : Addr
  fd_lives : FuncData
  F_lives : Fun K "lives" "lives" s_lives a_lives fd_lives
  g_lives : mg "lives" = some (.ref a_lives)
  b_lives : L2.Binds K fd_lives ["machine"] []
  a_law_whole : Addr
  fd_law_whole : FuncData
  F_law_whole : Fun K "_law_whole" "_law_whole" s_law_whole a_law_whole fd_law_whole
  g_law_whole : mg "_law_whole" = some (.ref a_law_whole)
  b_law_whole : L2.Binds K fd_law_whole ["_law_found"] []
  a_law_walk : Addr
  fd_law_walk : FuncData
  F_law_walk : Fun K "_law_walk" "_law_walk" s_law_walk a_law_walk fd_law_walk
  g_law_walk : mg "_law_walk" = some (.ref a_law_walk)
  b_law_walk : L2.Binds K fd_law_walk ["_law_row", "_law_steps", "_law_start"] []
  a_law_loop : Addr
  fd_law_loop : FuncData
  F_law_loop : Fun K "_law_loop" "_law_loop" s_law_loop a_law_loop fd_law_loop
  g_law_loop : mg "_law_loop" = some (.ref a_law_loop)
  b_law_loop : L2.Binds K fd_law_loop ["_law_reason", "_law_steps", "_law_fair", "_law_within", "_law_start"] []
  a_law_is_rank : Addr
  fd_law_is_rank : FuncData
  F_law_is_rank : Fun K "_law_is_rank" "_law_is_rank" s_law_is_rank a_law_is_rank fd_law_is_rank
  g_law_is_rank : mg "_law_is_rank" = some (.ref a_law_is_rank)
  b_law_is_rank : L2.Binds K fd_law_is_rank ["_law_reason", "_law_fair"] []
  a_law_falls : Addr
  fd_law_falls : FuncData
  F_law_falls : Fun K "_law_falls" "_law_falls" s_law_falls a_law_falls fd_law_falls
  g_law_falls : mg "_law_falls" = some (.ref a_law_falls)
  b_law_falls : L2.Binds K fd_law_falls ["_law_one", "_law_other", "_law_fair", "_law_stand", "_law_further"] []
  a_law_ranked : Addr
  fd_law_ranked : FuncData
  F_law_ranked : Fun K "_law_ranked" "_law_ranked" s_law_ranked a_law_ranked fd_law_ranked
  g_law_ranked : mg "_law_ranked" = some (.ref a_law_ranked)
  b_law_ranked : L2.Binds K fd_law_ranked ["_law_found", "_law_steps", "_law_fair", "_law_stand"] []
  a_law_told : Addr
  fd_law_told : FuncData
  F_law_told : Fun K "_law_told" "_law_told" s_law_told a_law_told fd_law_told
  g_law_told : mg "_law_told" = some (.ref a_law_told)
  b_law_told : L2.Binds K fd_law_told ["_law_found", "_law_steps", "_law_fair"] []
  a_law : Addr
  fd_law : FuncData
  F_law : Fun K "law" "law" s_law a_law fd_law
  g_law : mg "law" = some (.ref a_law)
  n_bool : mg "bool" = none
  n_enumerate : mg "enumerate" = none
  n_int : mg "int" = none
  n_isinstance : mg "isinstance" = none
  n_len : mg "len" = none
  n_list : mg "list" = none
  n_max : mg "max" = none
  n_min : mg "min" = none
  n_range : mg "range" = none
  n_sorted : mg "sorted" = none
  n_str : mg "str" = none
  n_tuple : mg "tuple" = none
  v_KEPT : V
  u_KEPT : Value
  m_KEPT : mg "KEPT" = some u_KEPT
  r_KEPT : RelV v_KEPT u_KEPT
  t_KEPT : ∀ F H, Rep K mg F H v_KEPT k_KEPT Emp
  v_LETTERS : V
  u_LETTERS : Value
  m_LETTERS : mg "LETTERS" = some u_LETTERS
  r_LETTERS : RelV v_LETTERS u_LETTERS
  t_LETTERS : ∀ F H, Rep K mg F H v_LETTERS k_LETTERS Emp
  v_LONGEST : V
  u_LONGEST : Value
  m_LONGEST : mg "LONGEST" = some u_LONGEST
  r_LONGEST : RelV v_LONGEST u_LONGEST
  t_LONGEST : ∀ F H, Rep K mg F H v_LONGEST k_LONGEST Emp
  v_MOST_STANDS : V
  u_MOST_STANDS : Value
  m_MOST_STANDS : mg "MOST_STANDS" = some u_MOST_STANDS
  r_MOST_STANDS : RelV v_MOST_STANDS u_MOST_STANDS
  t_MOST_STANDS : ∀ F H, Rep K mg F H v_MOST_STANDS k_MOST_STANDS Emp
/-! ### the defs -/
theorem sc_law_small_by : FnScope ["_law_cell"] ["_law_cell"] (defScope s_law_small_by) := ⟨rfl, rfl, rfl, by decide +kernel, rfl, by decide +kernel, by decide +kernel⟩
theorem sc_law_cell_at : FnScope ["_law_script", "_law_k"] ["_law_script", "_law_k"] (defScope s_law_cell_at) := ⟨rfl, rfl, rfl, by decide +kernel, rfl, by decide +kernel, by decide +kernel⟩
theorem sc_law_mix : FnScope ["_law_cell", "_law_k", "_law_one"] ["_law_cell", "_law_k"] (defScope s_law_mix) := ⟨rfl, rfl, rfl, by decide +kernel, rfl, by decide +kernel, by decide +kernel⟩
theorem sc_law_steps_by : FnScope ["_law_script", "_law_many", "_law_steps", "_law_stand", "_law_cell", "_law_row", "_law_k", "_law_other"] ["_law_script", "_law_many"] (defScope s_law_steps_by) := ⟨rfl, rfl, rfl, by decide +kernel, rfl, by decide +kernel, by decide +kernel⟩
theorem sc_law_fair_by : FnScope ["_law_cell", "_law_many", "_law_fair", "_law_rest", "_law_k", "_law_some", "_law_way", "_law_stand", "_law_one"] ["_law_cell", "_law_many"] (defScope s_law_fair_by) := ⟨rfl, rfl, rfl, by decide +kernel, rfl, by decide +kernel, by decide +kernel⟩
theorem sc_look_stands : FnScope ["stands", "many", "ahead", "stand"] ["stands", "many"] (defScope s_look_stands) := ⟨rfl, rfl, rfl, by decide +kernel, rfl, by decide +kernel, by decide +kernel⟩
theorem sc_is_mark : FnScope ["name", "sign"] ["name"] (defScope s_is_mark) := ⟨rfl, rfl, rfl, by decide +kernel, rfl, by decide +kernel, by decide +kernel⟩
theorem sc_look_machine : FnScope ["steps", "marks", "fair", "many", "stands", "ahead", "name"] ["steps", "marks", "fair"] (defScope s_look_machine) := ⟨rfl, rfl, rfl, by decide +kernel, rfl, by decide +kernel, by decide +kernel⟩
theorem sc_Machine_init : FnScope ["self", "steps", "marks", "fair", "stands", "pair"] ["self", "steps", "marks", "fair"] (defScope s_Machine_init) := ⟨rfl, rfl, rfl, by decide +kernel, rfl, by decide +kernel, by decide +kernel⟩
theorem sc_law_word_by : FnScope ["_law_cell", "_law_k", "_law_some", "_law_size", "_law_word", "_law_place", "_law_at"] ["_law_cell", "_law_k"] (defScope s_law_word_by) := ⟨rfl, rfl, rfl, by decide +kernel, rfl, by decide +kernel, by decide +kernel⟩
theorem sc_law_set_by : FnScope ["_law_cell", "_law_many", "_law_way", "_law_some", "_law_rest", "_law_stand", "_law_one"] ["_law_cell", "_law_many", "_law_way"] (defScope s_law_set_by) := ⟨rfl, rfl, rfl, by decide +kernel, rfl, by decide +kernel, by decide +kernel⟩
theorem sc_keyed : FnScope ["stands", "keys", "stand"] ["stands"] (defScope s_keyed) := ⟨rfl, rfl, rfl, by decide +kernel, rfl, by decide +kernel, by decide +kernel⟩
theorem sc_Machine_next_of : FnScope ["self", "stand"] ["self", "stand"] (defScope s_Machine_next_of) := ⟨rfl, rfl, rfl, by decide +kernel, rfl, by decide +kernel, by decide +kernel⟩
theorem sc_touches : FnScope ["machine", "stand", "keys", "other"] ["machine", "stand", "keys"] (defScope s_touches) := ⟨rfl, rfl, rfl, by decide +kernel, rfl, by decide +kernel, by decide +kernel⟩
theorem sc_shrinking : FnScope ["machine", "within", "sets", "last", "fewer", "stand"] ["machine", "within"] (defScope s_shrinking) := ⟨rfl, rfl, rfl, by decide +kernel, rfl, by decide +kernel, by decide +kernel⟩
theorem sc_Machine_fair_at : FnScope ["self", "number"] ["self", "number"] (defScope s_Machine_fair_at) := ⟨rfl, rfl, rfl, by decide +kernel, rfl, by decide +kernel, by decide +kernel⟩
theorem sc_Machine_many : FnScope ["self"] ["self"] (defScope s_Machine_many) := ⟨rfl, rfl, rfl, by decide +kernel, rfl, by decide +kernel, by decide +kernel⟩
theorem sc_growing : FnScope ["machine", "through", "goal", "goals", "ways", "sets", "last", "more", "stand"] ["machine", "through", "goal"] (defScope s_growing) := ⟨rfl, rfl, rfl, by decide +kernel, rfl, by decide +kernel, by decide +kernel⟩
theorem sc_core : FnScope ["machine", "within", "kept", "ahead", "number", "fair", "goal", "stand"] ["machine", "within"] (defScope s_core) := ⟨rfl, rfl, rfl, by decide +kernel, rfl, by decide +kernel, by decide +kernel⟩
theorem sc_reach : FnScope ["machine", "within", "stand", "keys", "found", "waiting", "other"] ["machine", "within", "stand"] (defScope s_reach) := ⟨rfl, rfl, rfl, by decide +kernel, rfl, by decide +kernel, by decide +kernel⟩
theorem sc_missed_of : FnScope ["machine", "together", "number", "fair", "stand"] ["machine", "together"] (defScope s_missed_of) := ⟨rfl, rfl, rfl, by decide +kernel, rfl, by decide +kernel, by decide +kernel⟩
theorem sc_ranks : FnScope ["machine", "within", "kept", "found", "reached", "stand", "together", "other"] ["machine", "within"] (defScope s_ranks) := ⟨rfl, rfl, rfl, by decide +kernel, rfl, by decide +kernel, by decide +kernel⟩
theorem sc_alive : FnScope ["machine"] ["machine"] (defScope s_alive) := ⟨rfl, rfl, rfl, by decide +kernel, rfl, by decide +kernel, by decide +kernel⟩
theorem sc_bottom_of : FnScope ["machine", "within", "stand", "best", "other", "found"] ["machine", "within", "stand"] (defScope s_bottom_of) := ⟨rfl, rfl, rfl, by decide +kernel, rfl, by decide +kernel, by decide +kernel⟩
theorem sc_distances : FnScope ["machine", "through", "goal", "found", "place", "stands", "stand"] ["machine", "through", "goal"] (defScope s_distances) := ⟨rfl, rfl, rfl, by decide +kernel, rfl, by decide +kernel, by decide +kernel⟩
theorem sc_short_walk : FnScope ["machine", "through", "goal", "stand", "far", "walk", "nearer", "other"] ["machine", "through", "goal", "stand"] (defScope s_short_walk) := ⟨rfl, rfl, rfl, by decide +kernel, rfl, by decide +kernel, by decide +kernel⟩
theorem sc_loop_within : FnScope ["machine", "kept", "stand", "inside", "base", "path", "number", "onward", "fair", "goal", "other"] ["machine", "kept", "stand"] (defScope s_loop_within) := ⟨rfl, rfl, rfl, by decide +kernel, rfl, by decide +kernel, by decide +kernel⟩
theorem sc_lives : FnScope ["machine", "everywhere", "ranked", "kept", "found", "stand"] ["machine"] (defScope s_lives) := ⟨rfl, rfl, rfl, by decide +kernel, rfl, by decide +kernel, by decide +kernel⟩
theorem sc_law_whole : FnScope ["_law_found"] ["_law_found"] (defScope s_law_whole) := ⟨rfl, rfl, rfl, by decide +kernel, rfl, by decide +kernel, by decide +kernel⟩
theorem sc_law_walk : FnScope ["_law_row", "_law_steps", "_law_start", "_law_k"] ["_law_row", "_law_steps", "_law_start"] (defScope s_law_walk) := ⟨rfl, rfl, rfl, by decide +kernel, rfl, by decide +kernel, by decide +kernel⟩
theorem sc_law_loop : FnScope ["_law_reason", "_law_steps", "_law_fair", "_law_within", "_law_start", "_law_stand", "_law_some"] ["_law_reason", "_law_steps", "_law_fair", "_law_within", "_law_start"] (defScope s_law_loop) := ⟨rfl, rfl, rfl, by decide +kernel, rfl, by decide +kernel, by decide +kernel⟩
theorem sc_law_is_rank : FnScope ["_law_reason", "_law_fair"] ["_law_reason", "_law_fair"] (defScope s_law_is_rank) := ⟨rfl, rfl, rfl, by decide +kernel, rfl, by decide +kernel, by decide +kernel⟩
theorem sc_law_falls : FnScope ["_law_one", "_law_other", "_law_fair", "_law_stand", "_law_further"] ["_law_one", "_law_other", "_law_fair", "_law_stand", "_law_further"] (defScope s_law_falls) := ⟨rfl, rfl, rfl, by decide +kernel, rfl, by decide +kernel, by decide +kernel⟩
theorem sc_law_ranked : FnScope ["_law_found", "_law_steps", "_law_fair", "_law_stand", "_law_other"] ["_law_found", "_law_steps", "_law_fair", "_law_stand"] (defScope s_law_ranked) := ⟨rfl, rfl, rfl, by decide +kernel, rfl, by decide +kernel, by decide +kernel⟩
theorem sc_law_told : FnScope ["_law_found", "_law_steps", "_law_fair", "_law_reason", "_law_every", "_law_stand"] ["_law_found", "_law_steps", "_law_fair"] (defScope s_law_told) := ⟨rfl, rfl, rfl, by decide +kernel, rfl, by decide +kernel, by decide +kernel⟩
theorem sc_law : FnScope ["_law_script", "_law_many", "_law_steps", "_law_fair", "_law_cell", "_law_names", "_law_sets", "_law_marks", "_law_machine", "_law_turn", "_law_found", "_law_loops", "_law_k", "_law_at", "_law_kept", "_law_row", "_law_some"] ["_law_script"] (defScope s_law) := ⟨rfl, rfl, rfl, by decide +kernel, rfl, by decide +kernel, by decide +kernel⟩
section
variable {P : Program} {w : World} {K : PySem.W.Frag} {mg : Mg} {base : Heap}
theorem ok_law_small_by (E : Txt K mg) : FnOk P w K mg base CX0 1 E.a_law_small_by E.fd_law_small_by ["_law_cell"] (spD K mg 1 m_law_small_by) :=
  have nd := sc_law_small_by.nd
  ok_def (keep := [true]) (d := b_law_small_by) E.F_law_small_by sc_law_small_by rfl rfl (by decide) fun cdv A outer s H E' hr => ((ss_cons (ss_if (st_cmp (op_eqD hr.units) v_eq (nomark _) (sv_bin op_mod v_mod (sv_name (i := 0)) sv_int) sv_int) (ss_one (ss_ret (SV.e (sv_bin op_addS v_add sv_int (sv_bin op_mod v_mod (sv_bin op_fdiv v_div (sv_name (i := 0)) sv_int) sv_int))))) ss_nil) (ss_one (ss_ret (SV.e (sv_bin op_addS v_add sv_int (sv_bin op_mod v_mod (sv_bin op_fdiv v_div (sv_name (i := 0)) sv_int) sv_int)))))))
theorem ok_law_cell_at (E : Txt K mg) : FnOk P w K mg base CX0 1 E.a_law_cell_at E.fd_law_cell_at ["_law_script", "_law_k"] (spD K mg 2 m_law_cell_at) :=
  have nd := sc_law_cell_at.nd
  ok_def (keep := [true, true]) (d := b_law_cell_at) E.F_law_cell_at sc_law_cell_at rfl rfl (by decide) fun cdv A outer s H E' hr => ((ss_cons (ss_if (st_cmp op_lt v_lt (nomark _) (sv_name (i := 1)) (sv_b1 call_lenA v_len PySem.boot_len (by rfl) E.n_len (sv_name (i := 0)))) (ss_one (ss_ret (SV.e (sv_ix (hu_of hr) (sv_name (i := 0)) (sv_name (i := 1)))))) ss_nil) (ss_one (ss_ret (SV.e sv_int)))))
theorem ok_law_mix (E : Txt K mg) : FnOk P w K mg base CX0 1 E.a_law_mix E.fd_law_mix ["_law_cell", "_law_k"] (spD K mg 2 m_law_mix) :=
  have nd := sc_law_mix.nd
  ok_def (keep := [true, true]) (d := b_law_mix) E.F_law_mix sc_law_mix rfl rfl (by decide) fun cdv A outer s H E' hr => ((ss_cons (ss_set (i := 2) nd rfl (by first | exact Or.inl rfl | exact Or.inr rfl) (SV.e (sv_bin op_mod v_mod (sv_bin op_addS v_add (sv_bin op_addS v_add (sv_bin op_mul v_mul (sv_name (i := 0)) (sv_bin op_addS v_add sv_int (sv_bin op_mul v_mul sv_int (sv_name (i := 1))))) (sv_bin op_mul v_mul sv_int (sv_name (i := 1)))) sv_int) sv_int))) (ss_one (ss_ret (SV.e (sv_bin op_mod v_mod (sv_bin op_mul v_mul (sv_name (i := 2)) (sv_bin op_addS v_add (sv_bin op_addS v_add (sv_name (i := 2)) sv_int) (sv_name (i := 1)))) sv_int))))))
theorem ok_law_steps_by (E : Txt K mg) : FnOk P w K mg base CX0 2 E.a_law_steps_by E.fd_law_steps_by ["_law_script", "_law_many"] (spD K mg 2 m_law_steps_by) :=
  have nd := sc_law_steps_by.nd
  ok_def (keep := [true, true]) (d := b_law_steps_by) E.F_law_steps_by sc_law_steps_by rfl rfl (by decide) fun cdv A outer s H E' hr => ((ss_cons (ss_set (i := 2) nd rfl (by first | exact Or.inl rfl | exact Or.inr rfl) (se_lst sa_nil)) (ss_cons (ss_for PassesOwn.never rfl (si_rng (by rfl) E.n_range (SV.r (sv_name (i := 1)))) (sg_name (i := 3) nd rfl (by first | exact Or.inl rfl | exact Or.inr rfl)) (ss_cons (ss_set (i := 4) nd rfl (by first | exact Or.inl rfl | exact Or.inr rfl) (se_call (ok_law_cell_at E) (dFun_len rfl) hr (by rfl) E.g_law_cell_at E.F_law_cell_at.kp E.b_law_cell_at .nil (sa_cons (se_share (i := 0)) (sa_cons (SV.e (sv_bin op_addS v_add sv_int (sv_bin op_mod v_mod (sv_name (i := 3)) (sv_b2 (call_max2 rfl) v_max (by decide +kernel) (by rfl) E.n_max sv_int (sv_bin op_sub v_sub (sv_b1 call_lenA v_len PySem.boot_len (by rfl) E.n_len (sv_name (i := 0))) sv_int))))) sa_nil)))) (ss_cons (ss_set (i := 5) nd rfl (by first | exact Or.inl rfl | exact Or.inr rfl) (se_lst sa_nil)) (ss_cons (ss_for PassesOwn.never rfl (si_rng (by rfl) E.n_range (sr_binc op_addS v_add (SV.r sv_int) (sr_binv op_mod v_mod (SE.r (se_call (ok_law_mix E) (dFun_len rfl) hr (by rfl) E.g_law_mix E.F_law_mix.kp E.b_law_mix .nil (sa_cons (se_share (i := 4)) (sa_cons (se_share (i := 3)) sa_nil)))) sv_int))) (sg_name (i := 6) nd rfl (by first | exact Or.inl rfl | exact Or.inr rfl)) (ss_cons (ss_set (i := 7) nd rfl (by first | exact Or.inl rfl | exact Or.inr rfl) (SR.e (sr_binv op_mod v_mod (SE.r (se_call (ok_law_mix E) (dFun_len rfl) hr (by rfl) E.g_law_mix E.F_law_mix.kp E.b_law_mix .nil (sa_cons (SV.e (sv_bin op_addS v_add (sv_name (i := 4)) (sv_name (i := 6)))) (sa_cons (SV.e (sv_bin op_addS v_add (sv_bin op_addS v_add (sv_name (i := 3)) (sv_bin op_mul v_mul sv_int (sv_name (i := 6)))) sv_int)) sa_nil)))) (sv_name (i := 1))))) (ss_cons (ss_if (st_cmpv (op_eqD hr.units) v_eq (nomark _) (sr_binv op_mod v_mod (SE.r (se_call (ok_law_mix E) (dFun_len rfl) hr (by rfl) E.g_law_mix E.F_law_mix.kp E.b_law_mix .nil (sa_cons (se_share (i := 4)) (sa_cons (SV.e (sv_bin op_addS v_add (sv_bin op_addS v_add sv_int (sv_name (i := 3))) (sv_name (i := 6)))) sa_nil)))) sv_int) sv_int) (ss_one (ss_set (i := 7) nd rfl (by first | exact Or.inl rfl | exact Or.inr rfl) (SV.e (sv_bin op_mod v_mod (sv_bin op_addS v_add (sv_name (i := 3)) sv_int) (sv_name (i := 1)))))) ss_nil) (ss_one (ss_if (st_cmp (op_notInA (hu_of hr)) v_notIn rfl (sv_name (i := 7)) (sv_name (i := 5))) (ss_one (ss_ex (se_mut (i := 5) PySem.F.plainAttrs_list PySem.F.slot_list_append PySem.F.type_list_append mt_append m_append (sa_cons (se_move (i := 7)) sa_nil)))) ss_nil))))) (ss_one (ss_ex (se_mut (i := 2) PySem.F.plainAttrs_list PySem.F.slot_list_append PySem.F.type_list_append mt_append m_append (sa_cons (se_move (i := 5)) sa_nil)))))))) (ss_one (ss_ret (se_move (i := 2)))))))
theorem ok_law_fair_by (E : Txt K mg) : FnOk P w K mg base CX0 2 E.a_law_fair_by E.fd_law_fair_by ["_law_cell", "_law_many"] (spD K mg 2 m_law_fair_by) :=
  have nd := sc_law_fair_by.nd
  ok_def (keep := [true, true]) (d := b_law_fair_by) E.F_law_fair_by sc_law_fair_by rfl rfl (by decide) fun cdv A outer s H E' hr => ((ss_cons (ss_set (i := 2) nd rfl (by first | exact Or.inl rfl | exact Or.inr rfl) (se_lst sa_nil)) (ss_cons (ss_set (i := 3) nd rfl (by first | exact Or.inl rfl | exact Or.inr rfl) (SV.e (sv_bin op_fdiv v_div (sv_name (i := 0)) sv_int))) (ss_cons (ss_for PassesOwn.never rfl (si_rng (by rfl) E.n_range (SV.r (sv_bin op_mod v_mod (sv_name (i := 0)) sv_int))) (sg_name (i := 4) nd rfl (by first | exact Or.inl rfl | exact Or.inr rfl)) (ss_cons (ss_set (i := 5) nd rfl (by first | exact Or.inl rfl | exact Or.inr rfl) (se_lst sa_nil)) (ss_cons (ss_set (i := 6) nd rfl (by first | exact Or.inl rfl | exact Or.inr rfl) (SR.e (sr_ixo (hu_of hr) (se_lst (sa_cons (SV.e sv_int) (sa_cons (SV.e sv_int) (sa_cons (SV.e sv_int) (sa_cons (SV.e sv_int) (sa_cons (SV.e sv_int) sa_nil)))))) (sr_binv op_mod v_mod (SE.r (se_call (ok_law_mix E) (dFun_len rfl) hr (by rfl) E.g_law_mix E.F_law_mix.kp E.b_law_mix .nil (sa_cons (se_share (i := 0)) (sa_cons (SV.e (sv_bin op_addS v_add sv_int (sv_name (i := 4)))) sa_nil)))) sv_int)))) (ss_cons (ss_for PassesOwn.never rfl (si_rng (by rfl) E.n_range (SV.r (sv_name (i := 1)))) (sg_name (i := 7) nd rfl (by first | exact Or.inl rfl | exact Or.inr rfl)) (ss_cons (ss_set (i := 8) nd rfl (by first | exact Or.inl rfl | exact Or.inr rfl) (SR.e (sr_t1 call_int1 v_int (by decide +kernel) (by rfl) E.n_int (sr_cmpv op_lt v_lt (nomark _) (sr_binv op_mod v_mod (SE.r (se_call (ok_law_mix E) (dFun_len rfl) hr (by rfl) E.g_law_mix E.F_law_mix.kp E.b_law_mix .nil (sa_cons (se_share (i := 0)) (sa_cons (SV.e (sv_bin op_addS v_add (sv_bin op_addS v_add sv_int (sv_bin op_mul v_mul sv_int (sv_name (i := 4)))) (sv_name (i := 7)))) sa_nil)))) sv_int) (sv_name (i := 6)))))) (ss_cons (ss_if (st_cmp op_ge v_ge (nomark _) (sv_name (i := 0)) (sv_bin op_pow v_pow sv_int sv_int)) (ss_one (ss_set (i := 8) nd rfl (by first | exact Or.inl rfl | exact Or.inr rfl) (SV.e (sv_bin op_mod v_mod (sv_name (i := 3)) sv_int)))) ss_nil) (ss_cons (ss_if (st_cmp (op_eqD hr.units) v_eq (nomark _) (sv_name (i := 8)) sv_int) (ss_one (ss_ex (se_mut (i := 5) PySem.F.plainAttrs_list PySem.F.slot_list_append PySem.F.type_list_append mt_append m_append (sa_cons (se_move (i := 7)) sa_nil)))) ss_nil) (ss_one (ss_set (i := 3) nd rfl (by first | exact Or.inl rfl | exact Or.inr rfl) (SV.e (sv_bin op_fdiv v_div (sv_name (i := 3)) sv_int)))))))) (ss_cons (ss_if (SW.t (sw_and (st_cmpn (i := 5) (op_eqD hr.units) v_eq (nomark _) (SE.r (se_lst sa_nil))) (sw_and (st_cmp op_lt v_lt (nomark _) (sv_name (i := 0)) (sv_bin op_pow v_pow sv_int sv_int)) (sw_and1 (st_cmpv op_gt v_gt (nomark _) (sr_binv op_mod v_mod (SE.r (se_call (ok_law_mix E) (dFun_len rfl) hr (by rfl) E.g_law_mix E.F_law_mix.kp E.b_law_mix .nil (sa_cons (se_share (i := 0)) (sa_cons (SV.e (sv_bin op_addS v_add sv_int (sv_name (i := 4)))) sa_nil)))) sv_int) sv_int))))) (ss_one (ss_set (i := 5) nd rfl (by first | exact Or.inl rfl | exact Or.inr rfl) (se_lst (sa_cons (SR.e (sr_binv op_mod v_mod (SE.r (se_call (ok_law_mix E) (dFun_len rfl) hr (by rfl) E.g_law_mix E.F_law_mix.kp E.b_law_mix .nil (sa_cons (se_share (i := 0)) (sa_cons (SV.e (sv_bin op_addS v_add sv_int (sv_name (i := 4)))) sa_nil)))) (sv_name (i := 1)))) sa_nil)))) ss_nil) (ss_one (ss_ex (se_mut (i := 2) PySem.F.plainAttrs_list PySem.F.slot_list_append PySem.F.type_list_append mt_append m_append (sa_cons (se_move (i := 5)) sa_nil))))))))) (ss_one (ss_ret (se_move (i := 2))))))))
theorem ok_look_stands (E : Txt K mg) : FnOk P w K mg base CX0 1 E.a_look_stands E.fd_look_stands ["stands", "many"] (spD K mg 2 m_look_stands) :=
  have nd := sc_look_stands.nd
  ok_def (keep := [true, true]) (d := b_look_stands) E.F_look_stands sc_look_stands rfl rfl (by decide) fun cdv A outer s H E' hr => ((ss_cons (ss_set (i := 2) nd rfl (by first | exact Or.inl rfl | exact Or.inr rfl) se_dic) (ss_one (ss_for PassesOwn.never rfl (si_list (se_move (i := 0))) (sg_name (i := 3) nd rfl (by first | exact Or.inl rfl | exact Or.inr rfl)) (ss_cons (ss_if (SW.t (sw_or (st_not (ST.val (SV.r (sv_isi (b := "int") (by decide) (by decide +kernel) (by rfl) E.n_isinstance (by rfl) E.n_int (sv_name (i := 3)))))) (sw_or1 (ST.val (SV.r (sv_isi (b := "bool") (by decide) (by decide +kernel) (by rfl) E.n_isinstance (by rfl) E.n_bool (sv_name (i := 3)))))))) (ss_one ss_fail) ss_nil) (ss_cons (ss_if (SW.t (sw_or (st_cmp op_lt v_lt (nomark _) (sv_name (i := 3)) sv_int) (sw_or (st_cmp op_ge v_ge (nomark _) (sv_name (i := 3)) (sv_name (i := 1))) (sw_or1 (st_cmp (op_inA (hu_of hr)) v_in rfl (sv_name (i := 3)) (sv_name (i := 2))))))) (ss_one ss_fail) ss_nil) (ss_one (ss_setD (i := 2) (hu_of hr) (SV.e sv_bl) (sv_name (i := 3))))))))))
theorem ok_is_mark (E : Txt K mg) : FnOk P w K mg base CX0 1 E.a_is_mark E.fd_is_mark ["name"] (spD K mg 1 m_is_mark) :=
  have nd := sc_is_mark.nd
  ok_def (keep := [true]) (d := b_is_mark) E.F_is_mark sc_is_mark rfl rfl (by decide) fun cdv A outer s H E' hr => ((ss_cons (ss_if (SW.t (sw_or (st_cmp op_lt v_lt (nomark _) (sv_b1 call_lenA v_len PySem.boot_len (by rfl) E.n_len (sv_name (i := 0))) sv_int) (sw_or (st_cmp op_gt v_gt (nomark _) (sv_b1 call_lenA v_len PySem.boot_len (by rfl) E.n_len (sv_name (i := 0))) (sv_glob (by rfl) E.m_LONGEST E.r_LONGEST E.t_LONGEST)) (sw_or1 (st_cmp (op_inA (hu_of hr)) v_in rfl (sv_name (i := 0)) (sv_glob (by rfl) E.m_KEPT E.r_KEPT E.t_KEPT)))))) (ss_one (ss_ret (SV.e sv_bl))) ss_nil) (ss_cons (ss_for PassesOwn.never rfl (si_str (SV.r (sv_name (i := 0)))) (sg_name (i := 1) nd rfl (by first | exact Or.inl rfl | exact Or.inr rfl)) (ss_one (ss_if (st_cmp (op_notInA (hu_of hr)) v_notIn rfl (sv_name (i := 1)) (sv_glob (by rfl) E.m_LETTERS E.r_LETTERS E.t_LETTERS)) (ss_one (ss_ret (SV.e sv_bl))) ss_nil))) (ss_one (ss_ret (SV.e sv_bl))))))
theorem ok_look_machine (E : Txt K mg) : FnOk P w K mg base CX0 2 E.a_look_machine E.fd_look_machine ["steps", "marks", "fair"] (spD K mg 3 m_look_machine) :=
  have nd := sc_look_machine.nd
  ok_def (keep := [true, true, true]) (d := b_look_machine) E.F_look_machine sc_look_machine rfl rfl (by decide) fun cdv A outer s H E' hr => ((ss_cons (ss_set (i := 3) nd rfl (by first | exact Or.inl rfl | exact Or.inr rfl) (SV.e (sv_b1 call_lenA v_len PySem.boot_len (by rfl) E.n_len (sv_name (i := 0))))) (ss_cons (ss_if (SW.t (sw_or (st_cmp op_lt v_lt (nomark _) (sv_name (i := 3)) sv_int) (sw_or1 (st_cmp op_gt v_gt (nomark _) (sv_name (i := 3)) (sv_glob (by rfl) E.m_MOST_STANDS E.r_MOST_STANDS E.t_MOST_STANDS))))) (ss_one ss_fail) ss_nil) (ss_cons (ss_for PassesOwn.never rfl (si_list (se_move (i := 0))) (sg_name (i := 4) nd rfl (by first | exact Or.inl rfl | exact Or.inr rfl)) (ss_cons (ss_ex (se_call (ok_look_stands E) (dFun_len rfl) hr (by rfl) E.g_look_stands E.F_look_stands.kp E.b_look_stands .nil (sa_cons (se_share (i := 4)) (sa_cons (se_share (i := 3)) sa_nil)))) (ss_one (ss_if (st_cmp (op_eqD hr.units) v_eq (nomark _) (sv_b1 call_lenA v_len PySem.boot_len (by rfl) E.n_len (sv_name (i := 4))) sv_int) (ss_one ss_fail) ss_nil)))) (ss_cons (ss_set (i := 5) nd rfl (by first | exact Or.inl rfl | exact Or.inr rfl) se_dic) (ss_cons (ss_for PassesOwn.never rfl (si_list (se_move (i := 1))) (sg_two rfl (sg_name (i := 6) nd rfl (by first | exact Or.inl rfl | exact Or.inr rfl)) (sg_name (i := 4) nd rfl (by first | exact Or.inl rfl | exact Or.inr rfl))) (ss_cons (ss_if (SW.t (sw_or (st_not (ST.val (SE.r (SE.bw (se_call (ok_is_mark E) (dFun_len rfl) hr (by rfl) E.g_is_mark E.F_is_mark.kp E.b_is_mark .nil (sa_cons (se_share (i := 6)) sa_nil)))))) (sw_or1 (st_cmp (op_inA (hu_of hr)) v_in rfl (sv_name (i := 6)) (sv_name (i := 5)))))) (ss_one ss_fail) ss_nil) (ss_cons (ss_setD (i := 5) (hu_of hr) (SV.e sv_bl) (sv_name (i := 6))) (ss_one (ss_ex (se_call (ok_look_stands E) (dFun_len rfl) hr (by rfl) E.g_look_stands E.F_look_stands.kp E.b_look_stands .nil (sa_cons (se_move (i := 4)) (sa_cons (se_share (i := 3)) sa_nil)))))))) (ss_one (ss_for PassesOwn.never rfl (si_list (se_move (i := 2))) (sg_name (i := 4) nd rfl (by first | exact Or.inl rfl | exact Or.inr rfl)) (ss_one (ss_ex (se_call (ok_look_stands E) (dFun_len rfl) hr (by rfl) E.g_look_stands E.F_look_stands.kp E.b_look_stands .nil (sa_cons (se_move (i := 4)) (sa_cons (se_share (i := 3)) sa_nil)))))))))))))
theorem ok_Machine_init (E : Txt K mg) : FnOk P w K mg base CX0 3 E.a_Machine_init E.fd_Machine_init ["self", "steps", "marks", "fair"] (spD K mg 4 m_Machine_init) :=
  have nd := sc_Machine_init.nd
  ok_defD (keep := [true, true, false, false]) (d := b_Machine_init) E.F_Machine_init sc_Machine_init rfl rfl (by decide) fun cdv A outer s H E' hr => ((ss_cons (ss_if (st_cmp op_isN v_isN (nomark _) (sv_name (i := 2)) sv_non) (ss_one (ss_set (i := 2) nd rfl (by first | exact Or.inl rfl | exact Or.inr rfl) (se_lst sa_nil))) ss_nil) (ss_cons (ss_if (st_cmp op_isN v_isN (nomark _) (sv_name (i := 3)) sv_non) (ss_one (ss_set (i := 3) nd rfl (by first | exact Or.inl rfl | exact Or.inr rfl) (se_lst sa_nil))) ss_nil) (ss_cons (ss_ex (se_call (ok_look_machine E) (dFun_len rfl) hr (by rfl) E.g_look_machine E.F_look_machine.kp E.b_look_machine .nil (sa_cons (se_share (i := 1)) (sa_cons (se_share (i := 2)) (sa_cons (se_share (i := 3)) sa_nil))))) (ss_cons (ss_fld (i := 0) E.m_Machine E.cl_Machine E.na_Machine_steps (se_lc rfl nd (si_list (se_move (i := 1))) (blkOk_by (N := ["self", "steps", "marks", "fair", "stands", "pair"]) (sc := defScope s_Machine_init) (own := [("stands", 4)]) (by decide +kernel)) rfl (by decide) (by decide) (fun _ _ _ _ _ => (sg_name (i := 4) nd rfl (by first | exact Or.inl rfl | exact Or.inr rfl))) (fun _ _ _ _ _ => (se_t1 call_list_of e_list (by decide +kernel) (by rfl) E.n_list (SV.r (sv_name (i := 4))))))) (ss_cons (ss_fld (i := 0) E.m_Machine E.cl_Machine E.na_Machine_marks (se_lc rfl nd (si_list (se_move (i := 2))) (blkOk_by (N := ["self", "steps", "marks", "fair", "stands", "pair"]) (sc := defScope s_Machine_init) (own := [("pair", 5)]) (by decide +kernel)) rfl (by decide) (by decide) (fun _ _ _ _ _ => (sg_name (i := 5) nd rfl (by first | exact Or.inl rfl | exact Or.inr rfl))) (fun _ _ _ _ _ => (se_tup (sa_cons (SV.e (sv_ix (hu_of hr) (sv_name (i := 5)) sv_int)) (sa_cons (se_t1 call_list_of e_list (by decide +kernel) (by rfl) E.n_list (SV.r (sv_ix (hu_of hr) (sv_name (i := 5)) sv_int))) sa_nil)))))) (ss_one (ss_fld (i := 0) E.m_Machine E.cl_Machine E.na_Machine_fair (se_lc rfl nd (si_list (se_move (i := 3))) (blkOk_by (N := ["self", "steps", "marks", "fair", "stands", "pair"]) (sc := defScope s_Machine_init) (own := [("stands", 4)]) (by decide +kernel)) rfl (by decide) (by decide) (fun _ _ _ _ _ => (sg_name (i := 4) nd rfl (by first | exact Or.inl rfl | exact Or.inr rfl))) (fun _ _ _ _ _ => (se_t1 call_list_of e_list (by decide +kernel) (by rfl) E.n_list (SV.r (sv_name (i := 4))))))))))))))
theorem ok_law_word_by (E : Txt K mg) : FnOk P w K mg base CX0 1 E.a_law_word_by E.fd_law_word_by ["_law_cell", "_law_k"] (spD K mg 2 m_law_word_by) :=
  have nd := sc_law_word_by.nd
  ok_def (keep := [true, true]) (d := b_law_word_by) E.F_law_word_by sc_law_word_by rfl rfl (by decide) fun cdv A outer s H E' hr => ((ss_cons (ss_set (i := 2) nd rfl (by first | exact Or.inl rfl | exact Or.inr rfl) (SV.e sv_str)) (ss_cons (ss_set (i := 3) nd rfl (by first | exact Or.inl rfl | exact Or.inr rfl) (SV.e (sv_bin op_addS v_add sv_int (sv_bin op_mod v_mod (sv_name (i := 0)) sv_int)))) (ss_cons (ss_set (i := 4) nd rfl (by first | exact Or.inl rfl | exact Or.inr rfl) (SV.e sv_str)) (ss_cons (ss_for PassesOwn.never rfl (si_rng (by rfl) E.n_range (SV.r (sv_name (i := 3)))) (sg_name (i := 5) nd rfl (by first | exact Or.inl rfl | exact Or.inr rfl)) (ss_cons (ss_set (i := 6) nd rfl (by first | exact Or.inl rfl | exact Or.inr rfl) (SV.e (sv_bin op_addS v_add (sv_bin op_fdiv v_div (sv_name (i := 0)) sv_int) (sv_bin op_mul v_mul (sv_name (i := 5)) (sv_name (i := 5)))))) (ss_cons (ss_if (st_cmp (op_eqD hr.units) v_eq (nomark _) (sv_name (i := 5)) (sv_bin op_mod v_mod (sv_bin op_fdiv v_div (sv_name (i := 0)) sv_int) (sv_name (i := 3)))) (ss_one (ss_set (i := 6) nd rfl (by first | exact Or.inl rfl | exact Or.inr rfl) (SV.e (sv_bin op_addS v_add (sv_name (i := 6)) (sv_name (i := 1)))))) ss_nil) (ss_one (ss_set (i := 4) nd rfl (by first | exact Or.inl rfl | exact Or.inr rfl) (SV.e (sv_bin op_addS v_add (sv_name (i := 4)) (sv_ix (hu_of hr) (sv_name (i := 2)) (sv_bin op_mod v_mod (sv_name (i := 6)) sv_int))))))))) (ss_cons (ss_if (st_cmpn (i := 4) (op_inA (hu_of hr)) v_in rfl (SE.r (se_tup (sa_cons (SV.e sv_str) (sa_cons (SV.e sv_str) (sa_cons (SV.e sv_str) (sa_cons (SV.e sv_str) (sa_cons (SV.e sv_str) (sa_cons (SV.e sv_str) (sa_cons (SV.e sv_str) (sa_cons (SV.e sv_str) (sa_cons (SV.e sv_str) (sa_cons (SV.e sv_str) sa_nil))))))))))))) (ss_one (ss_set (i := 4) nd rfl (by first | exact Or.inl rfl | exact Or.inr rfl) (SR.e (sr_binv op_addS v_add (SE.r (se_slS (SV.r (sv_name (i := 4))) SP2.no (SP2.so sv_int))) sv_str)))) ss_nil) (ss_one (ss_ret (se_move (i := 4))))))))))
theorem ok_law_set_by (E : Txt K mg) : FnOk P w K mg base CX0 2 E.a_law_set_by E.fd_law_set_by ["_law_cell", "_law_many", "_law_way"] (spD K mg 3 m_law_set_by) :=
  have nd := sc_law_set_by.nd
  ok_def (keep := [true, true, true]) (d := b_law_set_by) E.F_law_set_by sc_law_set_by rfl rfl (by decide) fun cdv A outer s H E' hr => ((ss_cons (ss_set (i := 3) nd rfl (by first | exact Or.inl rfl | exact Or.inr rfl) (se_lst sa_nil)) (ss_cons (ss_set (i := 4) nd rfl (by first | exact Or.inl rfl | exact Or.inr rfl) (SV.e (sv_bin op_fdiv v_div (sv_name (i := 0)) sv_int))) (ss_cons (ss_if (st_cmp (op_eqD hr.units) v_eq (nomark _) (sv_bin op_mod v_mod (sv_name (i := 0)) sv_int) sv_int) (ss_one (ss_for PassesOwn.never rfl (si_rng (by rfl) E.n_range (SV.r (sv_name (i := 1)))) (sg_name (i := 5) nd rfl (by first | exact Or.inl rfl | exact Or.inr rfl)) (ss_one (ss_set (i := 4) nd rfl (by first | exact Or.inl rfl | exact Or.inr rfl) (SV.e (sv_bin op_fdiv v_div (sv_name (i := 4)) sv_int)))))) ss_nil) (ss_cons (ss_for PassesOwn.never rfl (si_rng (by rfl) E.n_range (SV.r (sv_name (i := 1)))) (sg_name (i := 5) nd rfl (by first | exact Or.inl rfl | exact Or.inr rfl)) (ss_cons (ss_set (i := 6) nd rfl (by first | exact Or.inl rfl | exact Or.inr rfl) (se_call (ok_law_mix E) (dFun_len rfl) hr (by rfl) E.g_law_mix E.F_law_mix.kp E.b_law_mix .nil (sa_cons (se_share (i := 0)) (sa_cons (SV.e (sv_bin op_addS v_add (sv_name (i := 5)) sv_int)) sa_nil)))) (ss_cons (ss_if (st_cmp op_ge v_ge (nomark _) (sv_name (i := 0)) (sv_bin op_pow v_pow sv_int sv_int)) (ss_one (ss_set (i := 6) nd rfl (by first | exact Or.inl rfl | exact Or.inr rfl) (se_share (i := 4)))) ss_nil) (ss_cons (ss_if (st_cmp op_lt v_lt (nomark _) (sv_bin op_mod v_mod (sv_name (i := 6)) sv_int) (sv_name (i := 2))) (ss_one (ss_ex (se_mut (i := 3) PySem.F.plainAttrs_list PySem.F.slot_list_append PySem.F.type_list_append mt_append m_append (sa_cons (se_move (i := 5)) sa_nil)))) ss_nil) (ss_one (ss_set (i := 4) nd rfl (by first | exact Or.inl rfl | exact Or.inr rfl) (SV.e (sv_bin op_fdiv v_div (sv_name (i := 4)) sv_int)))))))) (ss_one (ss_ret (se_move (i := 3)))))))))
theorem ok_keyed (E : Txt K mg) : FnOk P w K mg base CX0 1 E.a_keyed E.fd_keyed ["stands"] (spD K mg 1 m_keyed) :=
  have nd := sc_keyed.nd
  ok_def (keep := [true]) (d := b_keyed) E.F_keyed sc_keyed rfl rfl (by decide) fun cdv A outer s H E' hr => ((ss_cons (ss_set (i := 1) nd rfl (by first | exact Or.inl rfl | exact Or.inr rfl) se_dic) (ss_cons (ss_for PassesOwn.never rfl (si_list (se_move (i := 0))) (sg_name (i := 2) nd rfl (by first | exact Or.inl rfl | exact Or.inr rfl)) (ss_one (ss_setD (i := 1) (hu_of hr) (SV.e sv_bl) (sv_name (i := 2))))) (ss_one (ss_ret (se_move (i := 1)))))))
theorem ok_Machine_next_of (E : Txt K mg) : FnOk P w K mg base CX0 1 E.a_Machine_next_of E.fd_Machine_next_of ["self", "stand"] (spD K mg 2 m_Machine_next_of) :=
  have nd := sc_Machine_next_of.nd
  ok_def (keep := [true, true]) (d := b_Machine_next_of) E.F_Machine_next_of sc_Machine_next_of rfl rfl (by decide) fun cdv A outer s H E' hr => ((ss_one (ss_ret (se_b1 (call_sortA rfl) e_sorted (by decide +kernel) (by rfl) E.n_sorted (SV.r (sv_ix (hu_of hr) (sv_fld E.m_Machine E.cl_Machine E.na_Machine_steps (sv_name (i := 0))) (sv_name (i := 1))))))))
theorem ok_touches (E : Txt K mg) : FnOk P w K mg base CX0 2 E.a_touches E.fd_touches ["machine", "stand", "keys"] (spD K mg 3 m_touches) :=
  have nd := sc_touches.nd
  ok_def (keep := [true, true, true]) (d := b_touches) E.F_touches sc_touches rfl rfl (by decide) fun cdv A outer s H E' hr => ((ss_cons (ss_for PassesOwn.never rfl (si_list (se_meth E.m_Machine E.cl_Machine E.me_Machine_next_of (ok_Machine_next_of E) (dFun_len rfl) hr E.b_Machine_next_of .nil (se_move (i := 0)) (sa_cons (se_move (i := 1)) sa_nil))) (sg_name (i := 3) nd rfl (by first | exact Or.inl rfl | exact Or.inr rfl)) (ss_one (ss_if (st_cmp (op_inA (hu_of hr)) v_in rfl (sv_name (i := 3)) (sv_name (i := 2))) (ss_one (ss_ret (SV.e sv_bl))) ss_nil))) (ss_one (ss_ret (SV.e sv_bl)))))
theorem ok_shrinking (E : Txt K mg) : FnOk P w K mg base CX0 3 E.a_shrinking E.fd_shrinking ["machine", "within"] (spD K mg 2 m_shrinking) :=
  have nd := sc_shrinking.nd
  ok_def (keep := [true, true]) (d := b_shrinking) E.F_shrinking sc_shrinking rfl rfl (by decide) fun cdv A outer s H E' hr => ((ss_cons (ss_set (i := 2) nd rfl (by first | exact Or.inl rfl | exact Or.inr rfl) (se_lst (sa_cons (se_t1 call_list_of e_list (by decide +kernel) (by rfl) E.n_list (SV.r (sv_name (i := 1)))) sa_nil))) (ss_one (ss_while 4000 PassesOwn.never (ST.val (SV.r sv_bl)) (ss_cons (ss_set (i := 3) nd rfl (by first | exact Or.inl rfl | exact Or.inr rfl) (SE.bw (se_call (ok_keyed E) (dFun_len rfl) (hr.mono (by decide)) (by rfl) E.g_keyed E.F_keyed.kp E.b_keyed .nil (sa_cons (SV.e (sv_ix (hu_of hr) (sv_name (i := 2)) (sv_neg sv_int))) sa_nil)))) (ss_cons (ss_setLcIfB (i := 4) rfl nd rfl rfl (sw_true rfl rfl rfl (by decide +kernel)) (si_list (SV.e (sv_ix (hu_of hr) (sv_name (i := 2)) (sv_neg sv_int)))) (blkOk_by (N := ["machine", "within", "sets", "last", "fewer", "stand"]) (sc := defScope s_shrinking) (own := [("stand", 5)]) (by decide +kernel)) rfl (by decide) (by decide) (fun _ _ _ _ _ => (sg_name (i := 5) nd rfl (by first | exact Or.inl rfl | exact Or.inr rfl))) (fun _ _ _ _ _ => (ST.val (SE.r (SE.bw (se_call (ok_touches E) (dFun_len rfl) hr (by rfl) E.g_touches E.F_touches.kp E.b_touches .nil (sa_cons (se_share (i := 0)) (sa_cons (se_share (i := 5)) (sa_cons (se_share (i := 3)) sa_nil)))))))) (fun _ _ _ _ _ => (se_move (i := 5)))) (ss_cons (ss_if (st_cmp (op_eqD hr.units) v_eq (nomark _) (sv_b1 call_lenA v_len PySem.boot_len (by rfl) E.n_len (sv_name (i := 4))) (sv_b1 call_lenA v_len PySem.boot_len (by rfl) E.n_len (sv_name (i := 3)))) (ss_one (ss_ret (se_move (i := 2)))) ss_nil) (ss_one (ss_ex (se_mut (i := 2) PySem.F.plainAttrs_list PySem.F.slot_list_append PySem.F.type_list_append mt_append m_append (sa_cons (se_move (i := 4)) sa_nil)))))))))))
theorem ok_Machine_fair_at (E : Txt K mg) : FnOk P w K mg base CX0 1 E.a_Machine_fair_at E.fd_Machine_fair_at ["self", "number"] (spD K mg 2 m_Machine_fair_at) :=
  have nd := sc_Machine_fair_at.nd
  ok_def (keep := [true, true]) (d := b_Machine_fair_at) E.F_Machine_fair_at sc_Machine_fair_at rfl rfl (by decide) fun cdv A outer s H E' hr => ((ss_one (ss_ret (se_b1 (call_sortA rfl) e_sorted (by decide +kernel) (by rfl) E.n_sorted (SV.r (sv_ix (hu_of hr) (sv_fld E.m_Machine E.cl_Machine E.na_Machine_fair (sv_name (i := 0))) (sv_name (i := 1))))))))
theorem ok_Machine_many (E : Txt K mg) : FnOk P w K mg base CX0 1 E.a_Machine_many E.fd_Machine_many ["self"] (spD K mg 1 m_Machine_many) :=
  have nd := sc_Machine_many.nd
  ok_def (keep := [true]) (d := b_Machine_many) E.F_Machine_many sc_Machine_many rfl rfl (by decide) fun cdv A outer s H E' hr => ((ss_one (ss_ret (SV.e (sv_b1 call_lenA v_len PySem.boot_len (by rfl) E.n_len (sv_fld E.m_Machine E.cl_Machine E.na_Machine_steps (sv_name (i := 0))))))))
theorem ok_growing (E : Txt K mg) : FnOk P w K mg base CX0 3 E.a_growing E.fd_growing ["machine", "through", "goal"] (spD K mg 3 m_growing) :=
  have nd := sc_growing.nd
  ok_def (keep := [true, true, true]) (d := b_growing) E.F_growing sc_growing rfl rfl (by decide) fun cdv A outer s H E' hr => ((ss_cons (ss_set (i := 3) nd rfl (by first | exact Or.inl rfl | exact Or.inr rfl) (se_call (ok_keyed E) (dFun_len rfl) (hr.mono (by decide)) (by rfl) E.g_keyed E.F_keyed.kp E.b_keyed .nil (sa_cons (se_share (i := 2)) sa_nil))) (ss_cons (ss_set (i := 4) nd rfl (by first | exact Or.inl rfl | exact Or.inr rfl) (se_call (ok_keyed E) (dFun_len rfl) (hr.mono (by decide)) (by rfl) E.g_keyed E.F_keyed.kp E.b_keyed .nil (sa_cons (se_move (i := 1)) sa_nil))) (ss_cons (ss_set (i := 5) nd rfl (by first | exact Or.inl rfl | exact Or.inr rfl) (se_lst (sa_cons (se_t1 call_list_of e_list (by decide +kernel) (by rfl) E.n_list (SV.r (sv_name (i := 2)))) sa_nil))) (ss_one (ss_while 4000 PassesOwn.never (ST.val (SV.r sv_bl)) (ss_cons (ss_set (i := 6) nd rfl (by first | exact Or.inl rfl | exact Or.inr rfl) (SE.bw (se_call (ok_keyed E) (dFun_len rfl) (hr.mono (by decide)) (by rfl) E.g_keyed E.F_keyed.kp E.b_keyed .nil (sa_cons (SV.e (sv_ix (hu_of hr) (sv_name (i := 5)) (sv_neg sv_int))) sa_nil)))) (ss_cons (ss_set (i := 7) nd rfl (by first | exact Or.inl rfl | exact Or.inr rfl) (se_lst sa_nil)) (ss_cons (ss_for PassesOwn.never rfl (si_rng (by rfl) E.n_range (SE.r (SE.bw (se_meth0 E.m_Machine E.cl_Machine E.me_Machine_many (ok_Machine_many E) (dFun_len rfl) (hr.mono (by decide)) E.b_Machine_many .nil (se_share (i := 0)))))) (sg_name (i := 8) nd rfl (by first | exact Or.inl rfl | exact Or.inr rfl)) (ss_one (ss_if (SW.t (sw_or (st_cmp (op_inA (hu_of hr)) v_in rfl (sv_name (i := 8)) (sv_name (i := 3))) (sw_or1 (SW.t (sw_and (st_cmp (op_inA (hu_of hr)) v_in rfl (sv_name (i := 8)) (sv_name (i := 4))) (sw_and1 (ST.val (SE.r (SE.bw (se_call (ok_touches E) (dFun_len rfl) hr (by rfl) E.g_touches E.F_touches.kp E.b_touches .nil (sa_cons (se_share (i := 0)) (sa_cons (se_share (i := 8)) (sa_cons (se_share (i := 6)) sa_nil))))))))))))) (ss_one (ss_ex (se_mut (i := 7) PySem.F.plainAttrs_list PySem.F.slot_list_append PySem.F.type_list_append mt_append m_append (sa_cons (se_move (i := 8)) sa_nil)))) ss_nil))) (ss_cons (ss_if (st_cmp (op_eqD hr.units) v_eq (nomark _) (sv_b1 call_lenA v_len PySem.boot_len (by rfl) E.n_len (sv_name (i := 7))) (sv_b1 call_lenA v_len PySem.boot_len (by rfl) E.n_len (sv_name (i := 6)))) (ss_one (ss_ret (se_move (i := 5)))) ss_nil) (ss_one (ss_ex (se_mut (i := 5) PySem.F.plainAttrs_list PySem.F.slot_list_append PySem.F.type_list_append mt_append m_append (sa_cons (se_move (i := 7)) sa_nil))))))))))))))
theorem ok_core (E : Txt K mg) : FnOk P w K mg base CX0 4 E.a_core E.fd_core ["machine", "within"] (spD K mg 2 m_core) :=
  have nd := sc_core.nd
  ok_def (keep := [true, true]) (d := b_core) E.F_core sc_core rfl rfl (by decide) fun cdv A outer s H E' hr => ((ss_cons (ss_set (i := 2) nd rfl (by first | exact Or.inl rfl | exact Or.inr rfl) (se_ix (hu_of hr) (se_call (ok_shrinking E) (dFun_len rfl) hr (by rfl) E.g_shrinking E.F_shrinking.kp E.b_shrinking .nil (sa_cons (se_share (i := 0)) (sa_cons (se_move (i := 1)) sa_nil))) (sv_neg sv_int))) (ss_one (ss_while 4000 PassesOwn.never (ST.val (SV.r sv_bl)) (ss_cons (ss_set (i := 3) nd rfl (by first | exact Or.inl rfl | exact Or.inr rfl) (SV.e (sv_b1 call_lenA v_len PySem.boot_len (by rfl) E.n_len (sv_name (i := 2))))) (ss_cons (ss_for PassesOwn.never rfl (si_rng (by rfl) E.n_range (SV.r (sv_b1 call_lenA v_len PySem.boot_len (by rfl) E.n_len (sv_fld E.m_Machine E.cl_Machine E.na_Machine_fair (sv_name (i := 0)))))) (sg_name (i := 4) nd rfl (by first | exact Or.inl rfl | exact Or.inr rfl)) (ss_cons (ss_set (i := 5) nd rfl (by first | exact Or.inl rfl | exact Or.inr rfl) (se_call (ok_keyed E) (dFun_len rfl) (hr.mono (by decide)) (by rfl) E.g_keyed E.F_keyed.kp E.b_keyed .nil (sa_cons (se_meth E.m_Machine E.cl_Machine E.me_Machine_fair_at (ok_Machine_fair_at E) (dFun_len rfl) (hr.mono (by decide)) E.b_Machine_fair_at .nil (se_share (i := 0)) (sa_cons (se_move (i := 4)) sa_nil)) sa_nil))) (ss_cons (ss_setLcIf (i := 6) rfl nd rfl rfl (sw_true rfl rfl rfl (by decide +kernel)) (si_list (se_share (i := 2))) (blkOk_by (N := ["machine", "within", "kept", "ahead", "number", "fair", "goal", "stand"]) (sc := defScope s_core) (own := [("stand", 7)]) (by decide +kernel)) rfl (by decide) (by decide) (fun _ _ _ _ _ => (sg_name (i := 7) nd rfl (by first | exact Or.inl rfl | exact Or.inr rfl))) (fun _ _ _ _ _ => (st_cmp (op_inA (hu_of hr)) v_in rfl (sv_name (i := 7)) (sv_name (i := 5)))) (fun _ _ _ _ _ => (se_move (i := 7)))) (ss_one (ss_set (i := 2) nd rfl (by first | exact Or.inl rfl | exact Or.inr rfl) (se_ix (hu_of hr) (se_call (ok_shrinking E) (dFun_len rfl) hr (by rfl) E.g_shrinking E.F_shrinking.kp E.b_shrinking .nil (sa_cons (se_share (i := 0)) (sa_cons (se_ix (hu_of hr) (se_call (ok_growing E) (dFun_len rfl) hr (by rfl) E.g_growing E.F_growing.kp E.b_growing .nil (sa_cons (se_share (i := 0)) (sa_cons (se_move (i := 2)) (sa_cons (se_move (i := 6)) sa_nil)))) (sv_neg sv_int)) sa_nil))) (sv_neg sv_int))))))) (ss_one (ss_if (st_cmp (op_eqD hr.units) v_eq (nomark _) (sv_b1 call_lenA v_len PySem.boot_len (by rfl) E.n_len (sv_name (i := 2))) (sv_name (i := 3))) (ss_one (ss_ret (se_move (i := 2)))) ss_nil))))))))
theorem ok_reach (E : Txt K mg) : FnOk P w K mg base CX0 2 E.a_reach E.fd_reach ["machine", "within", "stand"] (spD K mg 3 m_reach) :=
  have nd := sc_reach.nd
  ok_def (keep := [true, true, true]) (d := b_reach) E.F_reach sc_reach rfl rfl (by decide) fun cdv A outer s H E' hr => ((ss_cons (ss_set (i := 3) nd rfl (by first | exact Or.inl rfl | exact Or.inr rfl) (se_call (ok_keyed E) (dFun_len rfl) hr (by rfl) E.g_keyed E.F_keyed.kp E.b_keyed .nil (sa_cons (se_move (i := 1)) sa_nil))) (ss_cons (ss_set (i := 4) nd rfl (by first | exact Or.inl rfl | exact Or.inr rfl) (se_dic1 (sv_name (i := 2)) sv_bl)) (ss_cons (ss_set (i := 5) nd rfl (by first | exact Or.inl rfl | exact Or.inr rfl) (se_lst (sa_cons (se_move (i := 2)) sa_nil))) (ss_cons (ss_while 4000 PassesOwn.never (st_cmp op_gt v_gt (nomark _) (sv_b1 call_lenA v_len PySem.boot_len (by rfl) E.n_len (sv_name (i := 5))) sv_int) (ss_one (ss_for PassesOwn.never rfl (si_list (se_meth E.m_Machine E.cl_Machine E.me_Machine_next_of (ok_Machine_next_of E) (dFun_len rfl) hr E.b_Machine_next_of .nil (se_share (i := 0)) (sa_cons (se_mut0 (i := 5) PySem.F.plainAttrs_list PySem.F.slot_list_pop PySem.F.type_list_pop mt_pop m_pop) sa_nil))) (sg_name (i := 6) nd rfl (by first | exact Or.inl rfl | exact Or.inr rfl)) (ss_one (ss_if (SW.t (sw_and (st_cmp (op_inA (hu_of hr)) v_in rfl (sv_name (i := 6)) (sv_name (i := 3))) (sw_and1 (st_cmp (op_notInA (hu_of hr)) v_notIn rfl (sv_name (i := 6)) (sv_name (i := 4)))))) (ss_cons (ss_setD (i := 4) (hu_of hr) (SV.e sv_bl) (sv_name (i := 6))) (ss_one (ss_ex (se_mut (i := 5) PySem.F.plainAttrs_list PySem.F.slot_list_append PySem.F.type_list_append mt_append m_append (sa_cons (se_move (i := 6)) sa_nil))))) ss_nil))))) (ss_one (ss_ret (se_b1 (call_sortA rfl) e_sorted (by decide +kernel) (by rfl) E.n_sorted (SV.r (sv_name (i := 4)))))))))))
theorem ok_missed_of (E : Txt K mg) : FnOk P w K mg base CX0 2 E.a_missed_of E.fd_missed_of ["machine", "together"] (spD K mg 2 m_missed_of) :=
  have nd := sc_missed_of.nd
  ok_def (keep := [true, true]) (d := b_missed_of) E.F_missed_of sc_missed_of rfl rfl (by decide) fun cdv A outer s H E' hr => ((ss_cons (ss_for PassesOwn.never rfl (si_rng (by rfl) E.n_range (SV.r (sv_b1 call_lenA v_len PySem.boot_len (by rfl) E.n_len (sv_fld E.m_Machine E.cl_Machine E.na_Machine_fair (sv_name (i := 0)))))) (sg_name (i := 2) nd rfl (by first | exact Or.inl rfl | exact Or.inr rfl)) (ss_cons (ss_set (i := 3) nd rfl (by first | exact Or.inl rfl | exact Or.inr rfl) (se_call (ok_keyed E) (dFun_len rfl) hr (by rfl) E.g_keyed E.F_keyed.kp E.b_keyed .nil (sa_cons (se_meth E.m_Machine E.cl_Machine E.me_Machine_fair_at (ok_Machine_fair_at E) (dFun_len rfl) hr E.b_Machine_fair_at .nil (se_share (i := 0)) (sa_cons (se_share (i := 2)) sa_nil)) sa_nil))) (ss_one (ss_if (st_cmpv (op_eqD hr.units) v_eq (nomark _) (sr_b1 call_lenA v_len PySem.boot_len (by rfl) E.n_len (SE.r (se_lcIf rfl nd (si_list (se_share (i := 1))) (blkOk_by (N := ["machine", "together", "number", "fair", "stand"]) (sc := defScope s_missed_of) (own := [("stand", 4)]) (by decide +kernel)) rfl (by decide) (by decide) (fun _ _ _ _ _ => (sg_name (i := 4) nd rfl (by first | exact Or.inl rfl | exact Or.inr rfl))) (fun _ _ _ _ _ => (st_cmp (op_inA (hu_of hr)) v_in rfl (sv_name (i := 4)) (sv_name (i := 3)))) (fun _ _ _ _ _ => (se_move (i := 4)))))) sv_int) (ss_one (ss_ret (se_move (i := 2)))) ss_nil)))) (ss_one (ss_ret (SV.e sv_non)))))
theorem ok_ranks (E : Txt K mg) : FnOk P w K mg base CX0 5 E.a_ranks E.fd_ranks ["machine", "within"] (spD K mg 2 m_ranks) :=
  have nd := sc_ranks.nd
  ok_def (keep := [true, true]) (d := b_ranks) E.F_ranks sc_ranks rfl rfl (by decide) fun cdv A outer s H E' hr => ((ss_cons (ss_set (i := 2) nd rfl (by first | exact Or.inl rfl | exact Or.inr rfl) (se_call (ok_keyed E) (dFun_len rfl) (hr.mono (by decide)) (by rfl) E.g_keyed E.F_keyed.kp E.b_keyed .nil (sa_cons (se_call (ok_core E) (dFun_len rfl) hr (by rfl) E.g_core E.F_core.kp E.b_core .nil (sa_cons (se_share (i := 0)) (sa_cons (se_share (i := 1)) sa_nil))) sa_nil))) (ss_cons (ss_setLc (i := 3) rfl nd rfl rfl (sw_true rfl rfl rfl (by decide +kernel)) (si_rng (by rfl) E.n_range (SE.r (SE.bw (se_meth0 E.m_Machine E.cl_Machine E.me_Machine_many (ok_Machine_many E) (dFun_len rfl) (hr.mono (by decide)) E.b_Machine_many .nil (se_share (i := 0)))))) (blkOk_by (N := ["machine", "within", "kept", "found", "reached", "stand", "together", "other"]) (sc := defScope s_ranks) (own := [("stand", 5)]) (by decide +kernel)) rfl (by decide) (by decide) (fun _ _ _ _ _ => (sg_name (i := 5) nd rfl (by first | exact Or.inl rfl | exact Or.inr rfl))) (fun _ _ _ _ _ => (SV.e sv_non))) (ss_cons (ss_set (i := 4) nd rfl (by first | exact Or.inl rfl | exact Or.inr rfl) se_dic) (ss_cons (ss_for PassesOwn.never rfl (si_list (se_share (i := 1))) (sg_name (i := 5) nd rfl (by first | exact Or.inl rfl | exact Or.inr rfl)) (ss_one (ss_setD (i := 4) (hu_of hr) (se_call (ok_reach E) (dFun_len rfl) (hr.mono (by decide)) (by rfl) E.g_reach E.F_reach.kp E.b_reach .nil (sa_cons (se_share (i := 0)) (sa_cons (se_share (i := 1)) (sa_cons (se_share (i := 5)) sa_nil)))) (sv_name (i := 5))))) (ss_cons (ss_for PassesOwn.never rfl (si_list (se_move (i := 1))) (sg_name (i := 5) nd rfl (by first | exact Or.inl rfl | exact Or.inr rfl)) (ss_one (ss_if (st_cmp (op_notInA (hu_of hr)) v_notIn rfl (sv_name (i := 5)) (sv_name (i := 2))) (ss_cons (ss_setLcIfB (i := 6) rfl nd rfl rfl (sw_true rfl rfl rfl (by decide +kernel)) (si_list (SV.e (sv_ix (hu_of hr) (sv_name (i := 4)) (sv_name (i := 5))))) (blkOk_by (N := ["machine", "within", "kept", "found", "reached", "stand", "together", "other"]) (sc := defScope s_ranks) (own := [("other", 7)]) (by decide +kernel)) rfl (by decide) (by decide) (fun _ _ _ _ _ => (sg_name (i := 7) nd rfl (by first | exact Or.inl rfl | exact Or.inr rfl))) (fun _ _ _ _ _ => (st_cmp (op_inA (hu_of hr)) v_in rfl (sv_name (i := 5)) (sv_ix (hu_of hr) (sv_name (i := 4)) (sv_name (i := 7))))) (fun _ _ _ _ _ => (se_move (i := 7)))) (ss_one (ss_setL (i := 3) (se_tup (sa_cons (SV.e (sv_b1 call_lenA v_len PySem.boot_len (by rfl) E.n_len (sv_ix (hu_of hr) (sv_name (i := 4)) (sv_name (i := 5))))) (sa_cons (SE.bw (se_call (ok_missed_of E) (dFun_len rfl) (hr.mono (by decide)) (by rfl) E.g_missed_of E.F_missed_of.kp E.b_missed_of .nil (sa_cons (se_share (i := 0)) (sa_cons (se_move (i := 6)) sa_nil)))) sa_nil))) (sv_name (i := 5))))) ss_nil))) (ss_one (ss_ret (se_move (i := 3))))))))))
theorem ok_alive (E : Txt K mg) : FnOk P w K mg base CX0 5 E.a_alive E.fd_alive ["machine"] (spD K mg 1 m_alive) :=
  have nd := sc_alive.nd
  ok_def (keep := [true]) (d := b_alive) E.F_alive sc_alive rfl rfl (by decide) fun cdv A outer s H E' hr => ((ss_one (ss_ret (se_call (ok_core E) (dFun_len rfl) hr (by rfl) E.g_core E.F_core.kp E.b_core .nil (sa_cons (se_share (i := 0)) (sa_cons (se_lrg (by rfl) (by rfl) E.n_list (by rfl) E.n_range (SE.r (SE.bw (se_meth0 E.m_Machine E.cl_Machine E.me_Machine_many (ok_Machine_many E) (dFun_len rfl) (hr.mono (by decide)) E.b_Machine_many .nil (se_move (i := 0)))))) sa_nil))))))
theorem ok_bottom_of (E : Txt K mg) : FnOk P w K mg base CX0 3 E.a_bottom_of E.fd_bottom_of ["machine", "within", "stand"] (spD K mg 3 m_bottom_of) :=
  have nd := sc_bottom_of.nd
  ok_def (keep := [true, true, true]) (d := b_bottom_of) E.F_bottom_of sc_bottom_of rfl rfl (by decide) fun cdv A outer s H E' hr => ((ss_cons (ss_set (i := 3) nd rfl (by first | exact Or.inl rfl | exact Or.inr rfl) (se_call (ok_reach E) (dFun_len rfl) hr (by rfl) E.g_reach E.F_reach.kp E.b_reach .nil (sa_cons (se_share (i := 0)) (sa_cons (se_share (i := 1)) (sa_cons (se_move (i := 2)) sa_nil))))) (ss_cons (ss_for PassesOwn.never rfl (si_list (se_share (i := 3))) (sg_name (i := 4) nd rfl (by first | exact Or.inl rfl | exact Or.inr rfl)) (ss_cons (ss_set (i := 5) nd rfl (by first | exact Or.inl rfl | exact Or.inr rfl) (se_call (ok_reach E) (dFun_len rfl) hr (by rfl) E.g_reach E.F_reach.kp E.b_reach .nil (sa_cons (se_share (i := 0)) (sa_cons (se_share (i := 1)) (sa_cons (se_move (i := 4)) sa_nil))))) (ss_one (ss_if (st_cmp op_lt v_lt (nomark _) (sv_b1 call_lenA v_len PySem.boot_len (by rfl) E.n_len (sv_name (i := 5))) (sv_b1 call_lenA v_len PySem.boot_len (by rfl) E.n_len (sv_name (i := 3)))) (ss_one (ss_set (i := 3) nd rfl (by first | exact Or.inl rfl | exact Or.inr rfl) (se_move (i := 5)))) ss_nil)))) (ss_one (ss_ret (se_move (i := 3)))))))
theorem ok_distances (E : Txt K mg) : FnOk P w K mg base CX0 4 E.a_distances E.fd_distances ["machine", "through", "goal"] (spD K mg 3 m_distances) :=
  have nd := sc_distances.nd
  ok_def (keep := [true, true, true]) (d := b_distances) E.F_distances sc_distances rfl rfl (by decide) fun cdv A outer s H E' hr => ((ss_cons (ss_setLc (i := 3) rfl nd rfl rfl (sw_true rfl rfl rfl (by decide +kernel)) (si_rng (by rfl) E.n_range (SE.r (SE.bw (se_meth0 E.m_Machine E.cl_Machine E.me_Machine_many (ok_Machine_many E) (dFun_len rfl) (hr.mono (by decide)) E.b_Machine_many .nil (se_share (i := 0)))))) (blkOk_by (N := ["machine", "through", "goal", "found", "place", "stands", "stand"]) (sc := defScope s_distances) (own := [("stand", 6)]) (by decide +kernel)) rfl (by decide) (by decide) (fun _ _ _ _ _ => (sg_name (i := 6) nd rfl (by first | exact Or.inl rfl | exact Or.inr rfl))) (fun _ _ _ _ _ => (SV.e sv_non))) (ss_cons (ss_for PassesOwn.never rfl (si_enum (by rfl) E.n_enumerate (se_call (ok_growing E) (dFun_len rfl) hr (by rfl) E.g_growing E.F_growing.kp E.b_growing .nil (sa_cons (se_move (i := 0)) (sa_cons (se_move (i := 1)) (sa_cons (se_move (i := 2)) sa_nil))))) (sg_two rfl (sg_name (i := 4) nd rfl (by first | exact Or.inl rfl | exact Or.inr rfl)) (sg_name (i := 5) nd rfl (by first | exact Or.inl rfl | exact Or.inr rfl))) (ss_one (ss_for PassesOwn.never rfl (si_list (se_move (i := 5))) (sg_name (i := 6) nd rfl (by first | exact Or.inl rfl | exact Or.inr rfl)) (ss_one (ss_if (st_cmp op_isN v_isN (nomark _) (sv_ix (hu_of hr) (sv_name (i := 3)) (sv_name (i := 6))) sv_non) (ss_one (ss_setL (i := 3) (se_share (i := 4)) (sv_name (i := 6)))) ss_nil))))) (ss_one (ss_ret (se_move (i := 3)))))))
theorem ok_short_walk (E : Txt K mg) : FnOk P w K mg base CX0 5 E.a_short_walk E.fd_short_walk ["machine", "through", "goal", "stand"] (spD K mg 4 m_short_walk) :=
  have nd := sc_short_walk.nd
  ok_def (keep := [true, true, true, false]) (d := b_short_walk) E.F_short_walk sc_short_walk rfl rfl (by decide) fun cdv A outer s H E' hr => ((ss_cons (ss_set (i := 4) nd rfl (by first | exact Or.inl rfl | exact Or.inr rfl) (se_call (ok_distances E) (dFun_len rfl) hr (by rfl) E.g_distances E.F_distances.kp E.b_distances .nil (sa_cons (se_share (i := 0)) (sa_cons (se_move (i := 1)) (sa_cons (se_move (i := 2)) sa_nil))))) (ss_cons (ss_if (st_cmp op_isN v_isN (nomark _) (sv_ix (hu_of hr) (sv_name (i := 4)) (sv_name (i := 3))) sv_non) (ss_one (ss_ret (SV.e sv_non))) ss_nil) (ss_cons (ss_set (i := 5) nd rfl (by first | exact Or.inl rfl | exact Or.inr rfl) (se_lst (sa_cons (se_share (i := 3)) sa_nil))) (ss_cons (ss_while 4000 PassesOwn.never (st_cmp op_gt v_gt (nomark _) (sv_ix (hu_of hr) (sv_name (i := 4)) (sv_name (i := 3))) sv_int) (ss_cons (ss_set (i := 6) nd rfl (by first | exact Or.inl rfl | exact Or.inr rfl) (SV.e (sv_bin op_sub v_sub (sv_ix (hu_of hr) (sv_name (i := 4)) (sv_name (i := 3))) sv_int))) (ss_cons (ss_set (i := 3) nd rfl (by first | exact Or.inl rfl | exact Or.inr rfl) (SR.e (sr_b1 (cr_min rfl) v_minL (by decide +kernel) (by rfl) E.n_min (SE.r (se_lcIf rfl nd (si_list (se_meth E.m_Machine E.cl_Machine E.me_Machine_next_of (ok_Machine_next_of E) (dFun_len rfl) (hr.mono (by decide)) E.b_Machine_next_of .nil (se_share (i := 0)) (sa_cons (se_move (i := 3)) sa_nil))) (blkOk_by (N := ["machine", "through", "goal", "stand", "far", "walk", "nearer", "other"]) (sc := defScope s_short_walk) (own := [("other", 7)]) (by decide +kernel)) rfl (by decide) (by decide) (fun _ _ _ _ _ => (sg_name (i := 7) nd rfl (by first | exact Or.inl rfl | exact Or.inr rfl))) (fun _ _ _ _ _ => (st_cmp (op_eqD hr.units) v_eq (nomark _) (sv_ix (hu_of hr) (sv_name (i := 4)) (sv_name (i := 7))) (sv_name (i := 6)))) (fun _ _ _ _ _ => (se_move (i := 7)))))))) (ss_one (ss_ex (se_mut (i := 5) PySem.F.plainAttrs_list PySem.F.slot_list_append PySem.F.type_list_append mt_append m_append (sa_cons (se_share (i := 3)) sa_nil))))))) (ss_one (ss_ret (se_move (i := 5)))))))))
theorem ok_loop_within (E : Txt K mg) : FnOk P w K mg base CX0 6 E.a_loop_within E.fd_loop_within ["machine", "kept", "stand"] (spD K mg 3 m_loop_within) :=
  have nd := sc_loop_within.nd
  ok_def (keep := [true, true, true]) (d := b_loop_within) E.F_loop_within sc_loop_within rfl rfl (by decide) fun cdv A outer s H E' hr => ((ss_cons (ss_if (st_cmp (op_notInA (hu_of hr)) v_notIn rfl (sv_name (i := 2)) (sv_name (i := 1))) (ss_one (ss_ret (SV.e sv_non))) ss_nil) (ss_cons (ss_set (i := 3) nd rfl (by first | exact Or.inl rfl | exact Or.inr rfl) (se_call (ok_bottom_of E) (dFun_len rfl) (hr.mono (by decide)) (by rfl) E.g_bottom_of E.F_bottom_of.kp E.b_bottom_of .nil (sa_cons (se_share (i := 0)) (sa_cons (se_share (i := 1)) (sa_cons (se_share (i := 2)) sa_nil))))) (ss_cons (ss_set (i := 4) nd rfl (by first | exact Or.inl rfl | exact Or.inr rfl) (SE.fz 3 (SV.e (sv_ix (hu_of hr) (sv_name (i := 3)) sv_int)))) (ss_cons (ss_set (i := 5) nd rfl (by first | exact Or.inl rfl | exact Or.inr rfl) (se_lst (sa_cons (se_share (i := 4)) sa_nil))) (ss_cons (ss_for PassesOwn.never rfl (si_rng (by rfl) E.n_range (SV.r (sv_b1 call_lenA v_len PySem.boot_len (by rfl) E.n_len (sv_fld E.m_Machine E.cl_Machine E.na_Machine_fair (sv_name (i := 0)))))) (sg_name (i := 6) nd rfl (by first | exact Or.inl rfl | exact Or.inr rfl)) (ss_cons (ss_set (i := 8) nd rfl (by first | exact Or.inl rfl | exact Or.inr rfl) (se_call (ok_keyed E) (dFun_len rfl) (hr.mono (by decide)) (by rfl) E.g_keyed E.F_keyed.kp E.b_keyed .nil (sa_cons (se_meth E.m_Machine E.cl_Machine E.me_Machine_fair_at (ok_Machine_fair_at E) (dFun_len rfl) (hr.mono (by decide)) E.b_Machine_fair_at .nil (se_share (i := 0)) (sa_cons (se_move (i := 6)) sa_nil)) sa_nil))) (ss_cons (ss_setLcIf (i := 9) rfl nd rfl rfl (sw_true rfl rfl rfl (by decide +kernel)) (si_list (se_share (i := 3))) (blkOk_by (N := ["machine", "kept", "stand", "inside", "base", "path", "number", "onward", "fair", "goal", "other"]) (sc := defScope s_loop_within) (own := [("other", 10)]) (by decide +kernel)) rfl (by decide) (by decide) (fun _ _ _ _ _ => (sg_name (i := 10) nd rfl (by first | exact Or.inl rfl | exact Or.inr rfl))) (fun _ _ _ _ _ => (st_cmp (op_inA (hu_of hr)) v_in rfl (sv_name (i := 10)) (sv_name (i := 8)))) (fun _ _ _ _ _ => (se_move (i := 10)))) (ss_one (ss_ex (se_mut (i := 5) PySem.F.plainAttrs_list PySem.F.slot_list_extend PySem.F.type_list_extend mt_extend m_extend (sa_cons (se_slL (SE.r (SE.bw (se_call (ok_short_walk E) (dFun_len rfl) hr (by rfl) E.g_short_walk E.F_short_walk.kp E.b_short_walk .nil (sa_cons (se_share (i := 0)) (sa_cons (se_share (i := 3)) (sa_cons (se_move (i := 9)) (sa_cons (SV.e (sv_ix (hu_of hr) (sv_name (i := 5)) (sv_neg sv_int))) sa_nil))))))) (SP2.so sv_int) SP2.no) sa_nil))))))) (ss_cons (ss_setLcIf (i := 7) rfl nd rfl rfl (sw_true rfl rfl rfl (by decide +kernel)) (si_list (SE.bw (se_meth E.m_Machine E.cl_Machine E.me_Machine_next_of (ok_Machine_next_of E) (dFun_len rfl) (hr.mono (by decide)) E.b_Machine_next_of .nil (se_share (i := 0)) (sa_cons (SV.e (sv_ix (hu_of hr) (sv_name (i := 5)) (sv_neg sv_int))) sa_nil)))) (blkOk_by (N := ["machine", "kept", "stand", "inside", "base", "path", "number", "onward", "fair", "goal", "other"]) (sc := defScope s_loop_within) (own := [("other", 10)]) (by decide +kernel)) rfl (by decide) (by decide) (fun _ _ _ _ _ => (sg_name (i := 10) nd rfl (by first | exact Or.inl rfl | exact Or.inr rfl))) (fun _ _ _ _ _ => (st_cmp (op_inA (hu_of hr)) v_in rfl (sv_name (i := 10)) (sv_name (i := 3)))) (fun _ _ _ _ _ => (se_move (i := 10)))) (ss_cons (ss_ex (se_mut (i := 5) PySem.F.plainAttrs_list PySem.F.slot_list_extend PySem.F.type_list_extend mt_extend m_extend (sa_cons (se_call (ok_short_walk E) (dFun_len rfl) hr (by rfl) E.g_short_walk E.F_short_walk.kp E.b_short_walk .nil (sa_cons (se_share (i := 0)) (sa_cons (se_move (i := 3)) (sa_cons (se_lst (sa_cons (se_share (i := 4)) sa_nil)) (sa_cons (SE.fz 7 (SV.e (sv_ix (hu_of hr) (sv_name (i := 7)) sv_int))) sa_nil))))) sa_nil))) (ss_one (ss_ret (se_tup (sa_cons (se_call (ok_short_walk E) (dFun_len rfl) hr (by rfl) E.g_short_walk E.F_short_walk.kp E.b_short_walk .nil (sa_cons (se_move (i := 0)) (sa_cons (se_move (i := 1)) (sa_cons (se_lst (sa_cons (se_move (i := 4)) sa_nil)) (sa_cons (se_move (i := 2)) sa_nil))))) (sa_cons (se_slL (SV.r (sv_name (i := 5))) SP2.no (SP2.so (sv_neg sv_int))) sa_nil)))))))))))))
theorem ok_lives (E : Txt K mg) : FnOk P w K mg base CX0 7 E.a_lives E.fd_lives ["machine"] (spD K mg 1 m_lives) :=
  have nd := sc_lives.nd
  ok_def (keep := [true]) (d := b_lives) E.F_lives sc_lives rfl rfl (by decide) fun cdv A outer s H E' hr => ((ss_cons (ss_set (i := 1) nd rfl (by first | exact Or.inl rfl | exact Or.inr rfl) (se_lrg (by rfl) (by rfl) E.n_list (by rfl) E.n_range (SE.r (SE.bw (se_meth0 E.m_Machine E.cl_Machine E.me_Machine_many (ok_Machine_many E) (dFun_len rfl) (hr.mono (by decide)) E.b_Machine_many .nil (se_share (i := 0))))))) (ss_cons (ss_set (i := 2) nd rfl (by first | exact Or.inl rfl | exact Or.inr rfl) (se_call (ok_ranks E) (dFun_len rfl) (hr.mono (by decide)) (by rfl) E.g_ranks E.F_ranks.kp E.b_ranks .nil (sa_cons (se_share (i := 0)) (sa_cons (se_share (i := 1)) sa_nil)))) (ss_cons (ss_set (i := 3) nd rfl (by first | exact Or.inl rfl | exact Or.inr rfl) (se_call (ok_alive E) (dFun_len rfl) (hr.mono (by decide)) (by rfl) E.g_alive E.F_alive.kp E.b_alive .nil (sa_cons (se_share (i := 0)) sa_nil))) (ss_cons (ss_set (i := 4) nd rfl (by first | exact Or.inl rfl | exact Or.inr rfl) (se_lst sa_nil)) (ss_cons (ss_for PassesOwn.never rfl (si_list (se_move (i := 1))) (sg_name (i := 5) nd rfl (by first | exact Or.inl rfl | exact Or.inr rfl)) (ss_one (ss_if (st_cmp op_isN v_isN (nomark _) (sv_ix (hu_of hr) (sv_name (i := 2)) (sv_name (i := 5))) sv_non) (ss_one (ss_ex (se_mut (i := 4) PySem.F.plainAttrs_list PySem.F.slot_list_append PySem.F.type_list_append mt_append m_append (sa_cons (se_binx op_catT e_catX (se_tup (sa_cons (SV.e sv_str) sa_nil)) (se_call (ok_loop_within E) (dFun_len rfl) hr (by rfl) E.g_loop_within E.F_loop_within.kp E.b_loop_within .nil (sa_cons (se_share (i := 0)) (sa_cons (se_share (i := 3)) (sa_cons (se_move (i := 5)) sa_nil))))) sa_nil)))) (ss_one (ss_ex (se_mut (i := 4) PySem.F.plainAttrs_list PySem.F.slot_list_append PySem.F.type_list_append mt_append m_append (sa_cons (se_binv op_catT e_catT (SE.r (se_tup (sa_cons (SV.e sv_str) sa_nil))) (sv_ix (hu_of hr) (sv_name (i := 2)) (sv_name (i := 5)))) sa_nil))))))) (ss_one (ss_ret (se_move (i := 4))))))))))
theorem ok_law_whole (E : Txt K mg) : FnOk P w K mg base CX0 1 E.a_law_whole E.fd_law_whole ["_law_found"] (spD K mg 1 m_law_whole) :=
  have nd := sc_law_whole.nd
  ok_def (keep := [true]) (d := b_law_whole) E.F_law_whole sc_law_whole rfl rfl (by decide) fun cdv A outer s H E' hr => ((ss_one (ss_ret (SR.e (sr_and (SV.r (sv_isi (b := "int") (by decide) (by decide +kernel) (by rfl) E.n_isinstance (by rfl) E.n_int (sv_name (i := 0)))) (sr_and1 (sr_not (SV.r (sv_isi (b := "bool") (by decide) (by decide +kernel) (by rfl) E.n_isinstance (by rfl) E.n_bool (sv_name (i := 0)))))))))))
theorem ok_law_walk (E : Txt K mg) : FnOk P w K mg base CX0 2 E.a_law_walk E.fd_law_walk ["_law_row", "_law_steps", "_law_start"] (spD K mg 3 m_law_walk) :=
  have nd := sc_law_walk.nd
  ok_def (keep := [true, true, true]) (d := b_law_walk) E.F_law_walk sc_law_walk rfl rfl (by decide) fun cdv A outer s H E' hr => ((ss_cons (ss_if (SW.t (sw_or (st_not (ST.val (SV.r (sv_isi (b := "list") (by decide) (by decide +kernel) (by rfl) E.n_isinstance (by rfl) E.n_list (sv_name (i := 0)))))) (sw_or (st_cmpn (i := 0) (op_eqD hr.units) v_eq (nomark _) (SE.r (se_lst sa_nil))) (sw_or1 (st_cmp op_gt v_gt (nomark _) (sv_b1 call_lenA v_len PySem.boot_len (by rfl) E.n_len (sv_name (i := 0))) sv_int))))) (ss_one (ss_ret (SV.e sv_bl))) ss_nil) (ss_cons (ss_for PassesOwn.never rfl (si_rng (by rfl) E.n_range (SV.r (sv_b1 call_lenA v_len PySem.boot_len (by rfl) E.n_len (sv_name (i := 0))))) (sg_name (i := 3) nd rfl (by first | exact Or.inl rfl | exact Or.inr rfl)) (ss_cons (ss_if (SW.t (sw_or (st_not (ST.val (SE.r (SE.bw (se_call (ok_law_whole E) (dFun_len rfl) hr (by rfl) E.g_law_whole E.F_law_whole.kp E.b_law_whole .nil (sa_cons (SE.fz 0 (SV.e (sv_ix (hu_of hr) (sv_name (i := 0)) (sv_name (i := 3))))) sa_nil)))))) (sw_or1 (st_not (st_ch op_le v_le op_lt v_lt sv_int (sv_ix (hu_of hr) (sv_name (i := 0)) (sv_name (i := 3))) (sv_b1 call_lenA v_len PySem.boot_len (by rfl) E.n_len (sv_name (i := 1)))))))) (ss_one (ss_ret (SV.e sv_bl))) ss_nil) (ss_one (ss_if (SW.t (sw_and (st_cmp op_gt v_gt (nomark _) (sv_name (i := 3)) sv_int) (sw_and1 (st_cmp (op_notInA (hu_of hr)) v_notIn rfl (sv_ix (hu_of hr) (sv_name (i := 0)) (sv_name (i := 3))) (sv_ix (hu_of hr) (sv_name (i := 1)) (sv_ix (hu_of hr) (sv_name (i := 0)) (sv_bin op_sub v_sub (sv_name (i := 3)) sv_int))))))) (ss_one (ss_ret (SV.e sv_bl))) ss_nil)))) (ss_one (ss_ret (SV.e (sv_cmp (op_eqD hr.units) v_eq (nomark _) (sv_ix (hu_of hr) (sv_name (i := 0)) sv_int) (sv_name (i := 2)))))))))
theorem ok_law_loop (E : Txt K mg) : FnOk P w K mg base CX0 3 E.a_law_loop E.fd_law_loop ["_law_reason", "_law_steps", "_law_fair", "_law_within", "_law_start"] (spD K mg 5 m_law_loop) :=
  have nd := sc_law_loop.nd
  ok_def (keep := [true, true, true, true, true]) (d := b_law_loop) E.F_law_loop sc_law_loop rfl rfl (by decide) fun cdv A outer s H E' hr => ((ss_cons (ss_if (SW.t (sw_or (st_cmp (op_neD hr.units) v_ne (nomark _) (sv_ix (hu_of hr) (sv_name (i := 0)) sv_int) sv_str) (sw_or (st_cmp (op_neD hr.units) v_ne (nomark _) (sv_b1 call_lenA v_len PySem.boot_len (by rfl) E.n_len (sv_name (i := 0))) sv_int) (sw_or1 (st_not (ST.val (SE.r (SE.bw (se_call (ok_law_walk E) (dFun_len rfl) hr (by rfl) E.g_law_walk E.F_law_walk.kp E.b_law_walk .nil (sa_cons (SE.fz 0 (SV.e (sv_ix (hu_of hr) (sv_name (i := 0)) sv_int))) (sa_cons (se_share (i := 1)) (sa_cons (se_move (i := 4)) sa_nil)))))))))))) (ss_one (ss_ret (SV.e sv_bl))) ss_nil) (ss_cons (ss_if (SW.t (sw_or (st_not (ST.val (SE.r (SE.bw (se_call (ok_law_walk E) (dFun_len rfl) hr (by rfl) E.g_law_walk E.F_law_walk.kp E.b_law_walk .nil (sa_cons (SE.fz 0 (SV.e (sv_ix (hu_of hr) (sv_name (i := 0)) sv_int))) (sa_cons (se_share (i := 1)) (sa_cons (SE.fz 0 (SV.e (sv_ix (hu_of hr) (sv_ix (hu_of hr) (sv_name (i := 0)) sv_int) (sv_neg sv_int)))) sa_nil)))))))) (sw_or1 (st_cmp (op_notInA (hu_of hr)) v_notIn rfl (sv_ix (hu_of hr) (sv_ix (hu_of hr) (sv_name (i := 0)) sv_int) sv_int) (sv_ix (hu_of hr) (sv_name (i := 1)) (sv_ix (hu_of hr) (sv_ix (hu_of hr) (sv_name (i := 0)) sv_int) (sv_neg sv_int))))))) (ss_one (ss_ret (SV.e sv_bl))) ss_nil) (ss_cons (ss_for PassesOwn.never rfl (si_list (se_binv op_cat e_cat (SV.r (sv_ix (hu_of hr) (sv_name (i := 0)) sv_int)) (sv_ix (hu_of hr) (sv_name (i := 0)) sv_int))) (sg_name (i := 5) nd rfl (by first | exact Or.inl rfl | exact Or.inr rfl)) (ss_one (ss_if (st_cmp (op_notInA (hu_of hr)) v_notIn rfl (sv_name (i := 5)) (sv_name (i := 3))) (ss_one (ss_ret (SV.e sv_bl))) ss_nil))) (ss_cons (ss_for PassesOwn.never rfl (si_list (se_move (i := 2))) (sg_name (i := 6) nd rfl (by first | exact Or.inl rfl | exact Or.inr rfl)) (ss_one (ss_if (st_cmpv (op_eqD hr.units) v_eq (nomark _) (sr_b1 call_lenA v_len PySem.boot_len (by rfl) E.n_len (SE.r (se_lcIf rfl nd (si_list (SE.fz 0 (SV.e (sv_ix (hu_of hr) (sv_name (i := 0)) sv_int)))) (blkOk_by (N := ["_law_reason", "_law_steps", "_law_fair", "_law_within", "_law_start", "_law_stand", "_law_some"]) (sc := defScope s_law_loop) (own := [("_law_stand", 5)]) (by decide +kernel)) rfl (by decide) (by decide) (fun _ _ _ _ _ => (sg_name (i := 5) nd rfl (by first | exact Or.inl rfl | exact Or.inr rfl))) (fun _ _ _ _ _ => (st_cmp (op_inA (hu_of hr)) v_in rfl (sv_name (i := 5)) (sv_name (i := 6)))) (fun _ _ _ _ _ => (se_move (i := 5)))))) sv_int) (ss_one (ss_ret (SV.e sv_bl))) ss_nil))) (ss_one (ss_ret (SV.e sv_bl))))))))
theorem ok_law_is_rank (E : Txt K mg) : FnOk P w K mg base CX0 2 E.a_law_is_rank E.fd_law_is_rank ["_law_reason", "_law_fair"] (spD K mg 2 m_law_is_rank) :=
  have nd := sc_law_is_rank.nd
  ok_def (keep := [true, true]) (d := b_law_is_rank) E.F_law_is_rank sc_law_is_rank rfl rfl (by decide) fun cdv A outer s H E' hr => ((ss_cons (ss_if (SW.t (sw_or (st_cmp (op_neD hr.units) v_ne (nomark _) (sv_ix (hu_of hr) (sv_name (i := 0)) sv_int) sv_str) (sw_or (st_cmp (op_neD hr.units) v_ne (nomark _) (sv_b1 call_lenA v_len PySem.boot_len (by rfl) E.n_len (sv_name (i := 0))) sv_int) (sw_or (st_not (ST.val (SE.r (SE.bw (se_call (ok_law_whole E) (dFun_len rfl) hr (by rfl) E.g_law_whole E.F_law_whole.kp E.b_law_whole .nil (sa_cons (SE.fz 0 (SV.e (sv_ix (hu_of hr) (sv_name (i := 0)) sv_int))) sa_nil)))))) (sw_or1 (st_cmp op_lt v_lt (nomark _) (sv_ix (hu_of hr) (sv_name (i := 0)) sv_int) sv_int)))))) (ss_one (ss_ret (SV.e sv_bl))) ss_nil) (ss_one (ss_ret (SR.e (sr_or (SV.r (sv_cmp op_isN v_isN (nomark _) (sv_ix (hu_of hr) (sv_name (i := 0)) sv_int) sv_non)) (sr_and1 (sr_and (SE.r (SE.bw (se_call (ok_law_whole E) (dFun_len rfl) hr (by rfl) E.g_law_whole E.F_law_whole.kp E.b_law_whole .nil (sa_cons (SE.fz 0 (SV.e (sv_ix (hu_of hr) (sv_name (i := 0)) sv_int))) sa_nil)))) (sr_and1 (SV.r (sv_ch op_le v_le op_lt v_lt sv_int (sv_ix (hu_of hr) (sv_name (i := 0)) sv_int) (sv_b1 call_lenA v_len PySem.boot_len (by rfl) E.n_len (sv_name (i := 1))))))))))))))
theorem ok_law_falls (E : Txt K mg) : FnOk P w K mg base CX0 3 E.a_law_falls E.fd_law_falls ["_law_one", "_law_other", "_law_fair", "_law_stand", "_law_further"] (spD K mg 5 m_law_falls) :=
  have nd := sc_law_falls.nd
  ok_def (keep := [true, true, true, true, true]) (d := b_law_falls) E.F_law_falls sc_law_falls rfl rfl (by decide) fun cdv A outer s H E' hr => ((ss_cons (ss_if (SW.t (sw_or (st_not (ST.val (SE.r (SE.bw (se_call (ok_law_is_rank E) (dFun_len rfl) hr (by rfl) E.g_law_is_rank E.F_law_is_rank.kp E.b_law_is_rank .nil (sa_cons (se_share (i := 0)) (sa_cons (se_share (i := 2)) sa_nil))))))) (sw_or1 (st_not (ST.val (SE.r (SE.bw (se_call (ok_law_is_rank E) (dFun_len rfl) hr (by rfl) E.g_law_is_rank E.F_law_is_rank.kp E.b_law_is_rank .nil (sa_cons (se_share (i := 1)) (sa_cons (se_share (i := 2)) sa_nil)))))))))) (ss_one (ss_ret (SV.e sv_bl))) ss_nil) (ss_cons (ss_if (st_cmp op_lt v_lt (nomark _) (sv_ix (hu_of hr) (sv_name (i := 1)) sv_int) (sv_ix (hu_of hr) (sv_name (i := 0)) sv_int)) (ss_one (ss_ret (SV.e sv_bl))) ss_nil) (ss_cons (ss_if (SW.t (sw_or (st_cmp (op_neD hr.units) v_ne (nomark _) (sv_ix (hu_of hr) (sv_name (i := 1)) sv_int) (sv_ix (hu_of hr) (sv_name (i := 0)) sv_int)) (sw_or (st_cmp op_isN v_isN (nomark _) (sv_ix (hu_of hr) (sv_name (i := 0)) sv_int) sv_non) (sw_or1 (st_cmp (op_neD hr.units) v_ne (nomark _) (sv_ix (hu_of hr) (sv_name (i := 1)) sv_int) (sv_ix (hu_of hr) (sv_name (i := 0)) sv_int)))))) (ss_one (ss_ret (SV.e sv_bl))) ss_nil) (ss_one (ss_ret (SR.e (sr_and (SV.r (sv_cmp (op_notInA (hu_of hr)) v_notIn rfl (sv_name (i := 3)) (sv_ix (hu_of hr) (sv_name (i := 2)) (sv_ix (hu_of hr) (sv_name (i := 0)) sv_int)))) (sr_and1 (SV.r (sv_cmp (op_notInA (hu_of hr)) v_notIn rfl (sv_name (i := 4)) (sv_ix (hu_of hr) (sv_name (i := 2)) (sv_ix (hu_of hr) (sv_name (i := 0)) sv_int)))))))))))))
theorem ok_law_ranked (E : Txt K mg) : FnOk P w K mg base CX0 4 E.a_law_ranked E.fd_law_ranked ["_law_found", "_law_steps", "_law_fair", "_law_stand"] (spD K mg 4 m_law_ranked) :=
  have nd := sc_law_ranked.nd
  ok_def (keep := [true, true, true, true]) (d := b_law_ranked) E.F_law_ranked sc_law_ranked rfl rfl (by decide) fun cdv A outer s H E' hr => ((ss_cons (ss_if (st_not (ST.val (SE.r (SE.bw (se_call (ok_law_is_rank E) (dFun_len rfl) (hr.mono (by decide)) (by rfl) E.g_law_is_rank E.F_law_is_rank.kp E.b_law_is_rank .nil (sa_cons (SE.fz 0 (SV.e (sv_ix (hu_of hr) (sv_name (i := 0)) (sv_name (i := 3))))) (sa_cons (se_share (i := 2)) sa_nil))))))) (ss_one (ss_ret (SV.e sv_bl))) ss_nil) (ss_cons (ss_for PassesOwn.never rfl (si_list (SE.fz 1 (SV.e (sv_ix (hu_of hr) (sv_name (i := 1)) (sv_name (i := 3)))))) (sg_name (i := 4) nd rfl (by first | exact Or.inl rfl | exact Or.inr rfl)) (ss_one (ss_if (st_not (ST.val (SE.r (SE.bw (se_call (ok_law_falls E) (dFun_len rfl) hr (by rfl) E.g_law_falls E.F_law_falls.kp E.b_law_falls .nil (sa_cons (SE.fz 0 (SV.e (sv_ix (hu_of hr) (sv_name (i := 0)) (sv_name (i := 3))))) (sa_cons (SE.fz 0 (SV.e (sv_ix (hu_of hr) (sv_name (i := 0)) (sv_name (i := 4))))) (sa_cons (se_share (i := 2)) (sa_cons (se_share (i := 3)) (sa_cons (se_move (i := 4)) sa_nil)))))))))) (ss_one (ss_ret (SV.e sv_bl))) ss_nil))) (ss_one (ss_ret (SV.e sv_bl))))))
theorem ok_law_told (E : Txt K mg) : FnOk P w K mg base CX0 5 E.a_law_told E.fd_law_told ["_law_found", "_law_steps", "_law_fair"] (spD K mg 3 m_law_told) :=
  have nd := sc_law_told.nd
  ok_def (keep := [true, true, true]) (d := b_law_told) E.F_law_told sc_law_told rfl rfl (by decide) fun cdv A outer s H E' hr => ((ss_cons (ss_if (SW.t (sw_or (st_not (ST.val (SV.r (sv_isi (b := "list") (by decide) (by decide +kernel) (by rfl) E.n_isinstance (by rfl) E.n_list (sv_name (i := 0)))))) (sw_or1 (st_cmp (op_neD hr.units) v_ne (nomark _) (sv_b1 call_lenA v_len PySem.boot_len (by rfl) E.n_len (sv_name (i := 0))) (sv_b1 call_lenA v_len PySem.boot_len (by rfl) E.n_len (sv_name (i := 1))))))) (ss_one (ss_ret (SV.e sv_bl))) ss_nil) (ss_cons (ss_for PassesOwn.never rfl (si_list (se_share (i := 0))) (sg_name (i := 3) nd rfl (by first | exact Or.inl rfl | exact Or.inr rfl)) (ss_one (ss_if (SW.t (sw_or (st_not (ST.val (SV.r (sv_isi (b := "tuple") (by decide) (by decide +kernel) (by rfl) E.n_isinstance (by rfl) E.n_tuple (sv_name (i := 3)))))) (sw_or (st_cmp (op_neD hr.units) v_ne (nomark _) (sv_b1 call_lenA v_len PySem.boot_len (by rfl) E.n_len (sv_name (i := 3))) sv_int) (sw_or1 (st_not (ST.val (SV.r (sv_isi (b := "str") (by decide) (by decide +kernel) (by rfl) E.n_isinstance (by rfl) E.n_str (sv_ix (hu_of hr) (sv_name (i := 3)) sv_int))))))))) (ss_one (ss_ret (SV.e sv_bl))) ss_nil))) (ss_cons (ss_set (i := 4) nd rfl (by first | exact Or.inl rfl | exact Or.inr rfl) (se_lrg (by rfl) (by rfl) E.n_list (by rfl) E.n_range (SV.r (sv_b1 call_lenA v_len PySem.boot_len (by rfl) E.n_len (sv_name (i := 1)))))) (ss_cons (ss_for PassesOwn.never rfl (si_list (se_share (i := 4))) (sg_name (i := 5) nd rfl (by first | exact Or.inl rfl | exact Or.inr rfl)) (ss_one (ss_if (st_cmp (op_eqD hr.units) v_eq (nomark _) (sv_ix (hu_of hr) (sv_ix (hu_of hr) (sv_name (i := 0)) (sv_name (i := 5))) sv_int) sv_str) (ss_one (ss_if (st_not (ST.val (SE.r (SE.bw (se_call (ok_law_loop E) (dFun_len rfl) (hr.mono (by decide)) (by rfl) E.g_law_loop E.F_law_loop.kp E.b_law_loop .nil (sa_cons (SE.fz 0 (SV.e (sv_ix (hu_of hr) (sv_name (i := 0)) (sv_name (i := 5))))) (sa_cons (se_share (i := 1)) (sa_cons (se_share (i := 2)) (sa_cons (se_share (i := 4)) (sa_cons (se_move (i := 5)) sa_nil)))))))))) (ss_one (ss_ret (SV.e sv_bl))) ss_nil)) (ss_one (ss_if (st_not (ST.val (SE.r (SE.bw (se_call (ok_law_ranked E) (dFun_len rfl) hr (by rfl) E.g_law_ranked E.F_law_ranked.kp E.b_law_ranked .nil (sa_cons (se_share (i := 0)) (sa_cons (se_share (i := 1)) (sa_cons (se_share (i := 2)) (sa_cons (se_move (i := 5)) sa_nil))))))))) (ss_one (ss_ret (SV.e sv_bl))) ss_nil))))) (ss_one (ss_ret (SV.e sv_bl))))))))
theorem ok_law (E : Txt K mg) : FnOk P w K mg base CX0 8 E.a_law E.fd_law ["_law_script"] (spD K mg 1 m_law) :=
  have nd := sc_law.nd
  ok_def (keep := [true]) (d := b_law) E.F_law sc_law rfl rfl (by decide) fun cdv A outer s H E' hr => ((ss_cons (ss_set (i := 1) nd rfl (by first | exact Or.inl rfl | exact Or.inr rfl) (se_call (ok_law_small_by E) (dFun_len rfl) (hr.mono (by decide)) (by rfl) E.g_law_small_by E.F_law_small_by.kp E.b_law_small_by .nil (sa_cons (se_call (ok_law_cell_at E) (dFun_len rfl) (hr.mono (by decide)) (by rfl) E.g_law_cell_at E.F_law_cell_at.kp E.b_law_cell_at .nil (sa_cons (se_share (i := 0)) (sa_cons (SV.e sv_int) sa_nil))) sa_nil))) (ss_cons (ss_set (i := 2) nd rfl (by first | exact Or.inl rfl | exact Or.inr rfl) (se_call (ok_law_steps_by E) (dFun_len rfl) (hr.mono (by decide)) (by rfl) E.g_law_steps_by E.F_law_steps_by.kp E.b_law_steps_by .nil (sa_cons (se_share (i := 0)) (sa_cons (se_share (i := 1)) sa_nil)))) (ss_cons (ss_set (i := 3) nd rfl (by first | exact Or.inl rfl | exact Or.inr rfl) (se_call (ok_law_fair_by E) (dFun_len rfl) (hr.mono (by decide)) (by rfl) E.g_law_fair_by E.F_law_fair_by.kp E.b_law_fair_by .nil (sa_cons (se_call (ok_law_cell_at E) (dFun_len rfl) (hr.mono (by decide)) (by rfl) E.g_law_cell_at E.F_law_cell_at.kp E.b_law_cell_at .nil (sa_cons (se_share (i := 0)) (sa_cons (SV.e sv_int) sa_nil))) (sa_cons (se_share (i := 1)) sa_nil)))) (ss_cons (ss_set (i := 4) nd rfl (by first | exact Or.inl rfl | exact Or.inr rfl) (se_call (ok_law_cell_at E) (dFun_len rfl) (hr.mono (by decide)) (by rfl) E.g_law_cell_at E.F_law_cell_at.kp E.b_law_cell_at .nil (sa_cons (se_move (i := 0)) (sa_cons (SV.e sv_int) sa_nil)))) (ss_cons (ss_set (i := 5) nd rfl (by first | exact Or.inl rfl | exact Or.inr rfl) (se_lc rfl nd (si_rng (by rfl) E.n_range (SV.r sv_int)) (blkOk_by (N := ["_law_script", "_law_many", "_law_steps", "_law_fair", "_law_cell", "_law_names", "_law_sets", "_law_marks", "_law_machine", "_law_turn", "_law_found", "_law_loops", "_law_k", "_law_at", "_law_kept", "_law_row", "_law_some"]) (sc := defScope s_law) (own := [("_law_k", 12)]) (by decide +kernel)) rfl (by decide) (by decide) (fun _ _ _ _ _ => (sg_name (i := 12) nd rfl (by first | exact Or.inl rfl | exact Or.inr rfl))) (fun _ _ _ _ _ => (se_call (ok_law_word_by E) (dFun_len rfl) (hr.mono (by decide)) (by rfl) E.g_law_word_by E.F_law_word_by.kp E.b_law_word_by .nil (sa_cons (SV.e (sv_bin op_fdiv v_div (sv_name (i := 4)) sv_int)) (sa_cons (se_move (i := 12)) sa_nil)))))) (ss_cons (ss_set (i := 6) nd rfl (by first | exact Or.inl rfl | exact Or.inr rfl) (se_lc rfl nd (si_rng (by rfl) E.n_range (SV.r sv_int)) (blkOk_by (N := ["_law_script", "_law_many", "_law_steps", "_law_fair", "_law_cell", "_law_names", "_law_sets", "_law_marks", "_law_machine", "_law_turn", "_law_found", "_law_loops", "_law_k", "_law_at", "_law_kept", "_law_row", "_law_some"]) (sc := defScope s_law) (own := [("_law_k", 12)]) (by decide +kernel)) rfl (by decide) (by decide) (fun _ _ _ _ _ => (sg_name (i := 12) nd rfl (by first | exact Or.inl rfl | exact Or.inr rfl))) (fun _ _ _ _ _ => (se_call (ok_law_set_by E) (dFun_len rfl) (hr.mono (by decide)) (by rfl) E.g_law_set_by E.F_law_set_by.kp E.b_law_set_by .nil (sa_cons (SV.e (sv_bin op_addS v_add (sv_name (i := 4)) (sv_name (i := 12)))) (sa_cons (se_share (i := 1)) (sa_cons (se_ix (hu_of hr) (se_lst (sa_cons (SV.e sv_int) (sa_cons (SV.e sv_int) (sa_cons (SV.e sv_int) (sa_cons (SV.e sv_int) (sa_cons (SV.e sv_int) (sa_cons (SV.e sv_int) sa_nil))))))) (sv_bin op_mod v_mod (sv_bin op_addS v_add (sv_bin op_fdiv v_div (sv_name (i := 4)) sv_int) (sv_name (i := 12))) sv_int)) sa_nil))))))) (ss_cons (ss_setLc (i := 7) rfl nd rfl rfl (sw_true rfl rfl rfl (by decide +kernel)) (si_rng (by rfl) E.n_range (SV.r sv_int)) (blkOk_by (N := ["_law_script", "_law_many", "_law_steps", "_law_fair", "_law_cell", "_law_names", "_law_sets", "_law_marks", "_law_machine", "_law_turn", "_law_found", "_law_loops", "_law_k", "_law_at", "_law_kept", "_law_row", "_law_some"]) (sc := defScope s_law) (own := [("_law_k", 12)]) (by decide +kernel)) rfl (by decide) (by decide) (fun _ _ _ _ _ => (sg_name (i := 12) nd rfl (by first | exact Or.inl rfl | exact Or.inr rfl))) (fun _ _ _ _ _ => (se_tup (sa_cons (SE.fz 5 (SV.e (sv_ix (hu_of hr) (sv_name (i := 5)) (sv_name (i := 12))))) (sa_cons (se_t1 call_list_of e_list (by decide +kernel) (by rfl) E.n_list (SV.r (sv_ix (hu_of hr) (sv_name (i := 6)) (sv_name (i := 12))))) sa_nil))))) (ss_cons (ss_set (i := 8) nd rfl (by first | exact Or.inl rfl | exact Or.inr rfl) (se_make E.mk_Machine (ok_Machine_init E) (dFun_len rfl) (hr.mono (by decide)) (by rfl) E.m_Machine E.b_Machine_init_3.2 E.b_Machine_init_3.1 (sa_cons (se_lc rfl nd (si_list (se_share (i := 2))) (blkOk_by (N := ["_law_script", "_law_many", "_law_steps", "_law_fair", "_law_cell", "_law_names", "_law_sets", "_law_marks", "_law_machine", "_law_turn", "_law_found", "_law_loops", "_law_k", "_law_at", "_law_kept", "_law_row", "_law_some"]) (sc := defScope s_law) (own := [("_law_row", 15)]) (by decide +kernel)) rfl (by decide) (by decide) (fun _ _ _ _ _ => (sg_name (i := 15) nd rfl (by first | exact Or.inl rfl | exact Or.inr rfl))) (fun _ _ _ _ _ => (se_t1 call_list_of e_list (by decide +kernel) (by rfl) E.n_list (SV.r (sv_name (i := 15)))))) (sa_cons (se_move (i := 7)) (sa_cons (se_lc rfl nd (si_list (se_share (i := 3))) (blkOk_by (N := ["_law_script", "_law_many", "_law_steps", "_law_fair", "_law_cell", "_law_names", "_law_sets", "_law_marks", "_law_machine", "_law_turn", "_law_found", "_law_loops", "_law_k", "_law_at", "_law_kept", "_law_row", "_law_some"]) (sc := defScope s_law) (own := [("_law_some", 16)]) (by decide +kernel)) rfl (by decide) (by decide) (fun _ _ _ _ _ => (sg_name (i := 16) nd rfl (by first | exact Or.inl rfl | exact Or.inr rfl))) (fun _ _ _ _ _ => (se_t1 call_list_of e_list (by decide +kernel) (by rfl) E.n_list (SV.r (sv_name (i := 16)))))) sa_nil))))) (ss_cons (ss_for PassesOwn.never rfl (si_rng (by rfl) E.n_range (SV.r sv_int)) (sg_name (i := 9) nd rfl (by first | exact Or.inl rfl | exact Or.inr rfl)) (ss_cons (ss_set (i := 10) nd rfl (by first | exact Or.inl rfl | exact Or.inr rfl) (se_call (ok_lives E) (dFun_len rfl) hr (by rfl) E.g_lives E.F_lives.kp E.b_lives .nil (sa_cons (se_share (i := 8)) sa_nil))) (ss_cons (ss_if (st_not (ST.val (SE.r (SE.bw (se_call (ok_law_told E) (dFun_len rfl) (hr.mono (by decide)) (by rfl) E.g_law_told E.F_law_told.kp E.b_law_told .nil (sa_cons (se_share (i := 10)) (sa_cons (se_share (i := 2)) (sa_cons (se_share (i := 3)) sa_nil)))))))) (ss_one (ss_ret (SV.e sv_bl))) ss_nil) (ss_cons (ss_setLcIf (i := 11) rfl nd rfl rfl (sw_true rfl rfl rfl (by decide +kernel)) (si_rng (by rfl) E.n_range (SV.r (sv_name (i := 1)))) (blkOk_by (N := ["_law_script", "_law_many", "_law_steps", "_law_fair", "_law_cell", "_law_names", "_law_sets", "_law_marks", "_law_machine", "_law_turn", "_law_found", "_law_loops", "_law_k", "_law_at", "_law_kept", "_law_row", "_law_some"]) (sc := defScope s_law) (own := [("_law_k", 12)]) (by decide +kernel)) rfl (by decide) (by decide) (fun _ _ _ _ _ => (sg_name (i := 12) nd rfl (by first | exact Or.inl rfl | exact Or.inr rfl))) (fun _ _ _ _ _ => (st_cmp (op_eqD hr.units) v_eq (nomark _) (sv_ix (hu_of hr) (sv_ix (hu_of hr) (sv_name (i := 10)) (sv_name (i := 12))) sv_int) sv_str)) (fun _ _ _ _ _ => (se_move (i := 12)))) (ss_cons (ss_if (st_cmpn (i := 11) (op_neD hr.units) v_ne (nomark _) (SE.r (se_lst sa_nil))) (ss_cons (ss_set (i := 13) nd rfl (by first | exact Or.inl rfl | exact Or.inr rfl) (SE.fz 11 (SV.e (sv_ix (hu_of hr) (sv_name (i := 11)) (sv_bin op_mod v_mod (sv_name (i := 4)) (sv_b1 call_lenA v_len PySem.boot_len (by rfl) E.n_len (sv_name (i := 11)))))))) (ss_cons (ss_setLcIf (i := 14) rfl nd rfl rfl (sw_true rfl rfl rfl (by decide +kernel)) (si_list (se_share (i := 11))) (blkOk_by (N := ["_law_script", "_law_many", "_law_steps", "_law_fair", "_law_cell", "_law_names", "_law_sets", "_law_marks", "_law_machine", "_law_turn", "_law_found", "_law_loops", "_law_k", "_law_at", "_law_kept", "_law_row", "_law_some"]) (sc := defScope s_law) (own := [("_law_k", 12)]) (by decide +kernel)) rfl (by decide) (by decide) (fun _ _ _ _ _ => (sg_name (i := 12) nd rfl (by first | exact Or.inl rfl | exact Or.inr rfl))) (fun _ _ _ _ _ => (st_cmp (op_neD hr.units) v_ne (nomark _) (sv_name (i := 12)) (sv_name (i := 13)))) (fun _ _ _ _ _ => (se_tup (sa_cons (se_t1 call_list_of e_list (by decide +kernel) (by rfl) E.n_list (SV.r (sv_ix (hu_of hr) (sv_ix (hu_of hr) (sv_name (i := 10)) (sv_name (i := 12))) sv_int))) (sa_cons (se_t1 call_list_of e_list (by decide +kernel) (by rfl) E.n_list (SV.r (sv_ix (hu_of hr) (sv_ix (hu_of hr) (sv_name (i := 10)) (sv_name (i := 12))) sv_int))) sa_nil))))) (ss_cons (ss_ex (se_mutP0 PySem.F.plainAttrs_list PySem.F.slot_list_clear PySem.F.type_list_clear mt_clear m_clear (sp_ix (hu_of hr) (sp_ix (hu_of hr) (sp_name (i := 10)) (sv_name (i := 13))) sv_int))) (ss_cons (ss_ex (se_mutP PySem.F.plainAttrs_list PySem.F.slot_list_append PySem.F.type_list_append mt_append m_append (sp_ix (hu_of hr) (sp_ix (hu_of hr) (sp_name (i := 10)) (sv_name (i := 13))) sv_int) (sv_name (i := 1)))) (ss_one (ss_if (ST.bwS (st_cmpn (i := 14) (op_neD hr.units) v_ne (nomark _) (SE.r (se_lcIf rfl nd (si_list (se_move (i := 11))) (blkOk_by (N := ["_law_script", "_law_many", "_law_steps", "_law_fair", "_law_cell", "_law_names", "_law_sets", "_law_marks", "_law_machine", "_law_turn", "_law_found", "_law_loops", "_law_k", "_law_at", "_law_kept", "_law_row", "_law_some"]) (sc := defScope s_law) (own := [("_law_k", 12)]) (by decide +kernel)) rfl (by decide) (by decide) (fun _ _ _ _ _ => (sg_name (i := 12) nd rfl (by first | exact Or.inl rfl | exact Or.inr rfl))) (fun _ _ _ _ _ => (st_cmp (op_neD hr.units) v_ne (nomark _) (sv_name (i := 12)) (sv_name (i := 13)))) (fun _ _ _ _ _ => (se_tup (sa_cons (SV.e (sv_ix (hu_of hr) (sv_ix (hu_of hr) (sv_name (i := 10)) (sv_name (i := 12))) sv_int)) (sa_cons (SV.e (sv_ix (hu_of hr) (sv_ix (hu_of hr) (sv_name (i := 10)) (sv_name (i := 12))) sv_int)) sa_nil)))))))) (ss_one (ss_ret (SV.e sv_bl))) ss_nil)))))) ss_nil) (ss_one (ss_ex (se_mut0 (i := 10) PySem.F.plainAttrs_list PySem.F.slot_list_clear PySem.F.type_list_clear mt_clear m_clear)))))))) (ss_one (ss_ret (SV.e sv_bl)))))))))))))
end
/-! ### each fact as k_is finds it -/
theorem all_mk {l : PySem.W.OpenLaw} {w : World} {K : PySem.W.Frag} {h : Heap} {mg : Str → Option Value} {fa : Addr} {a_law_small_by a_law_cell_at a_law_mix a_law_steps_by a_law_fair_by a_look_stands a_is_mark a_look_machine a_Machine_init a_law_word_by a_law_set_by a_keyed a_Machine_next_of a_touches a_shrinking a_Machine_fair_at a_Machine_many a_growing a_core a_reach a_missed_of a_ranks a_alive a_bottom_of a_distances a_short_walk a_loop_within a_lives a_law_whole a_law_walk a_law_loop a_law_is_rank a_law_falls a_law_ranked a_law_told a_law C_Machine td_Machine_init T_KEPT : Addr} (X : K.In h) (G : h.Ns mainGlobals mg) (hfa : mg "law" = some (.ref fa))
    {od_law_small_by an_law_small_by : Option Addr} {sl_law_small_by : Array (Option Value)} {oc_law_small_by kV_law_small_by dc_law_small_by pm_law_small_by cd_law_small_by ct_law_small_by : Value}
    {od_law_cell_at an_law_cell_at : Option Addr} {sl_law_cell_at : Array (Option Value)} {oc_law_cell_at kV_law_cell_at dc_law_cell_at pm_law_cell_at cd_law_cell_at ct_law_cell_at : Value}
    {od_law_mix an_law_mix : Option Addr} {sl_law_mix : Array (Option Value)} {oc_law_mix kV_law_mix dc_law_mix pm_law_mix cd_law_mix ct_law_mix : Value}
    {od_law_steps_by an_law_steps_by : Option Addr} {sl_law_steps_by : Array (Option Value)} {oc_law_steps_by kV_law_steps_by dc_law_steps_by pm_law_steps_by cd_law_steps_by ct_law_steps_by : Value}
    {od_law_fair_by an_law_fair_by : Option Addr} {sl_law_fair_by : Array (Option Value)} {oc_law_fair_by kV_law_fair_by dc_law_fair_by pm_law_fair_by cd_law_fair_by ct_law_fair_by : Value}
    {od_look_stands an_look_stands : Option Addr} {sl_look_stands : Array (Option Value)} {oc_look_stands kV_look_stands dc_look_stands pm_look_stands cd_look_stands ct_look_stands : Value}
    {od_is_mark an_is_mark : Option Addr} {sl_is_mark : Array (Option Value)} {oc_is_mark kV_is_mark dc_is_mark pm_is_mark cd_is_mark ct_is_mark : Value}
    {od_look_machine an_look_machine : Option Addr} {sl_look_machine : Array (Option Value)} {oc_look_machine kV_look_machine dc_look_machine pm_look_machine cd_look_machine ct_look_machine : Value}
    {od_Machine_init an_Machine_init : Option Addr} {sl_Machine_init : Array (Option Value)} {oc_Machine_init kV_Machine_init dc_Machine_init pm_Machine_init cd_Machine_init ct_Machine_init : Value}
    {tc_Machine_init : Value} {tdd_Machine_init : Option Addr} {tn_Machine_init : Nat} {tsl_Machine_init : Array (Option Value)}
    {od_law_word_by an_law_word_by : Option Addr} {sl_law_word_by : Array (Option Value)} {oc_law_word_by kV_law_word_by dc_law_word_by pm_law_word_by cd_law_word_by ct_law_word_by : Value}
    {od_law_set_by an_law_set_by : Option Addr} {sl_law_set_by : Array (Option Value)} {oc_law_set_by kV_law_set_by dc_law_set_by pm_law_set_by cd_law_set_by ct_law_set_by : Value}
    {od_keyed an_keyed : Option Addr} {sl_keyed : Array (Option Value)} {oc_keyed kV_keyed dc_keyed pm_keyed cd_keyed ct_keyed : Value}
    {od_Machine_next_of an_Machine_next_of : Option Addr} {sl_Machine_next_of : Array (Option Value)} {oc_Machine_next_of kV_Machine_next_of dc_Machine_next_of pm_Machine_next_of cd_Machine_next_of ct_Machine_next_of : Value}
    {od_touches an_touches : Option Addr} {sl_touches : Array (Option Value)} {oc_touches kV_touches dc_touches pm_touches cd_touches ct_touches : Value}
    {od_shrinking an_shrinking : Option Addr} {sl_shrinking : Array (Option Value)} {oc_shrinking kV_shrinking dc_shrinking pm_shrinking cd_shrinking ct_shrinking : Value}
    {od_Machine_fair_at an_Machine_fair_at : Option Addr} {sl_Machine_fair_at : Array (Option Value)} {oc_Machine_fair_at kV_Machine_fair_at dc_Machine_fair_at pm_Machine_fair_at cd_Machine_fair_at ct_Machine_fair_at : Value}
    {od_Machine_many an_Machine_many : Option Addr} {sl_Machine_many : Array (Option Value)} {oc_Machine_many kV_Machine_many dc_Machine_many pm_Machine_many cd_Machine_many ct_Machine_many : Value}
    {od_growing an_growing : Option Addr} {sl_growing : Array (Option Value)} {oc_growing kV_growing dc_growing pm_growing cd_growing ct_growing : Value}
    {od_core an_core : Option Addr} {sl_core : Array (Option Value)} {oc_core kV_core dc_core pm_core cd_core ct_core : Value}
    {od_reach an_reach : Option Addr} {sl_reach : Array (Option Value)} {oc_reach kV_reach dc_reach pm_reach cd_reach ct_reach : Value}
    {od_missed_of an_missed_of : Option Addr} {sl_missed_of : Array (Option Value)} {oc_missed_of kV_missed_of dc_missed_of pm_missed_of cd_missed_of ct_missed_of : Value}
    {od_ranks an_ranks : Option Addr} {sl_ranks : Array (Option Value)} {oc_ranks kV_ranks dc_ranks pm_ranks cd_ranks ct_ranks : Value}
    {od_alive an_alive : Option Addr} {sl_alive : Array (Option Value)} {oc_alive kV_alive dc_alive pm_alive cd_alive ct_alive : Value}
    {od_bottom_of an_bottom_of : Option Addr} {sl_bottom_of : Array (Option Value)} {oc_bottom_of kV_bottom_of dc_bottom_of pm_bottom_of cd_bottom_of ct_bottom_of : Value}
    {od_distances an_distances : Option Addr} {sl_distances : Array (Option Value)} {oc_distances kV_distances dc_distances pm_distances cd_distances ct_distances : Value}
    {od_short_walk an_short_walk : Option Addr} {sl_short_walk : Array (Option Value)} {oc_short_walk kV_short_walk dc_short_walk pm_short_walk cd_short_walk ct_short_walk : Value}
    {od_loop_within an_loop_within : Option Addr} {sl_loop_within : Array (Option Value)} {oc_loop_within kV_loop_within dc_loop_within pm_loop_within cd_loop_within ct_loop_within : Value}
    {od_lives an_lives : Option Addr} {sl_lives : Array (Option Value)} {oc_lives kV_lives dc_lives pm_lives cd_lives ct_lives : Value}
    {od_law_whole an_law_whole : Option Addr} {sl_law_whole : Array (Option Value)} {oc_law_whole kV_law_whole dc_law_whole pm_law_whole cd_law_whole ct_law_whole : Value}
    {od_law_walk an_law_walk : Option Addr} {sl_law_walk : Array (Option Value)} {oc_law_walk kV_law_walk dc_law_walk pm_law_walk cd_law_walk ct_law_walk : Value}
    {od_law_loop an_law_loop : Option Addr} {sl_law_loop : Array (Option Value)} {oc_law_loop kV_law_loop dc_law_loop pm_law_loop cd_law_loop ct_law_loop : Value}
    {od_law_is_rank an_law_is_rank : Option Addr} {sl_law_is_rank : Array (Option Value)} {oc_law_is_rank kV_law_is_rank dc_law_is_rank pm_law_is_rank cd_law_is_rank ct_law_is_rank : Value}
    {od_law_falls an_law_falls : Option Addr} {sl_law_falls : Array (Option Value)} {oc_law_falls kV_law_falls dc_law_falls pm_law_falls cd_law_falls ct_law_falls : Value}
    {od_law_ranked an_law_ranked : Option Addr} {sl_law_ranked : Array (Option Value)} {oc_law_ranked kV_law_ranked dc_law_ranked pm_law_ranked cd_law_ranked ct_law_ranked : Value}
    {od_law_told an_law_told : Option Addr} {sl_law_told : Array (Option Value)} {oc_law_told kV_law_told dc_law_told pm_law_told cd_law_told ct_law_told : Value}
    {od_law an_law : Option Addr} {sl_law : Array (Option Value)} {oc_law kV_law dc_law pm_law cd_law ct_law : Value}
    {oo_KEPT : Obj} {its_KEPT : Array Value} {tn_KEPT : Nat}
    {tk_LETTERS : Tok}
    {tk_LONGEST : Tok}
    {tk_MOST_STANDS : Tok}
    (h_Machine : PySem.W.nsIn K mainGlobals "Machine" = some (some (.ref C_Machine)))
    (pg_Machine : PySem.W.plainGet K C_Machine Str.empty = true)
    (hd_Machine : PySem.W.hasDictIn K C_Machine = true)
    (po_Machine : PySem.W.plainOver K C_Machine = true)
    (sa_Machine : PySem.W.findIn K (.ref C_Machine) "__setattr__" = some (some (.builtin "object.__setattr__")))
    (mi_Machine : PySem.W.makesIn K C_Machine = true)
    (kc_Machine : PySem.W.keepIn K (.ref C_Machine) = true)
    (na_Machine_fair : PySem.W.findIn K (.ref C_Machine) "fair" = some none)
    (na_Machine_marks : PySem.W.findIn K (.ref C_Machine) "marks" = some none)
    (na_Machine_steps : PySem.W.findIn K (.ref C_Machine) "steps" = some none)
    (h_law_small_by : PySem.W.nsIn K mainGlobals "_law_small_by" = some (some (.ref a_law_small_by)))
    (l_law_small_by : K.lookup a_law_small_by = some ⟨oc_law_small_by, od_law_small_by, .func (PySem.W.fnOf "_law_small_by" "_law_small_by" (defArgs s_law_small_by) (defBody s_law_small_by) (defScope s_law_small_by) .none kV_law_small_by dc_law_small_by pm_law_small_by an_law_small_by cd_law_small_by ct_law_small_by), sl_law_small_by⟩)
    (c_law_small_by : PySem.W.codeIn K cd_law_small_by "_law_small_by" = true)
    (k_law_small_by : PySem.W.keepIn K (.ref a_law_small_by) = true)
    (h_law_cell_at : PySem.W.nsIn K mainGlobals "_law_cell_at" = some (some (.ref a_law_cell_at)))
    (l_law_cell_at : K.lookup a_law_cell_at = some ⟨oc_law_cell_at, od_law_cell_at, .func (PySem.W.fnOf "_law_cell_at" "_law_cell_at" (defArgs s_law_cell_at) (defBody s_law_cell_at) (defScope s_law_cell_at) .none kV_law_cell_at dc_law_cell_at pm_law_cell_at an_law_cell_at cd_law_cell_at ct_law_cell_at), sl_law_cell_at⟩)
    (c_law_cell_at : PySem.W.codeIn K cd_law_cell_at "_law_cell_at" = true)
    (k_law_cell_at : PySem.W.keepIn K (.ref a_law_cell_at) = true)
    (h_law_mix : PySem.W.nsIn K mainGlobals "_law_mix" = some (some (.ref a_law_mix)))
    (l_law_mix : K.lookup a_law_mix = some ⟨oc_law_mix, od_law_mix, .func (PySem.W.fnOf "_law_mix" "_law_mix" (defArgs s_law_mix) (defBody s_law_mix) (defScope s_law_mix) .none kV_law_mix dc_law_mix pm_law_mix an_law_mix cd_law_mix ct_law_mix), sl_law_mix⟩)
    (c_law_mix : PySem.W.codeIn K cd_law_mix "_law_mix" = true)
    (k_law_mix : PySem.W.keepIn K (.ref a_law_mix) = true)
    (h_law_steps_by : PySem.W.nsIn K mainGlobals "_law_steps_by" = some (some (.ref a_law_steps_by)))
    (l_law_steps_by : K.lookup a_law_steps_by = some ⟨oc_law_steps_by, od_law_steps_by, .func (PySem.W.fnOf "_law_steps_by" "_law_steps_by" (defArgs s_law_steps_by) (defBody s_law_steps_by) (defScope s_law_steps_by) .none kV_law_steps_by dc_law_steps_by pm_law_steps_by an_law_steps_by cd_law_steps_by ct_law_steps_by), sl_law_steps_by⟩)
    (c_law_steps_by : PySem.W.codeIn K cd_law_steps_by "_law_steps_by" = true)
    (k_law_steps_by : PySem.W.keepIn K (.ref a_law_steps_by) = true)
    (h_law_fair_by : PySem.W.nsIn K mainGlobals "_law_fair_by" = some (some (.ref a_law_fair_by)))
    (l_law_fair_by : K.lookup a_law_fair_by = some ⟨oc_law_fair_by, od_law_fair_by, .func (PySem.W.fnOf "_law_fair_by" "_law_fair_by" (defArgs s_law_fair_by) (defBody s_law_fair_by) (defScope s_law_fair_by) .none kV_law_fair_by dc_law_fair_by pm_law_fair_by an_law_fair_by cd_law_fair_by ct_law_fair_by), sl_law_fair_by⟩)
    (c_law_fair_by : PySem.W.codeIn K cd_law_fair_by "_law_fair_by" = true)
    (k_law_fair_by : PySem.W.keepIn K (.ref a_law_fair_by) = true)
    (h_look_stands : PySem.W.nsIn K mainGlobals "look_stands" = some (some (.ref a_look_stands)))
    (l_look_stands : K.lookup a_look_stands = some ⟨oc_look_stands, od_look_stands, .func (PySem.W.fnOf "look_stands" "look_stands" (defArgs s_look_stands) (defBody s_look_stands) (defScope s_look_stands) .none kV_look_stands dc_look_stands pm_look_stands an_look_stands cd_look_stands ct_look_stands), sl_look_stands⟩)
    (c_look_stands : PySem.W.codeIn K cd_look_stands "look_stands" = true)
    (k_look_stands : PySem.W.keepIn K (.ref a_look_stands) = true)
    (h_is_mark : PySem.W.nsIn K mainGlobals "is_mark" = some (some (.ref a_is_mark)))
    (l_is_mark : K.lookup a_is_mark = some ⟨oc_is_mark, od_is_mark, .func (PySem.W.fnOf "is_mark" "is_mark" (defArgs s_is_mark) (defBody s_is_mark) (defScope s_is_mark) .none kV_is_mark dc_is_mark pm_is_mark an_is_mark cd_is_mark ct_is_mark), sl_is_mark⟩)
    (c_is_mark : PySem.W.codeIn K cd_is_mark "is_mark" = true)
    (k_is_mark : PySem.W.keepIn K (.ref a_is_mark) = true)
    (h_look_machine : PySem.W.nsIn K mainGlobals "look_machine" = some (some (.ref a_look_machine)))
    (l_look_machine : K.lookup a_look_machine = some ⟨oc_look_machine, od_look_machine, .func (PySem.W.fnOf "look_machine" "look_machine" (defArgs s_look_machine) (defBody s_look_machine) (defScope s_look_machine) .none kV_look_machine dc_look_machine pm_look_machine an_look_machine cd_look_machine ct_look_machine), sl_look_machine⟩)
    (c_look_machine : PySem.W.codeIn K cd_look_machine "look_machine" = true)
    (k_look_machine : PySem.W.keepIn K (.ref a_look_machine) = true)
    (h_Machine_init : PySem.W.findIn K (.ref C_Machine) "__init__" = some (some (.ref a_Machine_init)))
    (i_Machine_init : PySem.W.isFn K (.ref a_Machine_init) = true)
    (l_Machine_init : K.lookup a_Machine_init = some ⟨oc_Machine_init, od_Machine_init, .func (PySem.W.fnOf "__init__" "Machine.__init__" (defArgs s_Machine_init) (defBody s_Machine_init) (defScope s_Machine_init) (.ref td_Machine_init) kV_Machine_init dc_Machine_init pm_Machine_init an_Machine_init cd_Machine_init ct_Machine_init), sl_Machine_init⟩)
    (c_Machine_init : PySem.W.codeIn K cd_Machine_init "Machine.__init__" = true)
    (k_Machine_init : PySem.W.keepIn K (.ref a_Machine_init) = true)
    (td_l_Machine_init : K.lookup td_Machine_init = some ⟨tc_Machine_init, tdd_Machine_init, .seq [.none, .none].toArray tn_Machine_init, tsl_Machine_init⟩)
    (h_law_word_by : PySem.W.nsIn K mainGlobals "_law_word_by" = some (some (.ref a_law_word_by)))
    (l_law_word_by : K.lookup a_law_word_by = some ⟨oc_law_word_by, od_law_word_by, .func (PySem.W.fnOf "_law_word_by" "_law_word_by" (defArgs s_law_word_by) (defBody s_law_word_by) (defScope s_law_word_by) .none kV_law_word_by dc_law_word_by pm_law_word_by an_law_word_by cd_law_word_by ct_law_word_by), sl_law_word_by⟩)
    (c_law_word_by : PySem.W.codeIn K cd_law_word_by "_law_word_by" = true)
    (k_law_word_by : PySem.W.keepIn K (.ref a_law_word_by) = true)
    (h_law_set_by : PySem.W.nsIn K mainGlobals "_law_set_by" = some (some (.ref a_law_set_by)))
    (l_law_set_by : K.lookup a_law_set_by = some ⟨oc_law_set_by, od_law_set_by, .func (PySem.W.fnOf "_law_set_by" "_law_set_by" (defArgs s_law_set_by) (defBody s_law_set_by) (defScope s_law_set_by) .none kV_law_set_by dc_law_set_by pm_law_set_by an_law_set_by cd_law_set_by ct_law_set_by), sl_law_set_by⟩)
    (c_law_set_by : PySem.W.codeIn K cd_law_set_by "_law_set_by" = true)
    (k_law_set_by : PySem.W.keepIn K (.ref a_law_set_by) = true)
    (h_keyed : PySem.W.nsIn K mainGlobals "keyed" = some (some (.ref a_keyed)))
    (l_keyed : K.lookup a_keyed = some ⟨oc_keyed, od_keyed, .func (PySem.W.fnOf "keyed" "keyed" (defArgs s_keyed) (defBody s_keyed) (defScope s_keyed) .none kV_keyed dc_keyed pm_keyed an_keyed cd_keyed ct_keyed), sl_keyed⟩)
    (c_keyed : PySem.W.codeIn K cd_keyed "keyed" = true)
    (k_keyed : PySem.W.keepIn K (.ref a_keyed) = true)
    (h_Machine_next_of : PySem.W.findIn K (.ref C_Machine) "next_of" = some (some (.ref a_Machine_next_of)))
    (i_Machine_next_of : PySem.W.isFn K (.ref a_Machine_next_of) = true)
    (l_Machine_next_of : K.lookup a_Machine_next_of = some ⟨oc_Machine_next_of, od_Machine_next_of, .func (PySem.W.fnOf "next_of" "Machine.next_of" (defArgs s_Machine_next_of) (defBody s_Machine_next_of) (defScope s_Machine_next_of) .none kV_Machine_next_of dc_Machine_next_of pm_Machine_next_of an_Machine_next_of cd_Machine_next_of ct_Machine_next_of), sl_Machine_next_of⟩)
    (c_Machine_next_of : PySem.W.codeIn K cd_Machine_next_of "Machine.next_of" = true)
    (k_Machine_next_of : PySem.W.keepIn K (.ref a_Machine_next_of) = true)
    (h_touches : PySem.W.nsIn K mainGlobals "touches" = some (some (.ref a_touches)))
    (l_touches : K.lookup a_touches = some ⟨oc_touches, od_touches, .func (PySem.W.fnOf "touches" "touches" (defArgs s_touches) (defBody s_touches) (defScope s_touches) .none kV_touches dc_touches pm_touches an_touches cd_touches ct_touches), sl_touches⟩)
    (c_touches : PySem.W.codeIn K cd_touches "touches" = true)
    (k_touches : PySem.W.keepIn K (.ref a_touches) = true)
    (h_shrinking : PySem.W.nsIn K mainGlobals "shrinking" = some (some (.ref a_shrinking)))
    (l_shrinking : K.lookup a_shrinking = some ⟨oc_shrinking, od_shrinking, .func (PySem.W.fnOf "shrinking" "shrinking" (defArgs s_shrinking) (defBody s_shrinking) (defScope s_shrinking) .none kV_shrinking dc_shrinking pm_shrinking an_shrinking cd_shrinking ct_shrinking), sl_shrinking⟩)
    (c_shrinking : PySem.W.codeIn K cd_shrinking "shrinking" = true)
    (k_shrinking : PySem.W.keepIn K (.ref a_shrinking) = true)
    (h_Machine_fair_at : PySem.W.findIn K (.ref C_Machine) "fair_at" = some (some (.ref a_Machine_fair_at)))
    (i_Machine_fair_at : PySem.W.isFn K (.ref a_Machine_fair_at) = true)
    (l_Machine_fair_at : K.lookup a_Machine_fair_at = some ⟨oc_Machine_fair_at, od_Machine_fair_at, .func (PySem.W.fnOf "fair_at" "Machine.fair_at" (defArgs s_Machine_fair_at) (defBody s_Machine_fair_at) (defScope s_Machine_fair_at) .none kV_Machine_fair_at dc_Machine_fair_at pm_Machine_fair_at an_Machine_fair_at cd_Machine_fair_at ct_Machine_fair_at), sl_Machine_fair_at⟩)
    (c_Machine_fair_at : PySem.W.codeIn K cd_Machine_fair_at "Machine.fair_at" = true)
    (k_Machine_fair_at : PySem.W.keepIn K (.ref a_Machine_fair_at) = true)
    (h_Machine_many : PySem.W.findIn K (.ref C_Machine) "many" = some (some (.ref a_Machine_many)))
    (i_Machine_many : PySem.W.isFn K (.ref a_Machine_many) = true)
    (l_Machine_many : K.lookup a_Machine_many = some ⟨oc_Machine_many, od_Machine_many, .func (PySem.W.fnOf "many" "Machine.many" (defArgs s_Machine_many) (defBody s_Machine_many) (defScope s_Machine_many) .none kV_Machine_many dc_Machine_many pm_Machine_many an_Machine_many cd_Machine_many ct_Machine_many), sl_Machine_many⟩)
    (c_Machine_many : PySem.W.codeIn K cd_Machine_many "Machine.many" = true)
    (k_Machine_many : PySem.W.keepIn K (.ref a_Machine_many) = true)
    (h_growing : PySem.W.nsIn K mainGlobals "growing" = some (some (.ref a_growing)))
    (l_growing : K.lookup a_growing = some ⟨oc_growing, od_growing, .func (PySem.W.fnOf "growing" "growing" (defArgs s_growing) (defBody s_growing) (defScope s_growing) .none kV_growing dc_growing pm_growing an_growing cd_growing ct_growing), sl_growing⟩)
    (c_growing : PySem.W.codeIn K cd_growing "growing" = true)
    (k_growing : PySem.W.keepIn K (.ref a_growing) = true)
    (h_core : PySem.W.nsIn K mainGlobals "core" = some (some (.ref a_core)))
    (l_core : K.lookup a_core = some ⟨oc_core, od_core, .func (PySem.W.fnOf "core" "core" (defArgs s_core) (defBody s_core) (defScope s_core) .none kV_core dc_core pm_core an_core cd_core ct_core), sl_core⟩)
    (c_core : PySem.W.codeIn K cd_core "core" = true)
    (k_core : PySem.W.keepIn K (.ref a_core) = true)
    (h_reach : PySem.W.nsIn K mainGlobals "reach" = some (some (.ref a_reach)))
    (l_reach : K.lookup a_reach = some ⟨oc_reach, od_reach, .func (PySem.W.fnOf "reach" "reach" (defArgs s_reach) (defBody s_reach) (defScope s_reach) .none kV_reach dc_reach pm_reach an_reach cd_reach ct_reach), sl_reach⟩)
    (c_reach : PySem.W.codeIn K cd_reach "reach" = true)
    (k_reach : PySem.W.keepIn K (.ref a_reach) = true)
    (h_missed_of : PySem.W.nsIn K mainGlobals "missed_of" = some (some (.ref a_missed_of)))
    (l_missed_of : K.lookup a_missed_of = some ⟨oc_missed_of, od_missed_of, .func (PySem.W.fnOf "missed_of" "missed_of" (defArgs s_missed_of) (defBody s_missed_of) (defScope s_missed_of) .none kV_missed_of dc_missed_of pm_missed_of an_missed_of cd_missed_of ct_missed_of), sl_missed_of⟩)
    (c_missed_of : PySem.W.codeIn K cd_missed_of "missed_of" = true)
    (k_missed_of : PySem.W.keepIn K (.ref a_missed_of) = true)
    (h_ranks : PySem.W.nsIn K mainGlobals "ranks" = some (some (.ref a_ranks)))
    (l_ranks : K.lookup a_ranks = some ⟨oc_ranks, od_ranks, .func (PySem.W.fnOf "ranks" "ranks" (defArgs s_ranks) (defBody s_ranks) (defScope s_ranks) .none kV_ranks dc_ranks pm_ranks an_ranks cd_ranks ct_ranks), sl_ranks⟩)
    (c_ranks : PySem.W.codeIn K cd_ranks "ranks" = true)
    (k_ranks : PySem.W.keepIn K (.ref a_ranks) = true)
    (h_alive : PySem.W.nsIn K mainGlobals "alive" = some (some (.ref a_alive)))
    (l_alive : K.lookup a_alive = some ⟨oc_alive, od_alive, .func (PySem.W.fnOf "alive" "alive" (defArgs s_alive) (defBody s_alive) (defScope s_alive) .none kV_alive dc_alive pm_alive an_alive cd_alive ct_alive), sl_alive⟩)
    (c_alive : PySem.W.codeIn K cd_alive "alive" = true)
    (k_alive : PySem.W.keepIn K (.ref a_alive) = true)
    (h_bottom_of : PySem.W.nsIn K mainGlobals "bottom_of" = some (some (.ref a_bottom_of)))
    (l_bottom_of : K.lookup a_bottom_of = some ⟨oc_bottom_of, od_bottom_of, .func (PySem.W.fnOf "bottom_of" "bottom_of" (defArgs s_bottom_of) (defBody s_bottom_of) (defScope s_bottom_of) .none kV_bottom_of dc_bottom_of pm_bottom_of an_bottom_of cd_bottom_of ct_bottom_of), sl_bottom_of⟩)
    (c_bottom_of : PySem.W.codeIn K cd_bottom_of "bottom_of" = true)
    (k_bottom_of : PySem.W.keepIn K (.ref a_bottom_of) = true)
    (h_distances : PySem.W.nsIn K mainGlobals "distances" = some (some (.ref a_distances)))
    (l_distances : K.lookup a_distances = some ⟨oc_distances, od_distances, .func (PySem.W.fnOf "distances" "distances" (defArgs s_distances) (defBody s_distances) (defScope s_distances) .none kV_distances dc_distances pm_distances an_distances cd_distances ct_distances), sl_distances⟩)
    (c_distances : PySem.W.codeIn K cd_distances "distances" = true)
    (k_distances : PySem.W.keepIn K (.ref a_distances) = true)
    (h_short_walk : PySem.W.nsIn K mainGlobals "short_walk" = some (some (.ref a_short_walk)))
    (l_short_walk : K.lookup a_short_walk = some ⟨oc_short_walk, od_short_walk, .func (PySem.W.fnOf "short_walk" "short_walk" (defArgs s_short_walk) (defBody s_short_walk) (defScope s_short_walk) .none kV_short_walk dc_short_walk pm_short_walk an_short_walk cd_short_walk ct_short_walk), sl_short_walk⟩)
    (c_short_walk : PySem.W.codeIn K cd_short_walk "short_walk" = true)
    (k_short_walk : PySem.W.keepIn K (.ref a_short_walk) = true)
    (h_loop_within : PySem.W.nsIn K mainGlobals "loop_within" = some (some (.ref a_loop_within)))
    (l_loop_within : K.lookup a_loop_within = some ⟨oc_loop_within, od_loop_within, .func (PySem.W.fnOf "loop_within" "loop_within" (defArgs s_loop_within) (defBody s_loop_within) (defScope s_loop_within) .none kV_loop_within dc_loop_within pm_loop_within an_loop_within cd_loop_within ct_loop_within), sl_loop_within⟩)
    (c_loop_within : PySem.W.codeIn K cd_loop_within "loop_within" = true)
    (k_loop_within : PySem.W.keepIn K (.ref a_loop_within) = true)
    (h_lives : PySem.W.nsIn K mainGlobals "lives" = some (some (.ref a_lives)))
    (l_lives : K.lookup a_lives = some ⟨oc_lives, od_lives, .func (PySem.W.fnOf "lives" "lives" (defArgs s_lives) (defBody s_lives) (defScope s_lives) .none kV_lives dc_lives pm_lives an_lives cd_lives ct_lives), sl_lives⟩)
    (c_lives : PySem.W.codeIn K cd_lives "lives" = true)
    (k_lives : PySem.W.keepIn K (.ref a_lives) = true)
    (h_law_whole : PySem.W.nsIn K mainGlobals "_law_whole" = some (some (.ref a_law_whole)))
    (l_law_whole : K.lookup a_law_whole = some ⟨oc_law_whole, od_law_whole, .func (PySem.W.fnOf "_law_whole" "_law_whole" (defArgs s_law_whole) (defBody s_law_whole) (defScope s_law_whole) .none kV_law_whole dc_law_whole pm_law_whole an_law_whole cd_law_whole ct_law_whole), sl_law_whole⟩)
    (c_law_whole : PySem.W.codeIn K cd_law_whole "_law_whole" = true)
    (k_law_whole : PySem.W.keepIn K (.ref a_law_whole) = true)
    (h_law_walk : PySem.W.nsIn K mainGlobals "_law_walk" = some (some (.ref a_law_walk)))
    (l_law_walk : K.lookup a_law_walk = some ⟨oc_law_walk, od_law_walk, .func (PySem.W.fnOf "_law_walk" "_law_walk" (defArgs s_law_walk) (defBody s_law_walk) (defScope s_law_walk) .none kV_law_walk dc_law_walk pm_law_walk an_law_walk cd_law_walk ct_law_walk), sl_law_walk⟩)
    (c_law_walk : PySem.W.codeIn K cd_law_walk "_law_walk" = true)
    (k_law_walk : PySem.W.keepIn K (.ref a_law_walk) = true)
    (h_law_loop : PySem.W.nsIn K mainGlobals "_law_loop" = some (some (.ref a_law_loop)))
    (l_law_loop : K.lookup a_law_loop = some ⟨oc_law_loop, od_law_loop, .func (PySem.W.fnOf "_law_loop" "_law_loop" (defArgs s_law_loop) (defBody s_law_loop) (defScope s_law_loop) .none kV_law_loop dc_law_loop pm_law_loop an_law_loop cd_law_loop ct_law_loop), sl_law_loop⟩)
    (c_law_loop : PySem.W.codeIn K cd_law_loop "_law_loop" = true)
    (k_law_loop : PySem.W.keepIn K (.ref a_law_loop) = true)
    (h_law_is_rank : PySem.W.nsIn K mainGlobals "_law_is_rank" = some (some (.ref a_law_is_rank)))
    (l_law_is_rank : K.lookup a_law_is_rank = some ⟨oc_law_is_rank, od_law_is_rank, .func (PySem.W.fnOf "_law_is_rank" "_law_is_rank" (defArgs s_law_is_rank) (defBody s_law_is_rank) (defScope s_law_is_rank) .none kV_law_is_rank dc_law_is_rank pm_law_is_rank an_law_is_rank cd_law_is_rank ct_law_is_rank), sl_law_is_rank⟩)
    (c_law_is_rank : PySem.W.codeIn K cd_law_is_rank "_law_is_rank" = true)
    (k_law_is_rank : PySem.W.keepIn K (.ref a_law_is_rank) = true)
    (h_law_falls : PySem.W.nsIn K mainGlobals "_law_falls" = some (some (.ref a_law_falls)))
    (l_law_falls : K.lookup a_law_falls = some ⟨oc_law_falls, od_law_falls, .func (PySem.W.fnOf "_law_falls" "_law_falls" (defArgs s_law_falls) (defBody s_law_falls) (defScope s_law_falls) .none kV_law_falls dc_law_falls pm_law_falls an_law_falls cd_law_falls ct_law_falls), sl_law_falls⟩)
    (c_law_falls : PySem.W.codeIn K cd_law_falls "_law_falls" = true)
    (k_law_falls : PySem.W.keepIn K (.ref a_law_falls) = true)
    (h_law_ranked : PySem.W.nsIn K mainGlobals "_law_ranked" = some (some (.ref a_law_ranked)))
    (l_law_ranked : K.lookup a_law_ranked = some ⟨oc_law_ranked, od_law_ranked, .func (PySem.W.fnOf "_law_ranked" "_law_ranked" (defArgs s_law_ranked) (defBody s_law_ranked) (defScope s_law_ranked) .none kV_law_ranked dc_law_ranked pm_law_ranked an_law_ranked cd_law_ranked ct_law_ranked), sl_law_ranked⟩)
    (c_law_ranked : PySem.W.codeIn K cd_law_ranked "_law_ranked" = true)
    (k_law_ranked : PySem.W.keepIn K (.ref a_law_ranked) = true)
    (h_law_told : PySem.W.nsIn K mainGlobals "_law_told" = some (some (.ref a_law_told)))
    (l_law_told : K.lookup a_law_told = some ⟨oc_law_told, od_law_told, .func (PySem.W.fnOf "_law_told" "_law_told" (defArgs s_law_told) (defBody s_law_told) (defScope s_law_told) .none kV_law_told dc_law_told pm_law_told an_law_told cd_law_told ct_law_told), sl_law_told⟩)
    (c_law_told : PySem.W.codeIn K cd_law_told "_law_told" = true)
    (k_law_told : PySem.W.keepIn K (.ref a_law_told) = true)
    (h_law : PySem.W.nsIn K mainGlobals "law" = some (some (.ref a_law)))
    (l_law : K.lookup a_law = some ⟨oc_law, od_law, .func (PySem.W.fnOf "law" "law" (defArgs s_law) (defBody s_law) (defScope s_law) .none kV_law dc_law pm_law an_law cd_law ct_law), sl_law⟩)
    (c_law : PySem.W.codeIn K cd_law "law" = true)
    (k_law : PySem.W.keepIn K (.ref a_law) = true)
    (z_bool : PySem.W.nsIn K mainGlobals "bool" = some none)
    (z_enumerate : PySem.W.nsIn K mainGlobals "enumerate" = some none)
    (z_int : PySem.W.nsIn K mainGlobals "int" = some none)
    (z_isinstance : PySem.W.nsIn K mainGlobals "isinstance" = some none)
    (z_len : PySem.W.nsIn K mainGlobals "len" = some none)
    (z_list : PySem.W.nsIn K mainGlobals "list" = some none)
    (z_max : PySem.W.nsIn K mainGlobals "max" = some none)
    (z_min : PySem.W.nsIn K mainGlobals "min" = some none)
    (z_range : PySem.W.nsIn K mainGlobals "range" = some none)
    (z_sorted : PySem.W.nsIn K mainGlobals "sorted" = some none)
    (z_str : PySem.W.nsIn K mainGlobals "str" = some none)
    (z_tuple : PySem.W.nsIn K mainGlobals "tuple" = some none)
    (h_KEPT : PySem.W.nsIn K mainGlobals "KEPT" = some (some (.ref T_KEPT)))
    (l_KEPT : K.lookup T_KEPT = some oo_KEPT)
    (d_KEPT : oo_KEPT.data = .seq its_KEPT tn_KEPT)
    (t_KEPT : oo_KEPT.cls = .type "tuple")
    (v_KEPT : Vals [.str "all", .str "not", .str "both", .str "either", .str "somenext", .str "eachnext", .str "sometill", .str "eachtill", .str "someever", .str "eachever"] its_KEPT.toList)
    (h_LETTERS : PySem.W.nsIn K mainGlobals "LETTERS" = some (some (.str "abcdefghijklmnopqrstuvwxyz" tk_LETTERS)))
    (h_LONGEST : PySem.W.nsIn K mainGlobals "LONGEST" = some (some (.int 8 tk_LONGEST)))
    (h_MOST_STANDS : PySem.W.nsIn K mainGlobals "MOST_STANDS" = some (some (.int 60 tk_MOST_STANDS)))
    (hf : ∀ ns : List Int, ns.length ≤ 63 → ∃ ts, m_law [scrT ns] = some (.lf (.bl true), ts)) :
    ∃ fd : FuncData, (∀ (s : Shared) (v : Value), BindsTo s fd ⟨[v], []⟩ [("_law_script", v)]) ∧ ∀ base : Heap, K.In base → base.Ns mainGlobals mg → FnOk l.prog w K mg base CX0 8 fa fd ["_law_script"] (spLaw K) := by
  have e := hfa.symm.trans (PySem.W.mg_of X G h_law)
  cases e
  have F_law_small_by := fun_mk (st := s_law_small_by) l_law_small_by c_law_small_by k_law_small_by
  have b_law_small_by := F_law_small_by.binds (ps := ["_law_cell"]) fun _ _ _ _ _ _ us hl => match us, hl with | [_], _ => rfl
  have F_law_cell_at := fun_mk (st := s_law_cell_at) l_law_cell_at c_law_cell_at k_law_cell_at
  have b_law_cell_at := F_law_cell_at.binds (ps := ["_law_script", "_law_k"]) fun _ _ _ _ _ _ us hl => match us, hl with | [_, _], _ => rfl
  have F_law_mix := fun_mk (st := s_law_mix) l_law_mix c_law_mix k_law_mix
  have b_law_mix := F_law_mix.binds (ps := ["_law_cell", "_law_k"]) fun _ _ _ _ _ _ us hl => match us, hl with | [_, _], _ => rfl
  have F_law_steps_by := fun_mk (st := s_law_steps_by) l_law_steps_by c_law_steps_by k_law_steps_by
  have b_law_steps_by := F_law_steps_by.binds (ps := ["_law_script", "_law_many"]) fun _ _ _ _ _ _ us hl => match us, hl with | [_, _], _ => rfl
  have F_law_fair_by := fun_mk (st := s_law_fair_by) l_law_fair_by c_law_fair_by k_law_fair_by
  have b_law_fair_by := F_law_fair_by.binds (ps := ["_law_cell", "_law_many"]) fun _ _ _ _ _ _ us hl => match us, hl with | [_, _], _ => rfl
  have F_look_stands := fun_mk (st := s_look_stands) l_look_stands c_look_stands k_look_stands
  have b_look_stands := F_look_stands.binds (ps := ["stands", "many"]) fun _ _ _ _ _ _ us hl => match us, hl with | [_, _], _ => rfl
  have F_is_mark := fun_mk (st := s_is_mark) l_is_mark c_is_mark k_is_mark
  have b_is_mark := F_is_mark.binds (ps := ["name"]) fun _ _ _ _ _ _ us hl => match us, hl with | [_], _ => rfl
  have F_look_machine := fun_mk (st := s_look_machine) l_look_machine c_look_machine k_look_machine
  have b_look_machine := F_look_machine.binds (ps := ["steps", "marks", "fair"]) fun _ _ _ _ _ _ us hl => match us, hl with | [_, _, _], _ => rfl
  have F_Machine_init : FunD K "__init__" "Machine.__init__" (defArgs s_Machine_init) (defBody s_Machine_init) (defScope s_Machine_init) [.non, .non] [] a_Machine_init _ := ⟨⟨_, _, _, _, _, _, _, _, _, _, rfl, l_Machine_init, c_Machine_init, .inr ⟨by simp, td_Machine_init, _, _, _, rfl, td_l_Machine_init, rfl, (.cons rfl (.cons rfl .nil))⟩, .inl rfl⟩, k_Machine_init⟩
  obtain ⟨ds_Machine_init_3, b_Machine_init_3⟩ := F_Machine_init.binds1 (ps := ["self", "steps", "marks", "fair"]) 4 2 (by simp) rfl fun T kV doc pm an cdv ct us its h1 h2 => match us, h1, its, h2 with | [_, _, _, _], _, [_, _], _ => ⟨_, rfl, rfl⟩
  have F_law_word_by := fun_mk (st := s_law_word_by) l_law_word_by c_law_word_by k_law_word_by
  have b_law_word_by := F_law_word_by.binds (ps := ["_law_cell", "_law_k"]) fun _ _ _ _ _ _ us hl => match us, hl with | [_, _], _ => rfl
  have F_law_set_by := fun_mk (st := s_law_set_by) l_law_set_by c_law_set_by k_law_set_by
  have b_law_set_by := F_law_set_by.binds (ps := ["_law_cell", "_law_many", "_law_way"]) fun _ _ _ _ _ _ us hl => match us, hl with | [_, _, _], _ => rfl
  have F_keyed := fun_mk (st := s_keyed) l_keyed c_keyed k_keyed
  have b_keyed := F_keyed.binds (ps := ["stands"]) fun _ _ _ _ _ _ us hl => match us, hl with | [_], _ => rfl
  have F_Machine_next_of := fun_mk (st := s_Machine_next_of) l_Machine_next_of c_Machine_next_of k_Machine_next_of
  have b_Machine_next_of := F_Machine_next_of.binds (ps := ["self", "stand"]) fun _ _ _ _ _ _ us hl => match us, hl with | [_, _], _ => rfl
  have F_touches := fun_mk (st := s_touches) l_touches c_touches k_touches
  have b_touches := F_touches.binds (ps := ["machine", "stand", "keys"]) fun _ _ _ _ _ _ us hl => match us, hl with | [_, _, _], _ => rfl
  have F_shrinking := fun_mk (st := s_shrinking) l_shrinking c_shrinking k_shrinking
  have b_shrinking := F_shrinking.binds (ps := ["machine", "within"]) fun _ _ _ _ _ _ us hl => match us, hl with | [_, _], _ => rfl
  have F_Machine_fair_at := fun_mk (st := s_Machine_fair_at) l_Machine_fair_at c_Machine_fair_at k_Machine_fair_at
  have b_Machine_fair_at := F_Machine_fair_at.binds (ps := ["self", "number"]) fun _ _ _ _ _ _ us hl => match us, hl with | [_, _], _ => rfl
  have F_Machine_many := fun_mk (st := s_Machine_many) l_Machine_many c_Machine_many k_Machine_many
  have b_Machine_many := F_Machine_many.binds (ps := ["self"]) fun _ _ _ _ _ _ us hl => match us, hl with | [_], _ => rfl
  have F_growing := fun_mk (st := s_growing) l_growing c_growing k_growing
  have b_growing := F_growing.binds (ps := ["machine", "through", "goal"]) fun _ _ _ _ _ _ us hl => match us, hl with | [_, _, _], _ => rfl
  have F_core := fun_mk (st := s_core) l_core c_core k_core
  have b_core := F_core.binds (ps := ["machine", "within"]) fun _ _ _ _ _ _ us hl => match us, hl with | [_, _], _ => rfl
  have F_reach := fun_mk (st := s_reach) l_reach c_reach k_reach
  have b_reach := F_reach.binds (ps := ["machine", "within", "stand"]) fun _ _ _ _ _ _ us hl => match us, hl with | [_, _, _], _ => rfl
  have F_missed_of := fun_mk (st := s_missed_of) l_missed_of c_missed_of k_missed_of
  have b_missed_of := F_missed_of.binds (ps := ["machine", "together"]) fun _ _ _ _ _ _ us hl => match us, hl with | [_, _], _ => rfl
  have F_ranks := fun_mk (st := s_ranks) l_ranks c_ranks k_ranks
  have b_ranks := F_ranks.binds (ps := ["machine", "within"]) fun _ _ _ _ _ _ us hl => match us, hl with | [_, _], _ => rfl
  have F_alive := fun_mk (st := s_alive) l_alive c_alive k_alive
  have b_alive := F_alive.binds (ps := ["machine"]) fun _ _ _ _ _ _ us hl => match us, hl with | [_], _ => rfl
  have F_bottom_of := fun_mk (st := s_bottom_of) l_bottom_of c_bottom_of k_bottom_of
  have b_bottom_of := F_bottom_of.binds (ps := ["machine", "within", "stand"]) fun _ _ _ _ _ _ us hl => match us, hl with | [_, _, _], _ => rfl
  have F_distances := fun_mk (st := s_distances) l_distances c_distances k_distances
  have b_distances := F_distances.binds (ps := ["machine", "through", "goal"]) fun _ _ _ _ _ _ us hl => match us, hl with | [_, _, _], _ => rfl
  have F_short_walk := fun_mk (st := s_short_walk) l_short_walk c_short_walk k_short_walk
  have b_short_walk := F_short_walk.binds (ps := ["machine", "through", "goal", "stand"]) fun _ _ _ _ _ _ us hl => match us, hl with | [_, _, _, _], _ => rfl
  have F_loop_within := fun_mk (st := s_loop_within) l_loop_within c_loop_within k_loop_within
  have b_loop_within := F_loop_within.binds (ps := ["machine", "kept", "stand"]) fun _ _ _ _ _ _ us hl => match us, hl with | [_, _, _], _ => rfl
  have F_lives := fun_mk (st := s_lives) l_lives c_lives k_lives
  have b_lives := F_lives.binds (ps := ["machine"]) fun _ _ _ _ _ _ us hl => match us, hl with | [_], _ => rfl
  have F_law_whole := fun_mk (st := s_law_whole) l_law_whole c_law_whole k_law_whole
  have b_law_whole := F_law_whole.binds (ps := ["_law_found"]) fun _ _ _ _ _ _ us hl => match us, hl with | [_], _ => rfl
  have F_law_walk := fun_mk (st := s_law_walk) l_law_walk c_law_walk k_law_walk
  have b_law_walk := F_law_walk.binds (ps := ["_law_row", "_law_steps", "_law_start"]) fun _ _ _ _ _ _ us hl => match us, hl with | [_, _, _], _ => rfl
  have F_law_loop := fun_mk (st := s_law_loop) l_law_loop c_law_loop k_law_loop
  have b_law_loop := F_law_loop.binds (ps := ["_law_reason", "_law_steps", "_law_fair", "_law_within", "_law_start"]) fun _ _ _ _ _ _ us hl => match us, hl with | [_, _, _, _, _], _ => rfl
  have F_law_is_rank := fun_mk (st := s_law_is_rank) l_law_is_rank c_law_is_rank k_law_is_rank
  have b_law_is_rank := F_law_is_rank.binds (ps := ["_law_reason", "_law_fair"]) fun _ _ _ _ _ _ us hl => match us, hl with | [_, _], _ => rfl
  have F_law_falls := fun_mk (st := s_law_falls) l_law_falls c_law_falls k_law_falls
  have b_law_falls := F_law_falls.binds (ps := ["_law_one", "_law_other", "_law_fair", "_law_stand", "_law_further"]) fun _ _ _ _ _ _ us hl => match us, hl with | [_, _, _, _, _], _ => rfl
  have F_law_ranked := fun_mk (st := s_law_ranked) l_law_ranked c_law_ranked k_law_ranked
  have b_law_ranked := F_law_ranked.binds (ps := ["_law_found", "_law_steps", "_law_fair", "_law_stand"]) fun _ _ _ _ _ _ us hl => match us, hl with | [_, _, _, _], _ => rfl
  have F_law_told := fun_mk (st := s_law_told) l_law_told c_law_told k_law_told
  have b_law_told := F_law_told.binds (ps := ["_law_found", "_law_steps", "_law_fair"]) fun _ _ _ _ _ _ us hl => match us, hl with | [_, _, _], _ => rfl
  have F_law := fun_mk (st := s_law) l_law c_law k_law
  have t_KEPT : ∀ F H, Rep K mg F H (.ref T_KEPT) k_KEPT Emp := fun F H => .rot (vs := [.str "all", .str "not", .str "both", .str "either", .str "somenext", .str "eachnext", .str "sometill", .str "eachtill", .str "someever", .str "eachever"]) (.inr ⟨oo_KEPT, its_KEPT, tn_KEPT, l_KEPT, t_KEPT, d_KEPT, by have e := v_KEPT.length; simp only [Array.length_toList] at e; rw [← e]; decide, v_KEPT⟩) (.cons (S1 := Emp) (S2 := Emp) (.lf rfl fun _ z => z) (.cons (S1 := Emp) (S2 := Emp) (.lf rfl fun _ z => z) (.cons (S1 := Emp) (S2 := Emp) (.lf rfl fun _ z => z) (.cons (S1 := Emp) (S2 := Emp) (.lf rfl fun _ z => z) (.cons (S1 := Emp) (S2 := Emp) (.lf rfl fun _ z => z) (.cons (S1 := Emp) (S2 := Emp) (.lf rfl fun _ z => z) (.cons (S1 := Emp) (S2 := Emp) (.lf rfl fun _ z => z) (.cons (S1 := Emp) (S2 := Emp) (.lf rfl fun _ z => z) (.cons (S1 := Emp) (S2 := Emp) (.lf rfl fun _ z => z) (.cons (S1 := Emp) (S2 := Emp) (.lf rfl fun _ z => z) (.nil fun _ z => z) dj_emp fun x => ⟨fun z => z.elim, fun z => z.elim id id⟩) dj_emp fun x => ⟨fun z => z.elim, fun z => z.elim id id⟩) dj_emp fun x => ⟨fun z => z.elim, fun z => z.elim id id⟩) dj_emp fun x => ⟨fun z => z.elim, fun z => z.elim id id⟩) dj_emp fun x => ⟨fun z => z.elim, fun z => z.elim id id⟩) dj_emp fun x => ⟨fun z => z.elim, fun z => z.elim id id⟩) dj_emp fun x => ⟨fun z => z.elim, fun z => z.elim id id⟩) dj_emp fun x => ⟨fun z => z.elim, fun z => z.elim id id⟩) dj_emp fun x => ⟨fun z => z.elim, fun z => z.elim id id⟩) dj_emp fun x => ⟨fun z => z.elim, fun z => z.elim id id⟩)
  let E : Txt K mg := { C_Machine := C_Machine, m_Machine := PySem.W.mg_of X G h_Machine, cl_Machine := ⟨pg_Machine, hd_Machine, po_Machine, sa_Machine⟩, na_Machine_fair := na_Machine_fair, na_Machine_marks := na_Machine_marks, na_Machine_steps := na_Machine_steps, a_law_small_by := a_law_small_by, fd_law_small_by := _, F_law_small_by := F_law_small_by, g_law_small_by := PySem.W.mg_of X G h_law_small_by, b_law_small_by := b_law_small_by, a_law_cell_at := a_law_cell_at, fd_law_cell_at := _, F_law_cell_at := F_law_cell_at, g_law_cell_at := PySem.W.mg_of X G h_law_cell_at, b_law_cell_at := b_law_cell_at, a_law_mix := a_law_mix, fd_law_mix := _, F_law_mix := F_law_mix, g_law_mix := PySem.W.mg_of X G h_law_mix, b_law_mix := b_law_mix, a_law_steps_by := a_law_steps_by, fd_law_steps_by := _, F_law_steps_by := F_law_steps_by, g_law_steps_by := PySem.W.mg_of X G h_law_steps_by, b_law_steps_by := b_law_steps_by, a_law_fair_by := a_law_fair_by, fd_law_fair_by := _, F_law_fair_by := F_law_fair_by, g_law_fair_by := PySem.W.mg_of X G h_law_fair_by, b_law_fair_by := b_law_fair_by, a_look_stands := a_look_stands, fd_look_stands := _, F_look_stands := F_look_stands, g_look_stands := PySem.W.mg_of X G h_look_stands, b_look_stands := b_look_stands, a_is_mark := a_is_mark, fd_is_mark := _, F_is_mark := F_is_mark, g_is_mark := PySem.W.mg_of X G h_is_mark, b_is_mark := b_is_mark, a_look_machine := a_look_machine, fd_look_machine := _, F_look_machine := F_look_machine, g_look_machine := PySem.W.mg_of X G h_look_machine, b_look_machine := b_look_machine, a_Machine_init := a_Machine_init, fd_Machine_init := _, F_Machine_init := F_Machine_init, mk_Machine := ⟨mi_Machine, h_Machine_init, i_Machine_init, kc_Machine⟩, ds_Machine_init_3 := ds_Machine_init_3, b_Machine_init_3 := b_Machine_init_3, a_law_word_by := a_law_word_by, fd_law_word_by := _, F_law_word_by := F_law_word_by, g_law_word_by := PySem.W.mg_of X G h_law_word_by, b_law_word_by := b_law_word_by, a_law_set_by := a_law_set_by, fd_law_set_by := _, F_law_set_by := F_law_set_by, g_law_set_by := PySem.W.mg_of X G h_law_set_by, b_law_set_by := b_law_set_by, a_keyed := a_keyed, fd_keyed := _, F_keyed := F_keyed, g_keyed := PySem.W.mg_of X G h_keyed, b_keyed := b_keyed, a_Machine_next_of := a_Machine_next_of, fd_Machine_next_of := _, F_Machine_next_of := F_Machine_next_of, me_Machine_next_of := ⟨h_Machine_next_of, i_Machine_next_of, k_Machine_next_of⟩, b_Machine_next_of := b_Machine_next_of, a_touches := a_touches, fd_touches := _, F_touches := F_touches, g_touches := PySem.W.mg_of X G h_touches, b_touches := b_touches, a_shrinking := a_shrinking, fd_shrinking := _, F_shrinking := F_shrinking, g_shrinking := PySem.W.mg_of X G h_shrinking, b_shrinking := b_shrinking, a_Machine_fair_at := a_Machine_fair_at, fd_Machine_fair_at := _, F_Machine_fair_at := F_Machine_fair_at, me_Machine_fair_at := ⟨h_Machine_fair_at, i_Machine_fair_at, k_Machine_fair_at⟩, b_Machine_fair_at := b_Machine_fair_at, a_Machine_many := a_Machine_many, fd_Machine_many := _, F_Machine_many := F_Machine_many, me_Machine_many := ⟨h_Machine_many, i_Machine_many, k_Machine_many⟩, b_Machine_many := b_Machine_many, a_growing := a_growing, fd_growing := _, F_growing := F_growing, g_growing := PySem.W.mg_of X G h_growing, b_growing := b_growing, a_core := a_core, fd_core := _, F_core := F_core, g_core := PySem.W.mg_of X G h_core, b_core := b_core, a_reach := a_reach, fd_reach := _, F_reach := F_reach, g_reach := PySem.W.mg_of X G h_reach, b_reach := b_reach, a_missed_of := a_missed_of, fd_missed_of := _, F_missed_of := F_missed_of, g_missed_of := PySem.W.mg_of X G h_missed_of, b_missed_of := b_missed_of, a_ranks := a_ranks, fd_ranks := _, F_ranks := F_ranks, g_ranks := PySem.W.mg_of X G h_ranks, b_ranks := b_ranks, a_alive := a_alive, fd_alive := _, F_alive := F_alive, g_alive := PySem.W.mg_of X G h_alive, b_alive := b_alive, a_bottom_of := a_bottom_of, fd_bottom_of := _, F_bottom_of := F_bottom_of, g_bottom_of := PySem.W.mg_of X G h_bottom_of, b_bottom_of := b_bottom_of, a_distances := a_distances, fd_distances := _, F_distances := F_distances, g_distances := PySem.W.mg_of X G h_distances, b_distances := b_distances, a_short_walk := a_short_walk, fd_short_walk := _, F_short_walk := F_short_walk, g_short_walk := PySem.W.mg_of X G h_short_walk, b_short_walk := b_short_walk, a_loop_within := a_loop_within, fd_loop_within := _, F_loop_within := F_loop_within, g_loop_within := PySem.W.mg_of X G h_loop_within, b_loop_within := b_loop_within, a_lives := a_lives, fd_lives := _, F_lives := F_lives, g_lives := PySem.W.mg_of X G h_lives, b_lives := b_lives, a_law_whole := a_law_whole, fd_law_whole := _, F_law_whole := F_law_whole, g_law_whole := PySem.W.mg_of X G h_law_whole, b_law_whole := b_law_whole, a_law_walk := a_law_walk, fd_law_walk := _, F_law_walk := F_law_walk, g_law_walk := PySem.W.mg_of X G h_law_walk, b_law_walk := b_law_walk, a_law_loop := a_law_loop, fd_law_loop := _, F_law_loop := F_law_loop, g_law_loop := PySem.W.mg_of X G h_law_loop, b_law_loop := b_law_loop, a_law_is_rank := a_law_is_rank, fd_law_is_rank := _, F_law_is_rank := F_law_is_rank, g_law_is_rank := PySem.W.mg_of X G h_law_is_rank, b_law_is_rank := b_law_is_rank, a_law_falls := a_law_falls, fd_law_falls := _, F_law_falls := F_law_falls, g_law_falls := PySem.W.mg_of X G h_law_falls, b_law_falls := b_law_falls, a_law_ranked := a_law_ranked, fd_law_ranked := _, F_law_ranked := F_law_ranked, g_law_ranked := PySem.W.mg_of X G h_law_ranked, b_law_ranked := b_law_ranked, a_law_told := a_law_told, fd_law_told := _, F_law_told := F_law_told, g_law_told := PySem.W.mg_of X G h_law_told, b_law_told := b_law_told, a_law := _, fd_law := _, F_law := F_law, g_law := PySem.W.mg_of X G h_law, n_bool := PySem.W.mg_none_of X G z_bool, n_enumerate := PySem.W.mg_none_of X G z_enumerate, n_int := PySem.W.mg_none_of X G z_int, n_isinstance := PySem.W.mg_none_of X G z_isinstance, n_len := PySem.W.mg_none_of X G z_len, n_list := PySem.W.mg_none_of X G z_list, n_max := PySem.W.mg_none_of X G z_max, n_min := PySem.W.mg_none_of X G z_min, n_range := PySem.W.mg_none_of X G z_range, n_sorted := PySem.W.mg_none_of X G z_sorted, n_str := PySem.W.mg_none_of X G z_str, n_tuple := PySem.W.mg_none_of X G z_tuple, v_KEPT := (.ref T_KEPT), u_KEPT := _, m_KEPT := PySem.W.mg_of X G h_KEPT, r_KEPT := rfl, t_KEPT := t_KEPT, v_LETTERS := (.str "abcdefghijklmnopqrstuvwxyz"), u_LETTERS := _, m_LETTERS := PySem.W.mg_of X G h_LETTERS, r_LETTERS := ⟨_, rfl⟩, t_LETTERS := (fun _ _ => .lf rfl fun _ z => z), v_LONGEST := (.int 8), u_LONGEST := _, m_LONGEST := PySem.W.mg_of X G h_LONGEST, r_LONGEST := ⟨_, rfl⟩, t_LONGEST := (fun _ _ => .lf rfl fun _ z => z), v_MOST_STANDS := (.int 60), u_MOST_STANDS := _, m_MOST_STANDS := PySem.W.mg_of X G h_MOST_STANDS, r_MOST_STANDS := ⟨_, rfl⟩, t_MOST_STANDS := (fun _ _ => .lf rfl fun _ z => z) }
  exact ⟨_, fun s v => .of_eq rfl, fun base _ _ => (ok_law E).imp (law_imp hf)⟩
end Wk


set_option Elab.async false
set_option linter.all false
set_option maxRecDepth 100000
set_option maxHeartbeats 4000000
/-! PM: machines looked at and made. -/
namespace Pm
open PySem PySem.Spec PyProof.Rows L2 Tr Wk

theorem new_at {r : List Int} (h : r.Nodup) {i : Nat} (hi : i < r.length) : r[i] ∉ r.take i := fun hm => by
  obtain ⟨j, hj, e⟩ := List.getElem_of_mem hm
  have hj' : j < i := by
    have := hj
    rw [List.length_take] at this
    omega
  rw [List.getElem_take] at e
  have := (List.getElem_inj h).mp e
  omega
theorem look_stands_ok (r : List Int) (n : Nat) (h : Okl n r) : m_look_stands [li false r, I n] = some (N, [.no, I n]) := by
  obtain ⟨env', h1, h2⟩ := dFr_inv (dg := gN 3) (d := (dSeq (dIf (dOr (o1 oNot (vr (o1V (oIsi "int") (gV 3)))) (vr (o1V (oIsi "bool") (gV 3)))) dFail dNx) (dSeq (dIf (dOr (vr (o2V oLt (gV 3) (gC (.int 0)))) (dOr (vr (o2V oGe (gV 3) (gV 1))) (vr (o2V oIn (gV 3) (gV 2))))) dFail dNx) (dPut 2 mSetD (re (vr (gC (.bl true)))) (gV 3)))))
    (r.map lfI) (fun i env => ∃ x3, env = [.no, I n, dk true (kI (r.take i)), x3]) [.no, I n, dk true (kI []), .no] ⟨.no, rfl⟩ (by
      rintro i t env ht ⟨x3, rfl⟩
      obtain ⟨hi, rfl⟩ := li_get ht
      have hx := h.bd r[i] (List.getElem_mem hi)
      refine ⟨[.no, I n, dk true (kI (r.take i)), I r[i]], [.no, I n, dk true (kI (r.take (i + 1))), I r[i]], rfl, .inl ?_, _, rfl⟩
      have t1 : dOr (o1 oNot (vr (o1V (oIsi "int") (gV 3)))) (vr (o1V (oIsi "bool") (gV 3))) [.no, I n, dk true (kI (r.take i)), I r[i]] = some (B false, [.no, I n, dk true (kI (r.take i)), I r[i]]) := by
        rw [E_orF (E_1 (E_vr (E_1V rfl (isi_int _))) (oNot_b _))]
        exact E_vr (E_1V rfl (isi_bool _))
      rw [E_seq ((E_ifF t1).trans rfl)]
      have t2 : dOr (vr (o2V oLt (gV 3) (gC (.int 0)))) (dOr (vr (o2V oGe (gV 3) (gV 1))) (vr (o2V oIn (gV 3) (gV 2)))) [.no, I n, dk true (kI (r.take i)), I r[i]] = some (B false, [.no, I n, dk true (kI (r.take i)), I r[i]]) := by
        have l1 : oLt (I r[i]) (I 0) = some (B false) := by rw [I_lt, decide_eq_false (by omega)]
        have l2 : oGe (I r[i]) (I n) = some (B false) := by rw [I_ge, decide_eq_false (by omega)]
        have l3 : oIn (I r[i]) (dk true (kI (r.take i))) = some (B false) := by rw [dkI_in, decide_eq_false (new_at h.nd hi)]
        rw [E_orF (E_vr (E_2V rfl rfl l1)), E_orF (E_vr (E_2V rfl rfl l2))]
        exact E_vr (E_2V rfl rfl l3)
      rw [E_seq ((E_ifF t2).trans rfl)]
      have k : mSetD (.int r[i]) (dk true (kI (r.take i))) [B true] = some (N, dk true (kI (r.take (i + 1)))) := by
        have nd : (r.take i).Nodup := h.nd.sublist (List.take_sublist _ _)
        have hl : (r.take i).length < sizeLine := small (by have := h.le; simp; omega)
        rw [dkI_put _ _ nd (new_at h.nd hi) hl, List.take_succ_eq_append_getElem hi]
      exact E_put (E_re (E_vr rfl) (cln_lf _)) rfl rfl k rfl)
  obtain ⟨x3, rfl⟩ := h2
  have b : b_look_stands [li false r, I n, .no, .no] = some (.nx, [.no, I n, dk true (kI (r.take (r.map lfI).length)), x3]) := by
    unfold b_look_stands
    rw [E_seq (E_set (i := 2) (d := dDic) rfl (by simp) rfl)]
    exact (E_for (E_it (E_M (t := li false r) rfl rfl) (items_li _ _))).trans h1
  exact E_fun0 rfl b rfl
/-- marks that a machine may have -/
structure Mks (n : Nat) (ms : List (Str × List Int)) : Prop where
  ok : ∀ m ∈ ms, m_is_mark [.lf (.str m.1)] = some (B true, [.lf (.str m.1)])
  nd : (ms.map (·.1)).Nodup
  okl : ∀ m ∈ ms, Okl n m.2
  le : ms.length ≤ 60
/-- the steps of a machine, the fair sets -/
structure Stps (n : Nat) (rs : List (List Int)) : Prop where
  len : rs.length = n
  pos : 0 < n
  le : n ≤ 60
  okl : ∀ r ∈ rs, Okl n r
  ne : ∀ r ∈ rs, r ≠ []
structure Frs (n : Nat) (fs : List (List Int)) : Prop where
  okl : ∀ r ∈ fs, Okl n r
  le : fs.length ≤ 60
abbrev kS (xs : List Str) : List Key := xs.map Sum.inr
theorem kS_mem {x : Str} {xs : List Str} : (Sum.inr x : Key) ∈ kS xs ↔ x ∈ xs := by
  constructor
  · intro h
    obtain ⟨y, h1, h2⟩ := List.mem_map.mp h
    cases h2
    exact h1
  · exact fun h => List.mem_map.mpr ⟨x, h, rfl⟩
theorem new_atS {r : List Str} (h : r.Nodup) {i : Nat} (hi : i < r.length) : r[i] ∉ r.take i := fun hm => by
  obtain ⟨j, hj, e⟩ := List.getElem_of_mem hm
  have hj' : j < i := by
    have := hj
    rw [List.length_take] at this
    omega
  rw [List.getElem_take] at e
  have := (List.getElem_inj h).mp e
  omega
theorem look_machine_ok {n : Nat} (rs fs : List (List Int)) (ms : List (Str × List Int)) (hr : Stps n rs) (hm : Mks n ms) (hf : Frs n fs) :
    m_look_machine [ll false rs, mks false ms, ll false fs] = some (N, [.no, .no, .no]) := by
  have b : ∃ e, b_look_machine [ll false rs, mks false ms, ll false fs, .no, .no, .no, .no] = some (.nx, e) ∧ outs [true, true, true] e = [.no, .no, .no] := by
    unfold b_look_machine
    have hlen : oLen (ll false rs) = some (I n) := by rw [oLen_ll, hr.len]
    rw [E_seq (E_set (i := 3) (E_re (E_vr (E_1V rfl hlen)) (cln_lf _)) (by simp) rfl)]
    have t1 : dOr (vr (o2V oLt (gV 3) (gC (.int 1)))) (vr (o2V oGt (gV 3) (gG k_MOST_STANDS))) [ll false rs, mks false ms, ll false fs, I n, .no, .no, .no] = some (B false, [ll false rs, mks false ms, ll false fs, I n, .no, .no, .no]) := by
      have l1 : oLt (I n) (I 1) = some (B false) := by rw [I_lt, decide_eq_false (by have := hr.pos; omega)]
      have l2 : oGt (I n) k_MOST_STANDS = some (B false) := by
        show oGt (I n) (I 60) = _
        rw [I_gt, decide_eq_false (by have := hr.le; omega)]
      rw [E_orF (E_vr (E_2V rfl rfl l1))]
      exact E_vr (E_2V rfl rfl l2)
    show ∃ e, dSeq _ _ [ll false rs, mks false ms, ll false fs, I n, .no, .no, .no] = _ ∧ _
    rw [E_seq ((E_ifF t1).trans rfl)]
    obtain ⟨env', h1, h2⟩ := dFr_inv (dg := gN 4) (d := (dSeq (dEx (dCall m_look_stands [none, none] [] (aCons (gS 4) (aCons (gS 3) aNil)))) (dIf (vr (o2V oEq (o1V oLen (gV 4)) (gC (.int 0)))) dFail dNx)))
      (rs.map (li false)) (fun i env => ∃ x4, env = [.no, mks false ms, ll false fs, I n, x4, .no, .no]) [.no, mks false ms, ll false fs, I n, .no, .no, .no] ⟨.no, rfl⟩ (by
        rintro i t env ht ⟨x4, rfl⟩
        obtain ⟨hi, rfl⟩ := ll_get ht
        have hr' := hr.okl rs[i] (List.getElem_mem hi)
        refine ⟨[.no, mks false ms, ll false fs, I n, li false rs[i], .no, .no], [.no, mks false ms, ll false fs, I n, li false rs[i], .no, .no], rfl, .inl ?_, _, rfl⟩
        rw [E_seq (E_ex (E_call (E_cons (E_S rfl (frz_li _ _) rfl) (E_cons (E_S rfl (frz_lf _) rfl) rfl)) (look_stands_ok _ _ hr') rfl))]
        have l : oEq (I rs[i].length) (I 0) = some (B false) := by
          rw [oEq_int, decide_eq_false]
          intro e
          exact hr.ne rs[i] (List.getElem_mem hi) (List.length_eq_zero_iff.mp (by omega))
        exact (E_ifF (E_vr (E_2V (E_1V rfl (oLen_li _ _)) rfl l))).trans rfl)
    obtain ⟨x4, rfl⟩ := h2
    rw [E_seq ((E_for (E_it (E_M (t := ll false rs) rfl rfl) (items_ll _ _))).trans h1)]
    rw [E_seq (E_set (i := 5) (d := dDic) rfl (by simp) rfl)]
    -- the marks
    let nm : List Str := ms.map (·.1)
    have hnm : ∀ (i : Nat) (hi : i < ms.length), nm[i]? = some ms[i].1 := fun i hi => by simp [nm, hi]
    have mloop : ∀ x4 : T, ∃ x4' x6', dFr (gT2 (gN 6) (gN 4)) (dSeq (dIf (dOr (o1 oNot (bw (dCall m_is_mark [none] [] (aCons (gS 6) aNil)))) (vr (o2V oIn (gV 6) (gV 5)))) dFail dNx) (dSeq (dPut 5 mSetD (re (vr (gC (.bl true)))) (gV 6)) (dEx (dCall m_look_stands [none, none] [] (aCons (gM 4) (aCons (gS 3) aNil))))))
        (ms.map (mk1 false)) [.no, .no, ll false fs, I n, x4, dk true [], .no] = some (.nx, [.no, .no, ll false fs, I n, x4', dk true (kS nm), x6']) := fun x4 => by
      obtain ⟨env', g1, x4', x6', rfl⟩ := dFr_inv (dg := gT2 (gN 6) (gN 4)) (d := (dSeq (dIf (dOr (o1 oNot (bw (dCall m_is_mark [none] [] (aCons (gS 6) aNil)))) (vr (o2V oIn (gV 6) (gV 5)))) dFail dNx) (dSeq (dPut 5 mSetD (re (vr (gC (.bl true)))) (gV 6)) (dEx (dCall m_look_stands [none, none] [] (aCons (gM 4) (aCons (gS 3) aNil))))))) (ms.map (mk1 false)) (fun i env => ∃ x4 x6, env = [.no, .no, ll false fs, I n, x4, dk true (kS (nm.take i)), x6])
        [.no, .no, ll false fs, I n, x4, dk true (kS (nm.take 0)), .no] ⟨_, _, rfl⟩ (by
          rintro i t env ht ⟨x4, x6, rfl⟩
          obtain ⟨hi, rfl⟩ := mks_get ht
          have hi' : i < nm.length := by simpa [nm] using hi
          have ei : nm[i] = ms[i].1 := by simp [nm]
          have hx := new_atS hm.nd hi'
          refine ⟨[.no, .no, ll false fs, I n, li false ms[i].2, dk true (kS (nm.take i)), .lf (.str ms[i].1)], [.no, .no, ll false fs, I n, .no, dk true (kS (nm.take (i + 1))), .lf (.str ms[i].1)], rfl, .inl ?_, _, _, rfl⟩
          have t1 : dOr (o1 oNot (bw (dCall m_is_mark [none] [] (aCons (gS 6) aNil)))) (vr (o2V oIn (gV 6) (gV 5))) [.no, .no, ll false fs, I n, li false ms[i].2, dk true (kS (nm.take i)), .lf (.str ms[i].1)] = some (B false, [.no, .no, ll false fs, I n, li false ms[i].2, dk true (kS (nm.take i)), .lf (.str ms[i].1)]) := by
            have c : dCall m_is_mark [none] [] (aCons (gS 6) aNil) (frzs [.no, .no, ll false fs, I n, li false ms[i].2, dk true (kS (nm.take i)), .lf (.str ms[i].1)]) = some (B true, _) :=
              E_call (E_cons (E_S (t := .lf (.str ms[i].1)) rfl (frz_lf _) rfl) rfl) (hm.ok ms[i] (List.getElem_mem hi)) rfl
            rw [E_orF (E_1 (E_bw c (pure_lf _)) (oNot_b _))]
            have l3 : oIn (.lf (.str ms[i].1)) (dk true (kS (nm.take i))) = some (B false) := by
              rw [dk_in true _ (Sum.inr ms[i].1) rfl]
              have : hasK (kS (nm.take i)) (Sum.inr ms[i].1) = false := by
                cases e : hasK (kS (nm.take i)) (Sum.inr ms[i].1) with
                | false => rfl
                | true => rw [hasK_iff, kS_mem, ← ei] at e; exact (hx e).elim
              rw [this]
            exact E_vr (E_2V rfl rfl l3)
          rw [E_seq ((E_ifF t1).trans rfl)]
          have k : mSetD (.str ms[i].1) (dk true (kS (nm.take i))) [B true] = some (N, dk true (kS (nm.take (i + 1)))) := by
            have nd : (kS (nm.take i)).Nodup := List.pairwise_map.mpr ((hm.nd.sublist (List.take_sublist _ _)).imp fun h e => h (Sum.inr.inj e))
            have hl : (kS (nm.take i)).length < sizeLine := small (by have := hm.le; simp [nm]; omega)
            rw [dk_put _ (Sum.inr ms[i].1) rfl nd (by rw [kS_mem, ← ei]; exact hx) hl, List.take_succ_eq_append_getElem hi', ei]
            simp [kS]
          rw [E_seq (E_put (E_re (E_vr rfl) (cln_lf _)) rfl rfl k rfl)]
          exact E_ex (E_call (E_cons (E_M (t := li false ms[i].2) rfl rfl) (E_cons (E_S (t := I n) rfl (frz_lf _) rfl) rfl)) (look_stands_ok _ _ (hm.okl ms[i] (List.getElem_mem hi))) rfl))
      refine ⟨x4', x6', ?_⟩
      rw [show nm.take (ms.map (mk1 false)).length = nm from List.take_of_length_le (by simp [nm])] at g1
      exact g1
    obtain ⟨x4', x6', g1⟩ := mloop x4
    rw [E_seq ((E_for (E_it (E_M (t := mks false ms) rfl rfl) (items_mks _ _))).trans g1)]
    obtain ⟨env'', k1, x4'', rfl⟩ := dFr_inv (dg := gN 4) (d := dEx (dCall m_look_stands [none, none] [] (aCons (gM 4) (aCons (gS 3) aNil)))) (fs.map (li false)) (fun i env => ∃ x4, env = [.no, .no, .no, I n, x4, dk true (kS nm), x6'])
      [.no, .no, .no, I n, x4', dk true (kS nm), x6'] ⟨_, rfl⟩ (by
        rintro i t env ht ⟨x4, rfl⟩
        obtain ⟨hi, rfl⟩ := ll_get ht
        refine ⟨[.no, .no, .no, I n, li false fs[i], dk true (kS nm), x6'], [.no, .no, .no, I n, .no, dk true (kS nm), x6'], rfl, .inl ?_, _, rfl⟩
        exact E_ex (E_call (E_cons (E_M (t := li false fs[i]) rfl rfl) (E_cons (E_S (t := I n) rfl (frz_lf _) rfl) rfl)) (look_stands_ok _ _ (hf.okl fs[i] (List.getElem_mem hi))) rfl))
    exact ⟨_, (E_for (E_it (E_M (t := ll false fs) rfl rfl) (items_ll _ _))).trans k1, rfl⟩
  obtain ⟨e, h1, h2⟩ := b
  exact E_fun0 rfl h1 h2
/-- a machine is made -/
theorem init_ok {n : Nat} (rs fs : List (List Int)) (ms : List (Str × List Int)) (hr : Stps n rs) (hm : Mks n ms) (hf : Frs n fs) (M Fa : T) (hM : (M = N ∧ ms = []) ∨ M = mks true ms) (hF : (Fa = N ∧ fs = []) ∨ Fa = ll true fs) :
    m_Machine_init [.nd true (.ins "Machine" []) [], ll true rs, M, Fa] = some (N, [mch true rs ms fs, .no, .no, .no]) := by
  have s1 : ∀ X Y Z : T, dIf (vr (o2V oIsN (gV 2) (gC .non))) (dSet 2 (dLst aNil)) dNx [X, Y, M, Z, .no, .no] = some (.nx, [X, Y, mks true ms, Z, .no, .no]) := fun X Y Z => by
    rcases hM with ⟨rfl, rfl⟩ | rfl
    · exact (E_ifT (E_vr (E_2V rfl rfl rfl))).trans (E_set (E_lst (ts := []) rfl (Nat.zero_le _)) (by simp) rfl)
    · exact (E_ifF (E_vr (E_2V rfl rfl rfl))).trans rfl
  have s2 : ∀ X Y Z : T, dIf (vr (o2V oIsN (gV 3) (gC .non))) (dSet 3 (dLst aNil)) dNx [X, Y, Z, Fa, .no, .no] = some (.nx, [X, Y, Z, ll true fs, .no, .no]) := fun X Y Z => by
    rcases hF with ⟨rfl, rfl⟩ | rfl
    · exact (E_ifT (E_vr (E_2V rfl rfl rfl))).trans (E_set (E_lst (ts := []) rfl (Nat.zero_le _)) (by simp) rfl)
    · exact (E_ifF (E_vr (E_2V rfl rfl rfl))).trans rfl
  have b : b_Machine_init [.nd true (.ins "Machine" []) [], ll true rs, M, Fa, .no, .no] = some (.nx, [mch true rs ms fs, .no, .no, .no, .no, .no]) := by
    unfold b_Machine_init
    rw [E_seq (s1 _ _ _), E_seq (s2 _ _ _)]
    rw [E_seq (E_ex (E_call (E_cons (E_S (t := ll true rs) rfl (frz_ll _ _) rfl) (E_cons (E_S (t := mks true ms) rfl (frz_mks _ _) rfl) (E_cons (E_S (t := ll true fs) rfl (frz_ll _ _) rfl) rfl))) (look_machine_ok rs fs ms hr hm hf) rfl))]
    have c1 : dLc (dIt itemsL (gM 1)) (gN 4) dYes (o1 oList (vr (gV 4))) [4] [.nd true (.ins "Machine" []) [], ll false rs, mks false ms, ll false fs, .no, .no] = some (ll true rs, [.nd true (.ins "Machine" []) [], .no, mks false ms, ll false fs, .no, .no]) :=
      E_lc (E_it (E_M (t := ll false rs) rfl rfl) (items_ll _ _)) rfl (copies [.nd true (.ins "Machine" []) [], .no, mks false ms, ll false fs, .no, .no] 4 rfl rs (by rw [hr.len]; have := hr.le; omega)) rfl rfl
    have p1 : mFld "Machine" "steps" (.nd true (.ins "Machine" []) []) [ll true rs] = some (N, .nd true (.ins "Machine" ["steps"]) [ll true rs]) := by simp [mFld, putFT]
    show dSeq _ _ [.nd true (.ins "Machine" []) [], ll false rs, mks false ms, ll false fs, .no, .no] = _
    rw [E_seq (E_put (mk := fun _ => mFld "Machine" "steps") (k := .non) c1 rfl rfl p1 rfl)]
    have c2 : ∀ X : T, dLc (dIt itemsL (gM 2)) (gN 5) dYes (dTup (aCons (re (vr (o2V oIx (gV 5) (gC (.int 0))))) (aCons (o1 oList (vr (o2V oIx (gV 5) (gC (.int 1))))) aNil))) [5] [X, .no, mks false ms, ll false fs, .no, .no] = some (mks true ms, [X, .no, .no, ll false fs, .no, .no]) := fun X => by
      refine E_lc (E_it (E_M (t := mks false ms) rfl rfl) (items_mks _ _)) rfl (e2 := [X, .no, .no, ll false fs, .no, .no]) (acc := ms.map (mk1 true)) ?_ rfl rfl
      have r := dLr_run (dg := gN 5) (dc := dYes) (de := dTup (aCons (re (vr (o2V oIx (gV 5) (gC (.int 0))))) (aCons (o1 oList (vr (o2V oIx (gV 5) (gC (.int 1))))) aNil))) (vs := [5]) [X, .no, .no, ll false fs, .no, .no] (fun _ => true)
        (fun t => match t with | .nd _ _ [a, .nd _ kk xs] => .nd false .tup [a, .nd true kk xs] | t => t) (ms.map (mk1 false)) [] (by have := small (n := ms.length) (by have := hm.le; omega); simp; omega) (by
          intro t ht
          obtain ⟨m, hmm, rfl⟩ := List.mem_map.mp ht
          refine ⟨[X, .no, .no, ll false fs, .no, mk1 false m], [X, .no, .no, ll false fs, .no, mk1 false m], rfl, rfl, fun _ => ⟨[X, .no, .no, ll false fs, .no, mk1 false m], ?_, rfl⟩, fun h => by cases h⟩
          have l0 : oIx (mk1 false m) (I 0) = some (.lf (.str m.1)) := rfl
          have l1 : oIx (mk1 false m) (I 1) = some (li false m.2) := rfl
          exact E_tup (E_cons (E_re (E_vr (E_2V rfl rfl l0)) (cln_lf _)) (E_cons (E_1 (E_vr (E_2V rfl rfl l1)) (oList_li _ _)) rfl)) (Nat.le_of_lt (small (n := 2) (by omega))))
      refine Eq.trans r ?_
      congr 2
      rw [List.nil_append, List.filter_eq_self.mpr (fun _ _ => rfl), List.map_map]
      rfl
    have p2 : mFld "Machine" "marks" (.nd true (.ins "Machine" ["steps"]) [ll true rs]) [mks true ms] = some (N, .nd true (.ins "Machine" ["steps", "marks"]) [ll true rs, mks true ms]) := by
      simp [mFld, putFT, n_sm]
    show dSeq _ _ [.nd true (.ins "Machine" ["steps"]) [ll true rs], .no, mks false ms, ll false fs, .no, .no] = _
    rw [E_seq (E_put (mk := fun _ => mFld "Machine" "marks") (k := .non) (c2 _) rfl rfl p2 rfl)]
    have c3 : ∀ X : T, dLc (dIt itemsL (gM 3)) (gN 4) dYes (o1 oList (vr (gV 4))) [4] [X, .no, .no, ll false fs, .no, .no] = some (ll true fs, [X, .no, .no, .no, .no, .no]) := fun X =>
      E_lc (E_it (E_M (t := ll false fs) rfl rfl) (items_ll _ _)) rfl (copies [X, .no, .no, .no, .no, .no] 4 rfl fs (by have := hf.le; omega)) rfl rfl
    have p3 : mFld "Machine" "fair" (.nd true (.ins "Machine" ["steps", "marks"]) [ll true rs, mks true ms]) [ll true fs] = some (N, mch true rs ms fs) := by
      simp [mFld, putFT, mch, n_sf, n_mf]
    exact E_put (mk := fun _ => mFld "Machine" "fair") (k := .non) (c3 _) rfl rfl p3 rfl
  exact E_fun0 rfl b rfl
theorem no_marks (n : Nat) : Mks n [] := ⟨(fun _ h => by cases h), List.nodup_nil, (fun _ h => by cases h), Nat.zero_le _⟩
theorem no_fairs (n : Nat) : Frs n [] := ⟨(fun _ h => by cases h), Nat.zero_le _⟩
theorem row_len {n : Nat} {rs : List (List Int)} (hrs : Stps n rs) {x : Int} (h : 0 ≤ x ∧ x < n) : (rs.getD x.toNat []).length ≤ 60 ∧ x.toNat < rs.length := by
  have hl : x.toNat < rs.length := by rw [hrs.len]; omega
  have e : rs.getD x.toNat [] = rs[x.toNat] := by simp [hl]
  rw [e]; exact ⟨(hrs.okl _ (List.getElem_mem hl)).le, hl⟩
end Pm


set_option Elab.async false
set_option linter.all false
set_option maxRecDepth 100000
set_option maxHeartbeats 4000000
namespace Pm
open PySem PySem.Spec PyProof.Rows L2 Tr Wk
theorem keyed_ok (xs : List Int) (nd : xs.Nodup) (hl : xs.length ≤ 1000) : m_keyed [li false xs] = some (dk true (kI xs), [.no]) := by
  obtain ⟨env', h1, x2, rfl⟩ := dFr_inv (dg := gN 2) (d := dPut 1 mSetD (re (vr (gC (.bl true)))) (gV 2)) (xs.map lfI) (fun i env => ∃ x2, env = [.no, dk true (kI (xs.take i)), x2]) [.no, dk true (kI []), .no] ⟨_, rfl⟩ (by
    rintro i t env ht ⟨x2, rfl⟩
    obtain ⟨hi, rfl⟩ := li_get ht
    refine ⟨[.no, dk true (kI (xs.take i)), I xs[i]], [.no, dk true (kI (xs.take (i + 1))), I xs[i]], rfl, .inl ?_, _, rfl⟩
    have k : mSetD (.int xs[i]) (dk true (kI (xs.take i))) [B true] = some (N, dk true (kI (xs.take (i + 1)))) := by
      have hl : (xs.take i).length < sizeLine := small (by simp; omega)
      rw [dkI_put _ _ (nd.sublist (List.take_sublist _ _)) (new_at nd hi) hl, List.take_succ_eq_append_getElem hi]
    exact E_put (E_re (E_vr rfl) (cln_lf _)) rfl rfl k rfl)
  rw [show xs.take (xs.map lfI).length = xs from List.take_of_length_le (by simp)] at h1
  have b : b_keyed [li false xs, .no, .no] = some (.rt (dk true (kI xs)), [.no, .no, x2]) := by
    unfold b_keyed
    rw [E_seq (E_set (i := 1) (d := dDic) rfl (by simp) rfl)]
    refine (E_seq ((E_for (E_it (E_M (t := li false xs) rfl rfl) (items_li _ _))).trans h1)).trans ?_
    exact E_ret (E_M (t := dk true (kI xs)) rfl rfl)
  exact E_fun rfl b rfl
end Pm


set_option Elab.async false
set_option linter.all false
set_option maxRecDepth 100000
set_option maxHeartbeats 4000000
namespace Pm
open PySem PySem.Spec PyProof.Rows L2 Tr Wk
theorem next_of_ok (rs ms fs) (k : Nat) (h : k < rs.length) : m_Machine_next_of [mch false rs ms fs, I k] = some (li true (isort (rs.getD k [])), [mch false rs ms fs, I k]) :=
  E_fun (e := [mch false rs ms fs, I k]) rfl (E_ret (E_1 (E_vr (E_2V (E_1V rfl (fld_steps _ _ _ _)) rfl (ix_at rs false k h))) (oSorted_li _ _))) rfl
end Pm


set_option Elab.async false
set_option linter.all false
set_option maxRecDepth 100000
set_option maxHeartbeats 4000000
/-! PR: keys, steps, touches. -/
namespace Pm
open PySem PySem.Spec PyProof.Rows L2 Tr Wk

theorem touches_ok (rs ms fs) (k : Nat) (h : k < rs.length) (s : List Int) : m_touches [mch false rs ms fs, I k, dk false (kI s)] = some (B (tch rs s k), [.no, .no, dk false (kI s)]) := by
  let q : T → Bool := fun t => match t with | .lf (.int o) => decide (o ∈ s) | _ => false
  obtain ⟨e, ⟨x3, rfl⟩, h1⟩ := dFr_find (dg := gN 3) (d := dIf (vr (o2V oIn (gV 3) (gV 2))) (dRet (re (vr (gC (.bl true))))) dNx) (fun env => ∃ x3, env = [.no, .no, dk false (kI s), x3]) q (B true) ((isort (rs.getD k [])).map lfI) [.no, .no, dk false (kI s), .no] ⟨_, rfl⟩ (by
    rintro t ht env ⟨x3, rfl⟩
    obtain ⟨o, ho, rfl⟩ := List.mem_map.mp ht
    refine ⟨[.no, .no, dk false (kI s), I o], [.no, .no, dk false (kI s), I o], rfl, ?_, _, rfl⟩
    have t1 : vr (o2V oIn (gV 3) (gV 2)) [.no, .no, dk false (kI s), I o] = some (B (decide (o ∈ s)), [.no, .no, dk false (kI s), I o]) := E_vr (E_2V rfl rfl (dkI_in _ _ _))
    show _ = some (if decide (o ∈ s) = true then _ else _, _)
    by_cases hs : o ∈ s
    · rw [decide_eq_true hs] at t1 ⊢
      exact (E_ifT t1).trans (E_ret (E_re (E_vr rfl) (cln_lf _)))
    · rw [decide_eq_false hs] at t1 ⊢
      exact (E_ifF t1).trans rfl)
  have ea : ((isort (rs.getD k [])).map lfI).any q = tch rs s k := by
    rw [List.any_map]
    exact isort_any _ _
  rw [ea] at h1
  have it : dIt itemsL (dMeth "Machine" "next_of" m_Machine_next_of none [none] [] (gM 0) (aCons (gM 1) aNil)) [mch false rs ms fs, I k, dk false (kI s), .no] = some ((isort (rs.getD k [])).map lfI, [.no, .no, dk false (kI s), .no]) :=
    E_it (E_meth (E_M (t := mch false rs ms fs) rfl rfl) (isIns_mch _ _ _ _ nbn) (E_cons (E_M (t := I k) rfl rfl) rfl) (next_of_ok rs ms fs k h) rfl) (items_li _ _)
  cases hc : tch rs s k with
  | true =>
    rw [hc] at h1
    exact E_fun (e := [.no, .no, dk false (kI s), x3]) rfl (E_seqR ((E_for it).trans h1)) rfl
  | false =>
    rw [hc] at h1
    exact E_fun (e := [.no, .no, dk false (kI s), x3]) rfl ((E_seq ((E_for it).trans h1)).trans (E_ret (E_re (E_vr rfl) (cln_lf _)))) rfl
end Pm


set_option Elab.async false
set_option linter.all false
set_option maxRecDepth 100000
set_option maxHeartbeats 4000000
/-! PS: shrinking. -/
namespace Pm
open PySem PySem.Spec PyProof.Rows L2 Tr Wk

/-- those that step to one of these -/
def nxt (rs : List (List Int)) (s : List Int) : List Int := s.filter fun x => tch rs s x
def shr (rs : List (List Int)) : Nat → List Int → List (List Int)
  | 0, s => [s]
  | n + 1, s => if (nxt rs s).length = s.length then [s] else s :: shr rs n (nxt rs s)
theorem shr_succ (rs : List (List Int)) (n : Nat) (s : List Int) : shr rs (n + 1) s = if (nxt rs s).length = s.length then [s] else s :: shr rs n (nxt rs s) := by rw [shr]
theorem nxt_le (rs : List (List Int)) (s : List Int) : (nxt rs s).length ≤ s.length := List.length_filter_le _ _
theorem shr_len (rs : List (List Int)) : ∀ (n : Nat) (s : List Int), (shr rs n s).length ≤ n + 1
  | 0, s => by simp [shr]
  | n + 1, s => by
    unfold shr
    split
    · simp
    · have := shr_len rs n (nxt rs s)
      simp; omega
/-- one look at a set -/
theorem fewer_ok (rs ms fs) (w s : List Int) (pre : List (List Int)) (X4 : T) (bd : ∀ x ∈ s, 0 ≤ x ∧ x < rs.length) (hl : s.length ≤ 1000) :
    bw (dLc (dIt itemsL (re (vr (o2V oIx (gV 2) (o1V oNeg (gC (.int 1))))))) (gN 5) (bw (dCall m_touches [none, none, none] [] (aCons (gS 0) (aCons (gS 5) (aCons (gS 3) aNil))))) (gM 5) [5]) [mch false rs ms fs, li false w, ll true (pre ++ [s]), dk true (kI s), X4, .no]
      = some (li true (nxt rs s), [mch false rs ms fs, li false w, ll true (pre ++ [s]), dk true (kI s), X4, .no]) := by
  let E : List T := [mch false rs ms fs, li false w, ll false (pre ++ [s]), dk false (kI s), frz X4, .no]
  have fe : frzs [mch false rs ms fs, li false w, ll true (pre ++ [s]), dk true (kI s), X4, .no] = E := by simp only [frzs, frz_mch, frz_li, frz_ll, frz_dk, frz_no, E]
  refine E_bw (e := E) ?_ (pure_li _)
  rw [fe]
  have l0 : oIx (ll false (pre ++ [s])) (I (-1)) = some (li false s) := ix_last _ _ _
  have it : dIt itemsL (re (vr (o2V oIx (gV 2) (o1V oNeg (gC (.int 1)))))) E = some (s.map lfI, E) :=
    E_it (E_re (E_vr (E_2V rfl (E_1V rfl (I_neg 1)) l0)) (cln_li _)) (items_li _ _)
  let q : T → Bool := fun t => match t with | .lf (.int o) => tch rs s o | _ => false
  have r := dLr_run (dg := gN 5) (dc := bw (dCall m_touches [none, none, none] [] (aCons (gS 0) (aCons (gS 5) (aCons (gS 3) aNil))))) (de := gM 5) (vs := [5]) E q (fun t => t) (s.map lfI) [] (by have := small (n := s.length) (by omega); simp; omega) (by
    intro t ht
    obtain ⟨x, hx, rfl⟩ := List.mem_map.mp ht
    have hb := bd x hx
    let E5 : List T := [mch false rs ms fs, li false w, ll false (pre ++ [s]), dk false (kI s), frz X4, I x]
    have fe5 : frzs E5 = E5 := by simp only [E5, frzs, frz_mch, frz_li, frz_ll, frz_dk, frz_lf, frz_cln _ (cln_frz X4)]
    have ht : m_touches [mch false rs ms fs, I x, dk false (kI s)] = some (B (tch rs s x), [.no, .no, dk false (kI s)]) := by
      have := touches_ok rs ms fs x.toNat (by omega) s
      rw [show ((x.toNat : Nat) : Int) = x by omega] at this
      exact this
    have c : dCall m_touches [none, none, none] [] (aCons (gS 0) (aCons (gS 5) (aCons (gS 3) aNil))) (frzs E5) = some (B (tch rs s x), E5) := by
      rw [fe5]
      exact E_call (E_cons (E_S (t := mch false rs ms fs) rfl (frz_mch _ _ _ _) rfl) (E_cons (E_S (t := I x) rfl (frz_lf _) rfl) (E_cons (E_S (t := dk false (kI s)) rfl (frz_dk _ _) rfl) rfl))) ht rfl
    exact ⟨E5, E5, rfl, E_bw c (pure_lf _), fun _ => ⟨E, rfl, rfl⟩, fun _ => rfl⟩)
  have ea : [] ++ ((s.map lfI).filter q).map (fun t => t) = (nxt rs s).map lfI := by
    rw [List.nil_append, List.map_id', List.filter_map]
    rfl
  rw [ea] at r
  exact E_lc it rfl r rfl rfl
theorem keyed_last (rs ms fs) (w s : List Int) (pre : List (List Int)) (X3 X4 : T) (nd : s.Nodup) (hl : s.length ≤ 1000) :
    bw (dCall m_keyed [none] [] (aCons (re (vr (o2V oIx (gV 2) (o1V oNeg (gC (.int 1)))))) aNil)) [mch false rs ms fs, li false w, ll true (pre ++ [s]), X3, X4, .no] = some (dk true (kI s), [mch false rs ms fs, li false w, ll true (pre ++ [s]), X3, X4, .no]) := by
  let E : List T := [mch false rs ms fs, li false w, ll false (pre ++ [s]), frz X3, frz X4, .no]
  have fe : frzs [mch false rs ms fs, li false w, ll true (pre ++ [s]), X3, X4, .no] = E := by simp only [frzs, frz_mch, frz_li, frz_ll, frz_no, E]
  refine E_bw (e := E) ?_ (pure_dk _)
  rw [fe]
  have l0 : oIx (ll false (pre ++ [s])) (I (-1)) = some (li false s) := ix_last _ _ _
  exact E_call (E_cons (E_re (E_vr (E_2V rfl (E_1V rfl (I_neg 1)) l0)) (cln_li _)) rfl) (keyed_ok s nd hl) rfl
abbrev shrBody : DS := (dSeq (dSet 3 (bw (dCall m_keyed [none] [] (aCons (re (vr (o2V oIx (gV 2) (o1V oNeg (gC (.int 1)))))) aNil)))) (dSeq (dSet 4 (bw (dLc (dIt itemsL (re (vr (o2V oIx (gV 2) (o1V oNeg (gC (.int 1))))))) (gN 5) (bw (dCall m_touches [none, none, none] [] (aCons (gS 0) (aCons (gS 5) (aCons (gS 3) aNil))))) (gM 5) [5]))) (dSeq (dIf (vr (o2V oEq (o1V oLen (gV 4)) (o1V oLen (gV 3)))) (dRet (gM 2)) dNx) (dEx (dMut "list" 2 mAppend (aCons (gM 4) aNil))))))
theorem shr_loop (rs ms fs) (w : List Int) : ∀ (k : Nat) (s : List Int) (pre : List (List Int)) (X3 X4 : T) (m : Nat), s.length ≤ k → k < m → pre.length + k ≤ 900 → s.Nodup → (∀ x ∈ s, 0 ≤ x ∧ x < rs.length) →
    ∃ e, dWh (vr (gC (.bl true))) shrBody m [mch false rs ms fs, li false w, ll true (pre ++ [s]), X3, X4, .no] = some (.rt (ll true (pre ++ shr rs k s)), e) ∧ outs [true, true] e = [mch false rs ms fs, li false w] := by
  intro k
  induction k with
  | zero =>
    intro s pre X3 X4 m h1 h2 h3 nd bd
    obtain ⟨m, rfl⟩ : ∃ m', m = m' + 1 := ⟨m - 1, by omega⟩
    have es : s = [] := List.length_eq_zero_iff.mp (by omega)
    have e1 := keyed_last rs ms fs w s pre X3 X4 nd (by omega)
    have e2 := fewer_ok rs ms fs w s pre X4 bd (by omega)
    have t : vr (o2V oEq (o1V oLen (gV 4)) (o1V oLen (gV 3))) [mch false rs ms fs, li false w, ll true (pre ++ [s]), dk true (kI s), li true (nxt rs s), .no] = some (B true, [mch false rs ms fs, li false w, ll true (pre ++ [s]), dk true (kI s), li true (nxt rs s), .no]) := by
      have l : oEq (I (nxt rs s).length) (I (kI s).length) = some (B true) := by
        rw [oEq_int, decide_eq_true]
        subst es
        rfl
      exact E_vr (E_2V (E_1V rfl (oLen_li _ _)) (E_1V rfl (dk_len _ _)) l)
    refine ⟨[mch false rs ms fs, li false w, .no, dk true (kI s), li true (nxt rs s), .no], ?_, rfl⟩
    have hb : shrBody [mch false rs ms fs, li false w, ll true (pre ++ [s]), X3, X4, .no] = some (.rt (ll true (pre ++ [s])), [mch false rs ms fs, li false w, .no, dk true (kI s), li true (nxt rs s), .no]) := by
      refine (E_seq (E_set e1 (by simp) rfl)).trans ((E_seq (E_set e2 (by simp) rfl)).trans (E_seqR ((E_ifT t).trans (E_ret (E_M (t := ll true (pre ++ [s])) rfl rfl)))))
    show dWh _ shrBody (m + 1) _ = _
    rw [dWh]
    simp only [E_vr (va := gC (.bl true)) (env := [mch false rs ms fs, li false w, ll true (pre ++ [s]), X3, X4, .no]) rfl, hb]
    rfl
  | succ k ih =>
    intro s pre X3 X4 m h1 h2 h3 nd bd
    obtain ⟨m, rfl⟩ : ∃ m', m = m' + 1 := ⟨m - 1, by omega⟩
    have e1 := keyed_last rs ms fs w s pre X3 X4 nd (by omega)
    have e2 := fewer_ok rs ms fs w s pre X4 bd (by omega)
    have t : vr (o2V oEq (o1V oLen (gV 4)) (o1V oLen (gV 3))) [mch false rs ms fs, li false w, ll true (pre ++ [s]), dk true (kI s), li true (nxt rs s), .no] = some (B (decide ((nxt rs s).length = s.length)), [mch false rs ms fs, li false w, ll true (pre ++ [s]), dk true (kI s), li true (nxt rs s), .no]) := by
      have l : oEq (I (nxt rs s).length) (I (kI s).length) = some (B (decide ((nxt rs s).length = s.length))) := by
        rw [oEq_int, List.length_map]
        congr 3
        exact propext ⟨fun h => by omega, fun h => by omega⟩
      exact E_vr (E_2V (E_1V rfl (oLen_li _ _)) (E_1V rfl (dk_len _ _)) l)
    by_cases hq : (nxt rs s).length = s.length
    · rw [decide_eq_true hq] at t
      refine ⟨[mch false rs ms fs, li false w, .no, dk true (kI s), li true (nxt rs s), .no], ?_, rfl⟩
      have hb : shrBody [mch false rs ms fs, li false w, ll true (pre ++ [s]), X3, X4, .no] = some (.rt (ll true (pre ++ [s])), [mch false rs ms fs, li false w, .no, dk true (kI s), li true (nxt rs s), .no]) := by
        refine (E_seq (E_set e1 (by simp) rfl)).trans ((E_seq (E_set e2 (by simp) rfl)).trans (E_seqR ((E_ifT t).trans (E_ret (E_M (t := ll true (pre ++ [s])) rfl rfl)))))
      rw [dWh]
      simp only [E_vr (va := gC (.bl true)) (env := [mch false rs ms fs, li false w, ll true (pre ++ [s]), X3, X4, .no]) rfl, hb]
      rw [show shr rs (k + 1) s = [s] by rw [shr_succ, if_pos hq]]
    · rw [decide_eq_false hq] at t
      have hlt : (nxt rs s).length < s.length := Nat.lt_of_le_of_ne (nxt_le rs s) hq
      obtain ⟨e, g1, g2⟩ := ih (nxt rs s) (pre ++ [s]) (dk true (kI s)) .no m (by omega) (by omega) (by simp; omega) (nd.filter _) fun x hx => bd x (List.mem_filter.mp hx).1
      refine ⟨e, ?_, g2⟩
      have hb : shrBody [mch false rs ms fs, li false w, ll true (pre ++ [s]), X3, X4, .no] = some (.nx, [mch false rs ms fs, li false w, ll true (pre ++ [s] ++ [nxt rs s]), dk true (kI s), .no, .no]) := by
        refine (E_seq (E_set e1 (by simp) rfl)).trans ((E_seq (E_set e2 (by simp) rfl)).trans ((E_seq ((E_ifF t).trans rfl)).trans ?_))
        exact E_ex (E_mut (t0 := ll true (pre ++ [s])) rfl rfl (E_cons (E_M (t := li true (nxt rs s)) rfl rfl) rfl) rfl (ap_ll _ _ (by simp; omega)) rfl)
      rw [dWh]
      simp only [E_vr (va := gC (.bl true)) (env := [mch false rs ms fs, li false w, ll true (pre ++ [s]), X3, X4, .no]) rfl, hb]
      rw [g1, show shr rs (k + 1) s = s :: shr rs k (nxt rs s) by rw [shr_succ, if_neg hq]]
      simp
theorem shrinking_ok (rs ms fs) (s : List Int) (n : Nat) (hn : n ≤ 800) (hl : s.length ≤ n) (nd : s.Nodup) (bd : ∀ x ∈ s, 0 ≤ x ∧ x < rs.length) :
    m_shrinking [mch false rs ms fs, li false s] = some (ll true (shr rs n s), [mch false rs ms fs, li false s]) := by
  obtain ⟨e, h1, h2⟩ := shr_loop rs ms fs s n s [] .no .no 4000 hl (by omega) (by simp; omega) nd bd
  refine E_fun (e := e) rfl ?_ h2
  show b_shrinking [mch false rs ms fs, li false s, .no, .no, .no, .no] = _
  unfold b_shrinking
  refine (E_seq (E_set (i := 2) (E_lst (ts := [li true s]) (E_cons (E_1 (E_vr rfl) (oList_li false s)) rfl) (Nat.le_of_lt (small (n := 1) (by omega)))) (by simp) rfl)).trans ?_
  exact h1
theorem shr_rnds (rs : List (List Int)) : ∀ (k : Nat) (s : List Int), s.length ≤ k → Rnds (nxt rs) (shr rs k s) s ∧ ∀ i, i + 1 < (shr rs k s).length → ((shr rs k s).getD (i + 1) []).length < ((shr rs k s).getD i []).length
  | 0, s, h => by
    have es : s = [] := List.length_eq_zero_iff.mp (by omega)
    subst es
    exact ⟨⟨by simp [shr], rfl, fun i hi => by simp [shr] at hi, rfl⟩, fun i hi => by simp [shr] at hi⟩
  | k + 1, s, h => by
    by_cases hq : (nxt rs s).length = s.length
    · have e : shr rs (k + 1) s = [s] := by rw [shr_succ, if_pos hq]
      have ef : nxt rs s = s := List.filter_eq_self.mpr (List.length_filter_eq_length_iff.mp hq)
      rw [e]
      exact ⟨⟨by simp, rfl, fun i hi => by simp at hi, ef⟩, fun i hi => by simp at hi⟩
    · have e : shr rs (k + 1) s = s :: shr rs k (nxt rs s) := by rw [shr_succ, if_neg hq]
      have hlt : (nxt rs s).length < s.length := Nat.lt_of_le_of_ne (nxt_le rs s) hq
      obtain ⟨⟨g1, g2, g3, g4⟩, g5⟩ := shr_rnds rs k (nxt rs s) (by omega)
      rw [e]
      refine ⟨⟨by simp, rfl, fun i hi => ?_, ?_⟩, fun i hi => ?_⟩
      · cases i with
        | zero => simpa using g2
        | succ i => simpa using g3 i (by simpa using hi)
      · have : (s :: shr rs k (nxt rs s)).length - 1 = (shr rs k (nxt rs s)).length - 1 + 1 := by simp; omega
        rw [this]
        simpa using g4
      · cases i with
        | zero =>
          have : (shr rs k (nxt rs s))[0]?.getD [] = nxt rs s := by simpa using g2
          simpa [this] using hlt
        | succ i => simpa using g5 i (by simpa using hi)
end Pm


set_option Elab.async false
set_option linter.all false
set_option maxRecDepth 100000
set_option maxHeartbeats 4000000
/-! PG: growing. -/
namespace Pm
open PySem PySem.Spec PyProof.Rows L2 Tr Wk

/-- the numbers below n that pass -/
def pick (n : Nat) (q : Int → Bool) : List Int := ((List.range n).map fun (k : Nat) => (k : Int)).filter q
theorem pick_asc (n : Nat) (q : Int → Bool) : Asc n (pick n q) := by
  refine ⟨List.Pairwise.filter _ (List.pairwise_map.mpr (List.pairwise_lt_range.imp fun h => by omega)), fun x h => ?_⟩
  obtain ⟨h1, _⟩ := List.mem_filter.mp h
  obtain ⟨k, h2, rfl⟩ := List.mem_map.mp h1
  have := List.mem_range.mp h2
  omega
theorem mem_pick {n : Nat} {q : Int → Bool} {x : Int} : x ∈ pick n q ↔ (0 ≤ x ∧ x < n) ∧ q x = true := by
  constructor
  · exact fun h => ⟨(pick_asc n q).bd x h, (List.mem_filter.mp h).2⟩
  · rintro ⟨⟨h1, h2⟩, h3⟩
    exact List.mem_filter.mpr ⟨List.mem_map.mpr ⟨x.toNat, List.mem_range.mpr (by omega), by omega⟩, h3⟩
theorem asc_ext {n m : Nat} {a b : List Int} (ha : Asc n a) (hb : Asc m b) (h : ∀ x, x ∈ a ↔ x ∈ b) : a = b :=
  sorted_uniq ((List.perm_ext_iff_of_nodup ha.nd hb.nd).mpr h) (ha.lt.imp fun h => by omega) (hb.lt.imp fun h => by omega)
theorem asc_pick {n : Nat} {a : List Int} (h : Asc n a) : pick n (fun x => decide (x ∈ a)) = a :=
  asc_ext (pick_asc _ _) h fun x => by
    rw [mem_pick]
    exact ⟨fun z => by simpa using z.2, fun z => ⟨h.bd x z, by simpa using z⟩⟩
theorem filter_mono {l : List Int} {p q : Int → Bool} (h : ∀ x ∈ l, p x = true → q x = true) : (l.filter p).length ≤ (l.filter q).length ∧ ((l.filter p).length = (l.filter q).length → l.filter p = l.filter q) := by
  induction l with
  | nil => simp
  | cons a l ih =>
    obtain ⟨h1, h2⟩ := ih fun x hx => h x (List.mem_cons_of_mem _ hx)
    have h3 := h a (List.mem_cons_self ..)
    cases hp : p a with
    | true =>
      have hq := h3 hp
      simp [List.filter_cons, hp, hq]
      exact ⟨h1, h2⟩
    | false =>
      cases hq : q a with
      | true =>
        simp [List.filter_cons, hp, hq]
        exact ⟨by omega, fun e => by omega⟩
      | false =>
        simp [List.filter_cons, hp, hq]
        exact ⟨h1, h2⟩
theorem pick_mono {n : Nat} {p q : Int → Bool} (h : ∀ x, p x = true → q x = true) : (pick n p).length ≤ (pick n q).length ∧ ((pick n p).length = (pick n q).length → pick n p = pick n q) := filter_mono fun x _ => h x
theorem asc_sub {n : Nat} {a b : List Int} (ha : Asc n a) (hb : Asc n b) (h : ∀ x ∈ a, x ∈ b) : a.length ≤ b.length ∧ (a.length = b.length → a = b) := by
  have := pick_mono (n := n) (p := fun x => decide (x ∈ a)) (q := fun x => decide (x ∈ b)) fun x hx => by simpa using h x (by simpa using hx)
  rwa [asc_pick ha, asc_pick hb] at this
/-- goal, and those of through that step to one of these -/
def grw (n : Nat) (rs : List (List Int)) (W G s : List Int) : List Int := pick n fun x => decide (x ∈ G) || (decide (x ∈ W) && tch rs s x)
def gro (n : Nat) (rs : List (List Int)) (W G : List Int) : Nat → List Int → List (List Int)
  | 0, s => [s]
  | k + 1, s => if (grw n rs W G s).length = s.length then [s] else s :: gro n rs W G k (grw n rs W G s)
theorem gro_succ (n rs W G k s) : gro n rs W G (k + 1) s = if (grw n rs W G s).length = s.length then [s] else s :: gro n rs W G k (grw n rs W G s) := by rw [gro]
theorem tch_mono {rs : List (List Int)} {a b : List Int} (h : ∀ x ∈ a, x ∈ b) {x : Int} (t : tch rs a x = true) : tch rs b x = true := by
  unfold tch at t ⊢
  obtain ⟨o, h1, h2⟩ := List.any_eq_true.mp t
  exact List.any_eq_true.mpr ⟨o, h1, by simpa using h o (by simpa using h2)⟩
/-- a set on its way -/
structure Onw (n : Nat) (rs : List (List Int)) (W G s : List Int) : Prop where
  asc : Asc n s
  sub : ∀ x ∈ s, x ∈ grw n rs W G s
theorem onw_goal {n : Nat} {rs : List (List Int)} {W G : List Int} (h : Asc n G) : Onw n rs W G G := ⟨h, fun x hx => mem_pick.mpr ⟨h.bd x hx, by simp [hx]⟩⟩
theorem onw_next {n : Nat} {rs : List (List Int)} {W G s : List Int} (h : Onw n rs W G s) : Onw n rs W G (grw n rs W G s) := by
  refine ⟨pick_asc _ _, fun x hx => ?_⟩
  obtain ⟨h1, h2⟩ := mem_pick.mp hx
  refine mem_pick.mpr ⟨h1, ?_⟩
  rw [Bool.or_eq_true, Bool.and_eq_true] at h2 ⊢
  exact h2.imp id fun z => ⟨z.1, tch_mono h.sub z.2⟩
theorem gro_len (n rs W G) : ∀ (k : Nat) (s : List Int), (gro n rs W G k s).length ≤ k + 1
  | 0, s => by simp [gro]
  | k + 1, s => by
    rw [gro_succ]
    split
    · simp
    · have := gro_len n rs W G k (grw n rs W G s)
      simp; omega
theorem more_ok (n : Nat) (rs ms fs) (hrs : rs.length = n) (hn : n ≤ 900) (W G s : List Int) (pre : List (List Int)) (X1 X8 : T) :
    ∃ x8, dFor (dRng (bw (dMeth "Machine" "many" m_Machine_many none [] [] (gS 0) aNil))) (gN 8) (dIf (dOr (vr (o2V oIn (gV 8) (gV 3))) (dAnd (vr (o2V oIn (gV 8) (gV 4))) (bw (dCall m_touches [none, none, none] [] (aCons (gS 0) (aCons (gS 8) (aCons (gS 6) aNil))))))) (dEx (dMut "list" 7 mAppend (aCons (gM 8) aNil))) dNx)
      [mch false rs ms fs, .no, li false G, dk true (kI G), dk true (kI W), ll true (pre ++ [s]), dk true (kI s), li true [], X8] = some (.nx, [mch false rs ms fs, .no, li false G, dk true (kI G), dk true (kI W), ll true (pre ++ [s]), dk true (kI s), li true (grw n rs W G s), x8]) := by
  let E (xs : List Int) (x8 : T) : List T := [mch false rs ms fs, .no, li false G, dk true (kI G), dk true (kI W), ll true (pre ++ [s]), dk true (kI s), li true xs, x8]
  let q : Int → Bool := fun x => decide (x ∈ G) || (decide (x ∈ W) && tch rs s x)
  have fe : ∀ xs x8, frzs (E xs x8) = [mch false rs ms fs, .no, li false G, dk false (kI G), dk false (kI W), ll false (pre ++ [s]), dk false (kI s), li false xs, frz x8] := fun xs x8 => by simp only [E, frzs, frz_mch, frz_li, frz_ll, frz_dk, frz_no]
  obtain ⟨env', h1, x8, rfl⟩ := dFr_inv (dg := gN 8) (d := dIf (dOr (vr (o2V oIn (gV 8) (gV 3))) (dAnd (vr (o2V oIn (gV 8) (gV 4))) (bw (dCall m_touches [none, none, none] [] (aCons (gS 0) (aCons (gS 8) (aCons (gS 6) aNil))))))) (dEx (dMut "list" 7 mAppend (aCons (gM 8) aNil))) dNx)
    ((List.range n).map fun (k : Nat) => lfI k) (fun i env => ∃ x8, env = E (pick i q) x8) (E [] X8) ⟨_, rfl⟩ (by
      rintro i t env ht ⟨x8, rfl⟩
      obtain ⟨hi, rfl⟩ := rng_get ht
      have ep : pick (i + 1) q = pick i q ++ if q i = true then [(i : Int)] else [] := by
        unfold pick
        rw [List.range_succ, List.map_append, List.filter_append]
        congr 1
        show List.filter q [(i : Int)] = _
        rw [List.filter_cons]
        rfl
      have t1 : vr (o2V oIn (gV 8) (gV 3)) (E (pick i q) (I i)) = some (B (decide ((i : Int) ∈ G)), E (pick i q) (I i)) := E_vr (E_2V rfl rfl (dkI_in _ _ _))
      have t2 : vr (o2V oIn (gV 8) (gV 4)) (E (pick i q) (I i)) = some (B (decide ((i : Int) ∈ W)), E (pick i q) (I i)) := E_vr (E_2V rfl rfl (dkI_in _ _ _))
      have t3 : bw (dCall m_touches [none, none, none] [] (aCons (gS 0) (aCons (gS 8) (aCons (gS 6) aNil)))) (E (pick i q) (I i)) = some (B (tch rs s i), E (pick i q) (I i)) := by
        have c : dCall m_touches [none, none, none] [] (aCons (gS 0) (aCons (gS 8) (aCons (gS 6) aNil))) (frzs (E (pick i q) (I i))) = some (B (tch rs s i), frzs (E (pick i q) (I i))) := by
          rw [fe, frz_lf]
          exact E_call (E_cons (E_S (t := mch false rs ms fs) rfl (frz_mch _ _ _ _) rfl) (E_cons (E_S (t := I i) rfl (frz_lf _) rfl) (E_cons (E_S (t := dk false (kI s)) rfl (frz_dk _ _) rfl) rfl))) (touches_ok rs ms fs i (by omega) s) rfl
        exact E_bw c (pure_lf _)
      have tt : dOr (vr (o2V oIn (gV 8) (gV 3))) (dAnd (vr (o2V oIn (gV 8) (gV 4))) (bw (dCall m_touches [none, none, none] [] (aCons (gS 0) (aCons (gS 8) (aCons (gS 6) aNil)))))) (E (pick i q) (I i)) = some (B (q i), E (pick i q) (I i)) := by
        by_cases hG : (i : Int) ∈ G
        · rw [decide_eq_true hG] at t1
          rw [show q i = true by simp [q, hG]]
          exact E_orT t1
        · rw [decide_eq_false hG] at t1
          rw [E_orF t1]
          by_cases hW : (i : Int) ∈ W
          · rw [decide_eq_true hW] at t2
            rw [E_andT t2, t3, show q i = tch rs s i by simp [q, hG, hW]]
          · rw [decide_eq_false hW] at t2
            rw [E_andF t2, show q i = false by simp [q, hG, hW]]
      rw [ep]
      cases hq : q i with
      | true =>
        rw [hq] at tt
        refine ⟨E (pick i q) (I i), E (pick i q ++ [(i : Int)]) .no, rfl, .inl ?_, .no, by simp⟩
        exact (E_ifT tt).trans (E_ex (E_mut (t0 := li true (pick i q)) rfl rfl (E_cons (E_M (t := I i) rfl rfl) rfl) rfl (ap_li _ _ (by have := (pick_asc i q).len; omega)) rfl))
      | false =>
        rw [hq] at tt
        refine ⟨E (pick i q) (I i), E (pick i q) (I i), rfl, .inl ((E_ifF tt).trans rfl), I i, by simp⟩)
  rw [show (List.map (fun (k : Nat) => lfI k) (List.range n)).length = n by simp] at h1
  refine ⟨x8, ?_⟩
  have nbm : ¬ ("steps" : Str) = "many" ∧ ¬ ("marks" : Str) = "many" ∧ ¬ ("fair" : Str) = "many" := by decide +kernel
  have hmany : m_Machine_many [mch false rs ms fs] = some (I n, [mch false rs ms fs]) := E_fun (e := [mch false rs ms fs]) rfl (E_ret (E_re (E_vr (E_1V (E_1V rfl (fld_steps _ _ _ _)) (by rw [oLen_ll, hrs]))) (cln_lf _))) rfl
  have c : dMeth "Machine" "many" m_Machine_many none [] [] (gS 0) aNil (frzs (E [] X8)) = some (I n, frzs (E [] X8)) := by
    rw [fe]
    exact E_meth (E_S (t := mch false rs ms fs) rfl (frz_mch _ _ _ _) rfl) (isIns_mch _ _ _ _ nbm) rfl hmany rfl
  exact (E_for (E_rngN (n := n) (E_bw c (pure_lf _)) (by omega))).trans h1
abbrev groBody : DS := (dSeq (dSet 6 (bw (dCall m_keyed [none] [] (aCons (re (vr (o2V oIx (gV 5) (o1V oNeg (gC (.int 1)))))) aNil)))) (dSeq (dSet 7 (dLst aNil)) (dSeq (dFor (dRng (bw (dMeth "Machine" "many" m_Machine_many none [] [] (gS 0) aNil))) (gN 8) (dIf (dOr (vr (o2V oIn (gV 8) (gV 3))) (dAnd (vr (o2V oIn (gV 8) (gV 4))) (bw (dCall m_touches [none, none, none] [] (aCons (gS 0) (aCons (gS 8) (aCons (gS 6) aNil))))))) (dEx (dMut "list" 7 mAppend (aCons (gM 8) aNil))) dNx)) (dSeq (dIf (vr (o2V oEq (o1V oLen (gV 7)) (o1V oLen (gV 6)))) (dRet (gM 5)) dNx) (dEx (dMut "list" 5 mAppend (aCons (gM 7) aNil)))))))
theorem gro_loop (n : Nat) (rs ms fs) (hrs : rs.length = n) (hn : n ≤ 60) (W G : List Int) : ∀ (k : Nat) (s : List Int) (pre : List (List Int)) (X6 X7 X8 : T) (m : Nat), n ≤ s.length + k → k < m → pre.length + k ≤ 900 → Onw n rs W G s →
    ∃ e, dWh (vr (gC (.bl true))) groBody m [mch false rs ms fs, .no, li false G, dk true (kI G), dk true (kI W), ll true (pre ++ [s]), X6, X7, X8] = some (.rt (ll true (pre ++ gro n rs W G k s)), e) ∧ outs [true, true, true] e = [mch false rs ms fs, .no, li false G] := by
  intro k
  induction k with
  | zero =>
    intro s pre X6 X7 X8 m h1 h2 h3 on
    obtain ⟨m, rfl⟩ : ∃ m', m = m' + 1 := ⟨m - 1, by omega⟩
    have sl := on.asc.len
    obtain ⟨x8, e2⟩ := more_ok n rs ms fs hrs (by omega) W G s pre .no X8
    have e1 : bw (dCall m_keyed [none] [] (aCons (re (vr (o2V oIx (gV 5) (o1V oNeg (gC (.int 1)))))) aNil)) [mch false rs ms fs, .no, li false G, dk true (kI G), dk true (kI W), ll true (pre ++ [s]), X6, X7, X8] = some (dk true (kI s), [mch false rs ms fs, .no, li false G, dk true (kI G), dk true (kI W), ll true (pre ++ [s]), X6, X7, X8]) := by
      have fe : frzs [mch false rs ms fs, .no, li false G, dk true (kI G), dk true (kI W), ll true (pre ++ [s]), X6, X7, X8] = [mch false rs ms fs, .no, li false G, dk false (kI G), dk false (kI W), ll false (pre ++ [s]), frz X6, frz X7, frz X8] := by simp only [frzs, frz_mch, frz_li, frz_ll, frz_dk, frz_no]
      refine E_bw (e := [mch false rs ms fs, .no, li false G, dk false (kI G), dk false (kI W), ll false (pre ++ [s]), frz X6, frz X7, frz X8]) ?_ (pure_dk _)
      rw [fe]
      exact E_call (E_cons (E_re (E_vr (E_2V rfl (E_1V rfl (I_neg 1)) (ix_last false pre s))) (cln_li _)) rfl) (keyed_ok s on.asc.nd (by omega)) rfl
    have gl := (pick_asc n fun x => decide (x ∈ G) || (decide (x ∈ W) && tch rs s x)).len
    have gs := asc_sub on.asc (pick_asc _ _) on.sub
    have s7 : dSet 7 (dLst aNil) [mch false rs ms fs, .no, li false G, dk true (kI G), dk true (kI W), ll true (pre ++ [s]), dk true (kI s), X7, X8] = some (.nx, [mch false rs ms fs, .no, li false G, dk true (kI G), dk true (kI W), ll true (pre ++ [s]), dk true (kI s), li true [], X8]) := E_set (E_lst (ts := []) rfl (Nat.zero_le _)) (by simp) rfl
    have t : vr (o2V oEq (o1V oLen (gV 7)) (o1V oLen (gV 6))) [mch false rs ms fs, .no, li false G, dk true (kI G), dk true (kI W), ll true (pre ++ [s]), dk true (kI s), li true (grw n rs W G s), x8] = some (B true, [mch false rs ms fs, .no, li false G, dk true (kI G), dk true (kI W), ll true (pre ++ [s]), dk true (kI s), li true (grw n rs W G s), x8]) := by
      have l : oEq (I (grw n rs W G s).length) (I (kI s).length) = some (B true) := by
        rw [oEq_int, List.length_map, decide_eq_true]
        have : (grw n rs W G s).length ≤ n := gl
        have : s.length ≤ (grw n rs W G s).length := gs.1
        omega
      exact E_vr (E_2V (E_1V rfl (oLen_li _ _)) (E_1V rfl (dk_len _ _)) l)
    refine ⟨[mch false rs ms fs, .no, li false G, dk true (kI G), dk true (kI W), .no, dk true (kI s), li true (grw n rs W G s), x8], ?_, rfl⟩
    have hb : groBody [mch false rs ms fs, .no, li false G, dk true (kI G), dk true (kI W), ll true (pre ++ [s]), X6, X7, X8] = some (.rt (ll true (pre ++ [s])), [mch false rs ms fs, .no, li false G, dk true (kI G), dk true (kI W), .no, dk true (kI s), li true (grw n rs W G s), x8]) :=
      (E_seq (E_set e1 (by simp) rfl)).trans ((E_seq s7).trans ((E_seq e2).trans (E_seqR ((E_ifT t).trans (E_ret (E_M (t := ll true (pre ++ [s])) rfl rfl))))))
    rw [dWh]
    simp only [E_vr (va := gC (.bl true)) (env := [mch false rs ms fs, .no, li false G, dk true (kI G), dk true (kI W), ll true (pre ++ [s]), X6, X7, X8]) rfl, hb]
    rfl
  | succ k ih =>
    intro s pre X6 X7 X8 m h1 h2 h3 on
    obtain ⟨m, rfl⟩ : ∃ m', m = m' + 1 := ⟨m - 1, by omega⟩
    have sl := on.asc.len
    obtain ⟨x8, e2⟩ := more_ok n rs ms fs hrs (by omega) W G s pre .no X8
    have e1 : bw (dCall m_keyed [none] [] (aCons (re (vr (o2V oIx (gV 5) (o1V oNeg (gC (.int 1)))))) aNil)) [mch false rs ms fs, .no, li false G, dk true (kI G), dk true (kI W), ll true (pre ++ [s]), X6, X7, X8] = some (dk true (kI s), [mch false rs ms fs, .no, li false G, dk true (kI G), dk true (kI W), ll true (pre ++ [s]), X6, X7, X8]) := by
      have fe : frzs [mch false rs ms fs, .no, li false G, dk true (kI G), dk true (kI W), ll true (pre ++ [s]), X6, X7, X8] = [mch false rs ms fs, .no, li false G, dk false (kI G), dk false (kI W), ll false (pre ++ [s]), frz X6, frz X7, frz X8] := by simp only [frzs, frz_mch, frz_li, frz_ll, frz_dk, frz_no]
      refine E_bw (e := [mch false rs ms fs, .no, li false G, dk false (kI G), dk false (kI W), ll false (pre ++ [s]), frz X6, frz X7, frz X8]) ?_ (pure_dk _)
      rw [fe]
      exact E_call (E_cons (E_re (E_vr (E_2V rfl (E_1V rfl (I_neg 1)) (ix_last false pre s))) (cln_li _)) rfl) (keyed_ok s on.asc.nd (by omega)) rfl
    have gs := asc_sub on.asc (pick_asc _ _) on.sub
    have s7 : dSet 7 (dLst aNil) [mch false rs ms fs, .no, li false G, dk true (kI G), dk true (kI W), ll true (pre ++ [s]), dk true (kI s), X7, X8] = some (.nx, [mch false rs ms fs, .no, li false G, dk true (kI G), dk true (kI W), ll true (pre ++ [s]), dk true (kI s), li true [], X8]) := E_set (E_lst (ts := []) rfl (Nat.zero_le _)) (by simp) rfl
    have t : vr (o2V oEq (o1V oLen (gV 7)) (o1V oLen (gV 6))) [mch false rs ms fs, .no, li false G, dk true (kI G), dk true (kI W), ll true (pre ++ [s]), dk true (kI s), li true (grw n rs W G s), x8] = some (B (decide ((grw n rs W G s).length = s.length)), [mch false rs ms fs, .no, li false G, dk true (kI G), dk true (kI W), ll true (pre ++ [s]), dk true (kI s), li true (grw n rs W G s), x8]) := by
      have l : oEq (I (grw n rs W G s).length) (I (kI s).length) = some (B (decide ((grw n rs W G s).length = s.length))) := by
        rw [oEq_int, List.length_map]
        by_cases h : (grw n rs W G s).length = s.length
        · rw [decide_eq_true h, decide_eq_true (by omega)]
        · rw [decide_eq_false h, decide_eq_false (by omega)]
      exact E_vr (E_2V (E_1V rfl (oLen_li _ _)) (E_1V rfl (dk_len _ _)) l)
    by_cases hq : (grw n rs W G s).length = s.length
    · rw [decide_eq_true hq] at t
      refine ⟨[mch false rs ms fs, .no, li false G, dk true (kI G), dk true (kI W), .no, dk true (kI s), li true (grw n rs W G s), x8], ?_, rfl⟩
      have hb : groBody [mch false rs ms fs, .no, li false G, dk true (kI G), dk true (kI W), ll true (pre ++ [s]), X6, X7, X8] = some (.rt (ll true (pre ++ [s])), [mch false rs ms fs, .no, li false G, dk true (kI G), dk true (kI W), .no, dk true (kI s), li true (grw n rs W G s), x8]) :=
        (E_seq (E_set e1 (by simp) rfl)).trans ((E_seq s7).trans ((E_seq e2).trans (E_seqR ((E_ifT t).trans (E_ret (E_M (t := ll true (pre ++ [s])) rfl rfl))))))
      rw [dWh]
      simp only [E_vr (va := gC (.bl true)) (env := [mch false rs ms fs, .no, li false G, dk true (kI G), dk true (kI W), ll true (pre ++ [s]), X6, X7, X8]) rfl, hb]
      rw [gro_succ, if_pos hq]
    · rw [decide_eq_false hq] at t
      have hlt : s.length < (grw n rs W G s).length := Nat.lt_of_le_of_ne gs.1 fun e => hq e.symm
      obtain ⟨e, g1, g2⟩ := ih (grw n rs W G s) (pre ++ [s]) (dk true (kI s)) .no x8 m (by omega) (by omega) (by simp; omega) (onw_next on)
      refine ⟨e, ?_, g2⟩
      have hb : groBody [mch false rs ms fs, .no, li false G, dk true (kI G), dk true (kI W), ll true (pre ++ [s]), X6, X7, X8] = some (.nx, [mch false rs ms fs, .no, li false G, dk true (kI G), dk true (kI W), ll true (pre ++ [s] ++ [grw n rs W G s]), dk true (kI s), .no, x8]) := by
        refine (E_seq (E_set e1 (by simp) rfl)).trans ((E_seq s7).trans ((E_seq e2).trans ((E_seq ((E_ifF t).trans rfl)).trans ?_)))
        exact E_ex (E_mut (t0 := ll true (pre ++ [s])) rfl rfl (E_cons (E_M (t := li true (grw n rs W G s)) rfl rfl) rfl) rfl (ap_ll _ _ (by simp; omega)) rfl)
      rw [dWh]
      simp only [E_vr (va := gC (.bl true)) (env := [mch false rs ms fs, .no, li false G, dk true (kI G), dk true (kI W), ll true (pre ++ [s]), X6, X7, X8]) rfl, hb]
      rw [g1, gro_succ, if_neg hq]
      simp
theorem growing_ok (n : Nat) (rs ms fs) (hrs : rs.length = n) (hn : n ≤ 60) (W G : List Int) (hW : Asc n W) (hG : Asc n G) :
    ∃ ts, m_growing [mch false rs ms fs, li false W, li false G] = some (ll true (gro n rs W G n G), ts) ∧ ts = [mch false rs ms fs, .no, li false G] := by
  obtain ⟨e, h1, h2⟩ := gro_loop n rs ms fs hrs hn W G n G [] .no .no .no 4000 (by omega) (by omega) (by simp; omega) (onw_goal hG)
  refine ⟨_, E_fun (e := e) rfl ?_ h2, rfl⟩
  show b_growing [mch false rs ms fs, li false W, li false G, .no, .no, .no, .no, .no, .no] = _
  unfold b_growing
  have a3 : dSet 3 (dCall m_keyed [none] [] (aCons (gS 2) aNil)) [mch false rs ms fs, li false W, li false G, .no, .no, .no, .no, .no, .no] = some (.nx, [mch false rs ms fs, li false W, li false G, dk true (kI G), .no, .no, .no, .no, .no]) :=
    E_set (E_call (E_cons (E_S (t := li false G) rfl (frz_li _ _) rfl) rfl) (keyed_ok G hG.nd (by have := hG.len; omega)) rfl) (by simp) rfl
  have a4 : dSet 4 (dCall m_keyed [none] [] (aCons (gM 1) aNil)) [mch false rs ms fs, li false W, li false G, dk true (kI G), .no, .no, .no, .no, .no] = some (.nx, [mch false rs ms fs, .no, li false G, dk true (kI G), dk true (kI W), .no, .no, .no, .no]) :=
    E_set (E_call (E_cons (E_M (t := li false W) rfl rfl) rfl) (keyed_ok W hW.nd (by have := hW.len; omega)) rfl) (by simp) rfl
  have a5 : dSet 5 (dLst (aCons (o1 oList (vr (gV 2))) aNil)) [mch false rs ms fs, .no, li false G, dk true (kI G), dk true (kI W), .no, .no, .no, .no] = some (.nx, [mch false rs ms fs, .no, li false G, dk true (kI G), dk true (kI W), ll true ([] ++ [G]), .no, .no, .no]) :=
    E_set (E_lst (ts := [li true G]) (E_cons (E_1 (E_vr rfl) (oList_li false G)) rfl) (Nat.le_of_lt (small (n := 1) (by omega)))) (by simp) rfl
  rw [E_seq a3, E_seq a4, E_seq a5]
  exact h1
theorem gro_rnds (n rs W G) : ∀ (k : Nat) (s : List Int), n ≤ s.length + k → Onw n rs W G s → Rnds (grw n rs W G) (gro n rs W G k s) s ∧ (∀ i, i + 1 < (gro n rs W G k s).length → ((gro n rs W G k s).getD i []).length < ((gro n rs W G k s).getD (i + 1) []).length) ∧ ∀ i, i < (gro n rs W G k s).length → Onw n rs W G ((gro n rs W G k s).getD i [])
  | 0, s, h, on => by
    have gs := asc_sub on.asc (pick_asc _ _) on.sub
    have gl := (pick_asc n fun x => decide (x ∈ G) || (decide (x ∈ W) && tch rs s x)).len
    have e : s = grw n rs W G s := gs.2 (by have : (grw n rs W G s).length ≤ n := gl; have : s.length ≤ (grw n rs W G s).length := gs.1; unfold grw at *; omega)
    refine ⟨⟨by simp [gro], rfl, fun i hi => by simp [gro] at hi, e.symm⟩, fun i hi => by simp [gro] at hi, fun i hi => ?_⟩
    have : i = 0 := by simp [gro] at hi; exact hi
    subst this
    exact on
  | k + 1, s, h, on => by
    have gs := asc_sub on.asc (pick_asc _ _) on.sub
    by_cases hq : (grw n rs W G s).length = s.length
    · have e : gro n rs W G (k + 1) s = [s] := by rw [gro_succ, if_pos hq]
      rw [e]
      refine ⟨⟨by simp, rfl, fun i hi => by simp at hi, (gs.2 hq.symm).symm⟩, fun i hi => by simp at hi, fun i hi => ?_⟩
      have : i = 0 := by simpa using hi
      subst this
      exact on
    · have e : gro n rs W G (k + 1) s = s :: gro n rs W G k (grw n rs W G s) := by rw [gro_succ, if_neg hq]
      have hlt : s.length < (grw n rs W G s).length := Nat.lt_of_le_of_ne gs.1 fun e => hq e.symm
      obtain ⟨⟨g1, g2, g3, g4⟩, g5, g6⟩ := gro_rnds n rs W G k (grw n rs W G s) (by omega) (onw_next on)
      rw [e]
      refine ⟨⟨by simp, rfl, fun i hi => ?_, ?_⟩, fun i hi => ?_, fun i hi => ?_⟩
      · cases i with
        | zero => simpa using g2
        | succ i => simpa using g3 i (by simpa using hi)
      · have : (s :: gro n rs W G k (grw n rs W G s)).length - 1 = (gro n rs W G k (grw n rs W G s)).length - 1 + 1 := by simp; omega
        rw [this]
        simpa using g4
      · cases i with
        | zero =>
          have : (gro n rs W G k (grw n rs W G s))[0]?.getD [] = grw n rs W G s := by simpa using g2
          simpa [this] using hlt
        | succ i => simpa using g5 i (by simpa using hi)
      · cases i with
        | zero => simpa using on
        | succ i => simpa using g6 i (by simpa using hi)
end Pm


set_option Elab.async false
set_option linter.all false
set_option maxRecDepth 100000
set_option maxHeartbeats 4000000
/-! SX: searching, without a walk: what is come to by steps within a set. -/
namespace Pm
open PySem PySem.Spec PyProof.Rows L2 Tr

/-- come to by steps within W -/
inductive Rch (rs : List (List Int)) (W : List Int) (s : Int) : Int → Prop
  | here : Rch rs W s s
  | step {x o : Int} : Rch rs W s x → o ∈ rs.getD x.toNat [] → o ∈ W → Rch rs W s o
def vis (W : List Int) : List Int → List Int × List Int → List Int × List Int
  | [], s => s
  | o :: row, s => vis W row (if o ∈ W ∧ o ∉ s.1 then (s.1 ++ [o], s.2 ++ [o]) else s)
def srch (nb : Int → List Int) (W : List Int) : Nat → List Int × List Int → List Int
  | 0, s => s.1
  | m + 1, s => match s.2.getLast? with
    | none => s.1
    | some x => srch nb W m (vis W (nb x) (s.1, s.2.dropLast))
theorem vis_spec (W : List Int) : ∀ (row K L : List Int), K.Nodup → (∀ x ∈ L, x ∈ K) →
    (vis W row (K, L)).1.Nodup ∧ (∀ x ∈ (vis W row (K, L)).2, x ∈ (vis W row (K, L)).1) ∧ (∀ x, x ∈ (vis W row (K, L)).1 ↔ x ∈ K ∨ (x ∈ row ∧ x ∈ W)) ∧ (∀ x ∈ (vis W row (K, L)).1, x ∈ K ∨ x ∈ (vis W row (K, L)).2) ∧ (∀ x ∈ L, x ∈ (vis W row (K, L)).2) ∧
    (vis W row (K, L)).1.length + L.length = (vis W row (K, L)).2.length + K.length
  | [], K, L, nd, h => ⟨nd, h, fun x => by simp [vis], fun x hx => .inl hx, fun x hx => hx, by simp [vis]; omega⟩
  | o :: row, K, L, nd, h => by
    have ev : vis W (o :: row) (K, L) = vis W row (if o ∈ W ∧ o ∉ K then (K ++ [o], L ++ [o]) else (K, L)) := rfl
    rw [ev]
    by_cases ho : o ∈ W ∧ o ∉ K
    · rw [if_pos ho]
      have nd' : (K ++ [o]).Nodup := by
        rw [List.nodup_append]
        refine ⟨nd, by simp, fun x hx y hy e => ?_⟩
        have : y = o := by simpa using hy
        exact ho.2 (by rw [← this, ← e]; exact hx)
      obtain ⟨a, b, c, d, e, f⟩ := vis_spec W row (K ++ [o]) (L ++ [o]) nd' fun x hx => by
        rcases List.mem_append.mp hx with z | z
        · exact List.mem_append.mpr (.inl (h x z))
        · exact List.mem_append.mpr (.inr z)
      refine ⟨a, b, fun x => ?_, fun x hx => ?_, fun x hx => e x (List.mem_append.mpr (.inl hx)), by simp at f; omega⟩
      · rw [c x, List.mem_append, List.mem_singleton, List.mem_cons]
        constructor
        · rintro ((z | z) | ⟨z, w⟩)
          · exact .inl z
          · exact .inr ⟨.inl z, by rw [z]; exact ho.1⟩
          · exact .inr ⟨.inr z, w⟩
        · rintro (z | ⟨z | z, w⟩)
          · exact .inl (.inl z)
          · exact .inl (.inr z)
          · exact .inr ⟨z, w⟩
      · rcases d x hx with z | z
        · rcases List.mem_append.mp z with z | z
          · exact .inl z
          · exact .inr (e x (List.mem_append.mpr (.inr z)))
        · exact .inr z
    · rw [if_neg ho]
      obtain ⟨a, b, c, d, e, f⟩ := vis_spec W row K L nd h
      refine ⟨a, b, fun x => ?_, d, e, f⟩
      rw [c x, List.mem_cons]
      constructor
      · rintro (z | ⟨z, w⟩)
        · exact .inl z
        · exact .inr ⟨.inr z, w⟩
      · rintro (z | ⟨z | z, w⟩)
        · exact .inl z
        · subst z
          exact .inl (Decidable.byContradiction fun hk => ho ⟨w, hk⟩)
        · exact .inr ⟨z, w⟩
theorem vis_len (W : List Int) : ∀ (row K L : List Int), K.length ≤ (vis W row (K, L)).1.length
  | [], K, L => Nat.le_refl _
  | o :: row, K, L => by
    have ev : vis W (o :: row) (K, L) = vis W row (if o ∈ W ∧ o ∉ K then (K ++ [o], L ++ [o]) else (K, L)) := rfl
    rw [ev]
    split
    · have := vis_len W row (K ++ [o]) (L ++ [o])
      simp at this
      omega
    · exact vis_len W row K L
/-- a state of the search -/
structure Srs (n : Nat) (rs : List (List Int)) (nb : Int → List Int) (W : List Int) (s : Int) (K L : List Int) : Prop where
  nd : K.Nodup
  sub : ∀ x ∈ L, x ∈ K
  ok : ∀ x ∈ K, Rch rs W s x
  bd : ∀ x ∈ K, 0 ≤ x ∧ x < n
  st : s ∈ K
  cl : ∀ x ∈ K, x ∈ L ∨ ∀ o ∈ rs.getD x.toNat [], o ∈ W → o ∈ K
theorem srs_next {n : Nat} {rs : List (List Int)} {nb : Int → List Int} {W : List Int} {s : Int} (hnb : ∀ x : Int, 0 ≤ x → x < n → ∀ o, o ∈ nb x ↔ o ∈ rs.getD x.toNat []) (hW : ∀ x ∈ W, 0 ≤ x ∧ x < n) {K L : List Int} {x : Int} (h : Srs n rs nb W s K (L ++ [x])) :
    Srs n rs nb W s (vis W (nb x) (K, L)).1 (vis W (nb x) (K, L)).2 ∧ (vis W (nb x) (K, L)).1.length + L.length = (vis W (nb x) (K, L)).2.length + K.length := by
  have hx : x ∈ K := h.sub x (List.mem_append.mpr (.inr (by simp)))
  obtain ⟨a, b, c, d, e, f⟩ := vis_spec W (nb x) K L h.nd fun y hy => h.sub y (List.mem_append.mpr (.inl hy))
  have hb := h.bd x hx
  refine ⟨⟨a, b, fun y hy => ?_, fun y hy => ?_, (c s).mpr (.inl h.st), fun y hy => ?_⟩, f⟩
  · rcases (c y).mp hy with z | ⟨z, w⟩
    · exact h.ok y z
    · exact .step (h.ok x hx) ((hnb x hb.1 hb.2 y).mp z) w
  · rcases (c y).mp hy with z | ⟨z, w⟩
    · exact h.bd y z
    · exact hW y w
  · rcases d y hy with z | z
    · rcases h.cl y z with w | w
      · rcases List.mem_append.mp w with w | w
        · exact .inl (e y w)
        · have : y = x := by simpa using w
          subst this
          exact .inr fun o ho hw => (c o).mpr (.inr ⟨(hnb y hb.1 hb.2 o).mpr ho, hw⟩)
      · exact .inr fun o ho hw => (c o).mpr (.inl (w o ho hw))
    · exact .inl z
theorem srs_end {n : Nat} {rs : List (List Int)} {nb : Int → List Int} {W : List Int} {s : Int} {K : List Int} (h : Srs n rs nb W s K []) (x : Int) : x ∈ K ↔ Rch rs W s x := by
  refine ⟨h.ok x, fun r => ?_⟩
  induction r with
  | here => exact h.st
  | @step y o _ ho hw ih =>
    rcases h.cl y ih with z | z
    · cases z
    · exact z o ho hw
end Pm


set_option Elab.async false
set_option linter.all false
set_option maxRecDepth 100000
set_option maxHeartbeats 4000000
/-! CO: cores. -/
namespace Pm
open PySem PySem.Spec PyProof.Rows L2 Tr Wk
local macro_rules | `(tactic| exists $es,*) => do { let ls ← es.getElems.mapM fun e => `(Lean.Parser.Tactic.simpLemma| $e:term); `(tactic| simp -implicitDefEqProofs (disch := (first | assumption | omega | decide | (simp only [List.length_cons, List.length_nil, List.length_append, List.length_map, Tr.rgI_len]; omega) | (simp only [List.length_cons, List.length_nil, List.length_append, List.length_map, Int.toNat_natCast] at *; omega))) only [Tr.okT_lf, Tr.okT_nd, Tr.okT_li, Tr.okT_ll, Tr.okT_dk, Tr.okT_mks, Tr.okT_mk1, Tr.okT_mch, Tr.okT_scr, Tr.okT_tp, Tr.okO_some, Tr.gV_ev, Tr.gC_ev, Tr.gG_ev, Tr.fM_ev, Tr.fS_ev, Tr.gM_ev, Tr.gS_ev, Tr.fP_ev, Tr.fQ_ev, Tr.vr_ev, Tr.fRe_ev, Tr.re_ev, Tr.fO1_ev, Tr.o1V_ev, Tr.o1_ev, Tr.fO2V_ev, Tr.o2V_ev, Tr.fO2v'_ev, Tr.fO2v_ev, Tr.o2v_ev, Tr.fO2o'_ev, Tr.fO2o_ev, Tr.o2o_ev, Tr.fO2c'_ev, Tr.fO2c_ev, Tr.o2c_ev, Tr.fO2n''_ev, Tr.fO2n'_ev, Tr.fO2n_ev, Tr.o2n_ev, Tr.fAnd_ev, Tr.fOr_ev, Tr.dAnd_ev, Tr.dOr_ev, Tr.ite_BB, Tr.ite_decF, Tr.ite_Tdec, Tr.z_cast, Tr.z_ndec, Tr.ite_TF, Tr.ite_FT, Tr.bind_ite, Tr.aNil_ev, Tr.fCons'_ev, Tr.fCons_ev, Tr.aCons_ev, Tr.fCall'_ev, Tr.fCall_ev, Tr.dCall_ev, Tr.wb_nil, Tr.wb_none, Tr.fWb_ev, Tr.wb_some, Tr.fMeth'_ev, Tr.fMeth_ev, Tr.dMeth_ev, Tr.fMake'_ev, Tr.fMake_ev, Tr.dMake_ev, Tr.fSeq_nx, Tr.fSeq_rt, Tr.fSeq_bk, Tr.fSeq_ct, Tr.dSeq_ev, Tr.fIf_ev, Tr.dIf_ev, Tr.fSet_ev, Tr.dSet_ev, Tr.fRet_ev, Tr.dRet_ev, Tr.fEx_ev, Tr.dEx_ev, Tr.dRetN_ev, Tr.dNx_ev, Tr.dBk_ev, Tr.dCt_ev, Tr.dFail_ev, Tr.fPut''_ev, Tr.fPut'_ev, Tr.fPut1_ev, Tr.fPut_ev, Tr.dPut_ev, Tr.fMut3_ev, Tr.fMut2_ev, Tr.fMut1_ev, Tr.fMut_ev, Tr.dMut_ev, Tr.fLst_ev, Tr.fTup_ev, Tr.dLst_ev, Tr.dTup_ev, Tr.dDic_ev, Tr.fBw_ev, Tr.bw_ev, Tr.fFz_ev, Tr.fz_ev, Tr.fAug''_ev, Tr.fAug'_ev, Tr.fAug_ev, Tr.dAug_ev, Tr.z_ex, Tr.z_exT, Tr.fRng_nat, Tr.dRng_ev, Tr.fIt'_ev, Tr.fIt_ev, Tr.dIt_ev, Tr.fFor_ev, Tr.dFor_ev, Tr.gN_ev, Tr.fG_ev, Tr.gT2_ev, Tr.gT2_mk1, Tr.dFr_nil, Tr.turn_ev, Tr.fFr_nx, Tr.fFr_ct, Tr.fFr_bk, Tr.fFr_rt, Tr.dFr_cons, Tr.fLc'_ev, Tr.fLc_ev, Tr.dLc_ev, Tr.dLr_nil, Tr.wipeT_nil, Tr.wipeT_cons, Tr.backT_nil, Tr.backT_cons, Tr.cleanAt_nil, Tr.cleanAt_cons, Tr.fFun_rt, Tr.fFun_nx, Tr.dFun_ev, Tr.outs_cons, Tr.outs_nil, Tr.frzs_nil, Tr.frzs_cons, Tr.z_frz1, Tr.z_frz2, Tr.z_frz3, Tr.z_frz4, Tr.z_frz5, Tr.z_frz6, Tr.z_frz7, Tr.z_frz8, Tr.z_frz9, Tr.z_frz10, Tr.z_frz11, Tr.z_cln1, Tr.z_cln2, Tr.z_cln3, Tr.z_cln4, Tr.z_cln5, Tr.z_cln6, Tr.z_cln7, Tr.z_cln8, Tr.z_cln9, Tr.z_cln10, Tr.z_clns1, Tr.z_clns2, Tr.z_clns3, Tr.z_pure1, Tr.z_pure2, Tr.z_pure3, Tr.z_pure4, Tr.z_pure5, Tr.z_pure6, Tr.z_pure7, Tr.z_lfI, Tr.z_li, Tr.z_add, Tr.z_sub, Tr.z_mulr, Tr.z_mod, Tr.z_div, Tr.z_lt, Tr.z_le, Tr.z_gt, Tr.z_ge, Tr.z_eq, Tr.z_ne, Tr.z_neg, Tr.z_eqli, Tr.z_neli, Tr.z_eqnil, Tr.z_nenil, Tr.z_inli, Tr.z_ninli, Tr.z_indk, Tr.z_nindk, Tr.z_ll, Tr.z_mks, Tr.z_nil, Tr.z_appll, Tr.z_int1, Tr.z_int2, Tr.z_len1, Tr.z_len2, Tr.z_len3, Tr.z_len4, Tr.z_len5, Tr.z_len6, Tr.z_len7, Tr.z_not, Tr.z_isi1, Tr.z_isi2, Tr.z_isi3, Tr.z_isi4, Tr.z_isi5, Tr.z_isi6, Tr.z_list1, Tr.z_sort1, Tr.z_sort2, Tr.z_app1, Tr.z_app2, Tr.z_pop1, Tr.z_clr1, Tr.z_clr2, Tr.z_rev1, Tr.z_ext1, Tr.z_cat1, Tr.z_it1, Tr.z_it2, Tr.z_it3, Tr.z_it4, Tr.z_ty1, Tr.z_ty2, Tr.z_ty3, Tr.z_ty4, Tr.z_fst, Tr.z_fma, Tr.z_ffa, Tr.z_ins1, Tr.z_ins2, Tr.z_ins3, Tr.z_ins4, Tr.z_ins5, Tr.z_ixli, Tr.z_ixll, Tr.z_ixlast, Tr.z_setdk, Tr.fDic1_ev, Tr.fDic1'_ev, Tr.dDic1_ev, Tr.fLRg_nat, Tr.dLRg_ev, Tr.z_len8, Tr.z_bind_some, Tr.z_get0, Tr.z_gets, Tr.z_getD0, Tr.z_getDs, Tr.z_set0, Tr.z_sets, Tr.z_app, Tr.z_nil_app, Tr.z_app_nil, Tr.z_map0, Tr.z_mapc, Tr.z_rep0, Tr.z_reps, Tr.z_lenc, Tr.z_lenn, ↓reduceIte, ite_true, ite_false, Nat.reduceAdd, Nat.reduceSub, Nat.reduceLT, Nat.reduceLeDiff, Nat.zero_add, Nat.lt_add_one, Nat.zero_lt_succ, decide_true, decide_false, decide_eq_true_eq, decide_eq_false_iff_not, Bool.not_eq_true, Bool.not_eq_false, Bool.not_true, Bool.not_false, Bool.not_eq_true', Bool.and_true, Bool.true_and, Bool.and_self, Bool.and_eq_true, Bool.or_eq_true, not_true_eq_false, not_false_eq_true, eq_self, and_self, and_true, true_and, false_and, and_false, or_true, true_or, or_false, false_or, reduceCtorEq, Bool.false_eq_true, Int.toNat_natCast, Int.reduceToNat, Int.reduceEq, Int.reduceLT, Int.reduceLE, Int.reduceNeg, Int.reduceAdd, Int.reduceSub, Int.reduceMul, List.length_map, Bool.not_not, Bool.not_eq_eq_eq_not, Decidable.not_not, Nat.reduceEqDiff, Bool.false_and, Bool.and_false, Option.isSome_some, Option.isSome_none, Option.isNone_some, Option.isNone_none, $ls,*]) }

theorem keyed_any (o : Bool) (xs : List Int) (nd : xs.Nodup) (hl : xs.length ≤ 900) : m_keyed [li o xs] = some (dk true (kI xs), [.no]) := by
  obtain ⟨env', h1, x2, rfl⟩ := lp_li (dg := gN 2) (d := l_keyed_1) xs (fun i env => ∃ x2, env = e_keyed .no (dk true (kI (xs.take i))) x2) (e_keyed .no (dk true []) .no) ⟨_, rfl⟩ (by
    rintro i hi env ⟨x2, rfl⟩
    have h2 := new_at nd hi
    have h3 : (xs.take i).Nodup := nd.take
    have h4 : (xs.take i).length < 1000 := by simp; omega
    exists l_keyed_1, h2
    exact ⟨_, by rw [List.take_succ_eq_append_getElem hi]⟩)
  rw [List.take_length] at h1
  exists m_keyed, bn_keyed, h1
theorem touches_at (rs ms fs) (x : Int) (h0 : 0 ≤ x) (h : x.toNat < rs.length) (s : List Int) : m_touches [mch false rs ms fs, .lf (.int x), dk false (kI s)] = some (B (tch rs s x), [.no, .no, dk false (kI s)]) := by
  have := touches_ok rs ms fs x.toNat h s
  rwa [show ((x.toNat : Nat) : Int) = x by omega] at this
theorem ix_lst (o : Bool) (xs : List (List Int)) (h : xs ≠ []) : oIx (ll o xs) (.lf (.int (-1))) = some (li o (xs.getD (xs.length - 1) [])) := by
  obtain ⟨pre, s, rfl⟩ : ∃ pre s, xs = pre ++ [s] := ⟨xs.dropLast, xs.getLast h, (List.dropLast_concat_getLast h).symm⟩
  rw [ix_last]; simp
theorem shr_step (rs ms fs) (Wt : T) (s : List Int) (pre : List (List Int)) (X3 X4 : T) (hl : s.length ≤ 900) (hp : pre.length ≤ 900) (nd : s.Nodup) (bd : ∀ x ∈ s, 0 ≤ x ∧ x < rs.length) :
    l_shrinking_1 (e_shrinking (mch false rs ms fs) Wt (ll true (pre ++ [s])) X3 X4 .no) = if (nxt rs s).length = s.length then some (.rt (ll true (pre ++ [s])), e_shrinking (mch false rs ms fs) Wt .no (dk true (kI s)) (li true (nxt rs s)) .no)
      else some (.nx, e_shrinking (mch false rs ms fs) Wt (ll true (pre ++ [s] ++ [nxt rs s])) (dk true (kI s)) .no .no) := by
  have hi := ix_last true pre s
  have hi2 := ix_last false pre s
  have hky := keyed_any false s nd (by omega)
  have lc : ∀ A B : T, dLr (gN 5) y_shrinking_1 x_shrinking_1 [5] (s.map lfI) [] [mch false rs ms fs, A, ll false (pre ++ [s]), dk false (kI s), B, .no] = some ((nxt rs s).map lfI, [mch false rs ms fs, A, ll false (pre ++ [s]), dk false (kI s), B, .no]) := fun A B => by
    refine lc_filter _ s (fun x => tch rs s x) (by omega) fun x hx => ?_
    have h := bd x hx
    have t := touches_at rs ms fs x h.1 (by omega) s
    refine ⟨[mch false rs ms fs, A, ll false (pre ++ [s]), dk false (kI s), B, I x], [mch false rs ms fs, A, ll false (pre ++ [s]), dk false (kI s), B, I x], rfl, ?_, fun _ => ⟨[mch false rs ms fs, A, ll false (pre ++ [s]), dk false (kI s), B, .no], ?_, ?_⟩, fun _ => ?_⟩
    · exists y_shrinking_1, t
    · exists x_shrinking_1
    · exists wipeT
    · exists wipeT
  have hl2 : (pre ++ [s]).length ≤ 1000 := by simp; omega
  exists l_shrinking_1, hi, hi2, hky, lc
theorem shr_loopA (rs ms fs) (Wt : T) : ∀ (k : Nat) (s : List Int) (pre : List (List Int)) (X3 X4 : T) (m : Nat), s.length ≤ k → k < m → pre.length + k ≤ 900 → s.Nodup → (∀ x ∈ s, 0 ≤ x ∧ x < rs.length) →
    ∃ e, dWh c_shrinking_1 l_shrinking_1 m (e_shrinking (mch false rs ms fs) Wt (ll true (pre ++ [s])) X3 X4 .no) = some (.rt (ll true (pre ++ shr rs k s)), e) ∧ outs [true, true] e = [mch false rs ms fs, Wt] := by
  intro k
  induction k with
  | zero =>
    intro s pre X3 X4 m hk hm hp nd bd
    obtain ⟨m, rfl⟩ : ∃ m', m = m' + 1 := ⟨m - 1, by omega⟩
    have es : s = [] := List.length_eq_zero_iff.mp (by omega)
    subst es
    exact ⟨_, wh_rt rfl (by rw [shr_step rs ms fs Wt [] pre X3 X4 (by simp) (by omega) nd bd, if_pos (show (nxt rs []).length = [].length from rfl)]; rfl), rfl⟩
  | succ k ih =>
    intro s pre X3 X4 m hk hm hp nd bd
    obtain ⟨m, rfl⟩ : ∃ m', m = m' + 1 := ⟨m - 1, by omega⟩
    have st := shr_step rs ms fs Wt s pre X3 X4 (by omega) (by omega) nd bd
    by_cases hq : (nxt rs s).length = s.length
    · rw [if_pos hq] at st
      exact ⟨_, wh_rt rfl (by rw [st, shr_succ, if_pos hq]), rfl⟩
    · rw [if_neg hq] at st
      have le := nxt_le rs s
      obtain ⟨e, h1, h2⟩ := ih (nxt rs s) (pre ++ [s]) (dk true (kI s)) .no m (by omega) (by omega) (by simp; omega) (nd.filter _) fun x hx => bd x (List.mem_filter.mp hx).1
      refine ⟨e, (wh_go rfl st).trans (h1.trans ?_), h2⟩
      rw [shr_succ, if_neg hq]; simp
theorem shrinking_any (o : Bool) (rs ms fs) (s : List Int) (n : Nat) (hn : n ≤ 800) (hl : s.length ≤ n) (nd : s.Nodup) (bd : ∀ x ∈ s, 0 ≤ x ∧ x < rs.length) :
    m_shrinking [mch false rs ms fs, li o s] = some (ll true (shr rs n s), [mch false rs ms fs, li o s]) := by
  obtain ⟨e, h1, h2⟩ := shr_loopA rs ms fs (li o s) n s [] .no .no 4000 hl (by omega) (by simp; omega) nd bd
  have h3 : dWh c_shrinking_1 l_shrinking_1 4000 [mch false rs ms fs, li o s, .nd true .lst [li true s], .no, .no, .no] = some (.rt (ll true (shr rs n s)), e) := h1
  exists m_shrinking, bn_shrinking, h3, h2
theorem growing_any (o o' : Bool) (n : Nat) (rs ms fs) (hrs : rs.length = n) (hn : n ≤ 60) (W G : List Int) (hW : Asc n W) (hG : Asc n G) :
    m_growing [mch false rs ms fs, li o W, li o' G] = some (ll true (gro n rs W G n G), [mch false rs ms fs, .no, li false G]) := by
  obtain ⟨e, h1, h2⟩ := gro_loop n rs ms fs hrs hn W G n G [] .no .no .no 4000 (by omega) (by omega) (by simp; omega) (onw_goal hG)
  have h3 : dWh c_growing_1 l_growing_1 4000 [mch false rs ms fs, .no, li false G, dk true (kI G), dk true (kI W), .nd true .lst [li true G], .no, .no, .no] = some (.rt (ll true (gro n rs W G n G)), e) := h1
  have kW := keyed_any o W hW.nd (by have := hW.len; omega)
  have kG := keyed_any false G hG.nd (by have := hG.len; omega)
  exists m_growing, bn_growing, h3, h2, kW, kG
/-! ### what the last rounds are -/
def lst (F : List (List Int)) : List Int := F.getD (F.length - 1) []
theorem rnds_ind {f : List Int → List Int} {F : List (List Int)} {s : List Int} (h : Rnds f F s) (P : List Int → Prop) (h0 : P s) (hs : ∀ t, P t → P (f t)) : P (lst F) := by
  have a : ∀ i, i < F.length → P (F.getD i []) := by
    intro i
    induction i with
    | zero => intro _; rw [h.hd]; exact h0
    | succ i ih => intro hi; rw [h.st i hi]; exact hs _ (ih (by omega))
  exact a _ (by have := h.ne; omega)
theorem mem_nxt {rs : List (List Int)} {s : List Int} {x : Int} : x ∈ nxt rs s ↔ x ∈ s ∧ tch rs s x = true := List.mem_filter
theorem tch_iff {rs : List (List Int)} {s : List Int} {x : Int} : tch rs s x = true ↔ ∃ o ∈ rs.getD x.toNat [], o ∈ s := by
  unfold tch
  rw [List.any_eq_true]
  constructor
  · rintro ⟨o, h, k⟩; exact ⟨o, h, by simpa using k⟩
  · rintro ⟨o, h, k⟩; exact ⟨o, h, by simpa using k⟩
def shl (n : Nat) (rs : List (List Int)) (s : List Int) : List Int := lst (shr rs n s)
theorem shl_spec {n : Nat} {rs : List (List Int)} {s : List Int} (hs : Asc n s) : Asc n (shl n rs s) ∧ (∀ x ∈ shl n rs s, x ∈ s) ∧ (∀ x ∈ shl n rs s, tch rs (shl n rs s) x = true) ∧
    ∀ S : List Int, (∀ x ∈ S, x ∈ s) → (∀ x ∈ S, tch rs S x = true) → ∀ x ∈ S, x ∈ shl n rs s := by
  have R := (shr_rnds rs n s hs.len).1
  refine ⟨rnds_ind R (fun t => Asc n t) hs fun t h => ⟨h.lt.filter _, fun x hx => h.bd x (List.mem_filter.mp hx).1⟩, rnds_ind R (fun t => ∀ x ∈ t, x ∈ s) (fun x hx => hx) fun t h x hx => h x (mem_nxt.mp hx).1, fun x hx => ?_, fun S hS tS => ?_⟩
  · have e : nxt rs (shl n rs s) = shl n rs s := R.lst
    rw [← e] at hx
    exact (mem_nxt.mp hx).2
  · exact rnds_ind R (fun t => ∀ x ∈ S, x ∈ t) hS fun t h x hx => mem_nxt.mpr ⟨h x hx, tch_mono h (tS x hx)⟩
/-- to G by steps through W -/
inductive Till (rs : List (List Int)) (W G : List Int) : Int → Prop
  | goal {x : Int} : x ∈ G → Till rs W G x
  | step {x o : Int} : x ∈ W → o ∈ rs.getD x.toNat [] → Till rs W G o → Till rs W G x
def grl (n : Nat) (rs : List (List Int)) (W G : List Int) : List Int := lst (gro n rs W G n G)
theorem grl_spec {n : Nat} {rs : List (List Int)} {W G : List Int} (hW : Asc n W) (hG : Asc n G) : Asc n (grl n rs W G) ∧ ∀ x : Int, x ∈ grl n rs W G ↔ Till rs W G x := by
  have R := (gro_rnds n rs W G n G (by omega) (onw_goal hG)).1
  have hA : Asc n (grl n rs W G) := (rnds_ind R (fun t => Onw n rs W G t) (onw_goal hG) fun t h => onw_next h).asc
  refine ⟨hA, fun x => ⟨fun hx => ?_, fun hx => ?_⟩⟩
  · have := rnds_ind R (fun t => ∀ x ∈ t, Till rs W G x) (fun x hx => .goal hx) fun t h x hx => by
      have := (mem_pick.mp hx).2
      rw [Bool.or_eq_true, Bool.and_eq_true] at this
      rcases this with h1 | ⟨h1, h2⟩
      · exact .goal (by simpa using h1)
      · obtain ⟨o, h3, h4⟩ := tch_iff.mp h2
        exact .step (by simpa using h1) h3 (h o h4)
    exact this x hx
  · have e : grw n rs W G (grl n rs W G) = grl n rs W G := R.lst
    induction hx with
    | goal h => rw [← e]; exact mem_pick.mpr ⟨hG.bd _ h, by simp [h]⟩
    | step h1 h2 _ ih =>
      rw [← e]
      exact mem_pick.mpr ⟨hW.bd _ h1, by simp [h1, tch_iff.mpr ⟨_, h2, ih⟩]⟩
theorem Rch.cons {rs : List (List Int)} {W : List Int} {x o y : Int} (h : o ∈ rs.getD x.toNat []) (hw : o ∈ W) (r : Rch rs W o y) : Rch rs W x y := by
  induction r with
  | here => exact .step .here h hw
  | step _ h2 h3 ih => exact .step ih h2 h3
theorem Rch.trans {rs : List (List Int)} {W : List Int} {x y z : Int} (a : Rch rs W x y) (b : Rch rs W y z) : Rch rs W x z := by
  induction b with
  | here => exact a
  | step _ h2 h3 ih => exact .step ih h2 h3
theorem Rch.mono {rs : List (List Int)} {W V : List Int} {x y : Int} (h : ∀ x ∈ W, x ∈ V) (a : Rch rs W x y) : Rch rs V x y := by
  induction a with
  | here => exact .here
  | step _ h2 h3 ih => exact .step ih h2 (h _ h3)
theorem Rch.inW {rs : List (List Int)} {W : List Int} {x y : Int} (hx : x ∈ W) (a : Rch rs W x y) : y ∈ W := by
  cases a with
  | here => exact hx
  | step _ _ h3 => exact h3
theorem Till.rch {rs : List (List Int)} {W G : List Int} {x : Int} (hG : ∀ y ∈ G, y ∈ W) (t : Till rs W G x) : ∃ y ∈ G, Rch rs W x y := by
  induction t with
  | goal h => exact ⟨_, h, .here⟩
  | @step x o h1 h2 h3 ih =>
    obtain ⟨y, hy, r⟩ := ih
    have ho : o ∈ W := by
      cases h3 with
      | goal h => exact hG _ h
      | step h _ _ => exact h
    exact ⟨y, hy, r.cons h2 ho⟩
theorem Rch.till {rs : List (List Int)} {W G : List Int} {x y : Int} (hx : x ∈ W) (r : Rch rs W x y) : y ∈ G → Till rs W G x := by
  have : Till rs W G y → Till rs W G x := by
    induction r with
    | here => exact id
    | step r h2 h3 ih => exact fun t => ih (.step (r.inW hx) h2 t)
  exact fun h => this (.goal h)
/-- every stand steps into S and comes within S to each fair set -/
structure Good (rs fs : List (List Int)) (S : List Int) : Prop where
  st : ∀ x ∈ S, tch rs S x = true
  fr : ∀ f ∈ fs, ∀ x ∈ S, ∃ y ∈ f, Rch rs S x y
/-- the greatest such set within W -/
structure CoreOf (n : Nat) (rs fs : List (List Int)) (W K : List Int) : Prop where
  asc : Asc n K
  sub : ∀ x ∈ K, x ∈ W
  good : Good rs fs K
  max : ∀ S : List Int, (∀ x ∈ S, x ∈ W) → Good rs fs S → ∀ x ∈ S, x ∈ K
theorem CoreOf.uniq {n : Nat} {rs fs : List (List Int)} {W K K' : List Int} (a : CoreOf n rs fs W K) (b : CoreOf n rs fs W K') : K = K' :=
  asc_ext a.asc b.asc fun x => ⟨b.max K a.sub a.good x, a.max K' b.sub b.good x⟩
/-- one fair set: those that come to it, and go on -/
def cut (n : Nat) (rs : List (List Int)) (f K : List Int) : List Int := shl n rs (grl n rs K (K.filter fun x => decide (x ∈ f)))
/-- a state of the rounds -/
structure Cst (n : Nat) (rs fs : List (List Int)) (W K : List Int) : Prop where
  asc : Asc n K
  sub : ∀ x ∈ K, x ∈ W
  st : ∀ x ∈ K, tch rs K x = true
  max : ∀ S : List Int, (∀ x ∈ S, x ∈ W) → Good rs fs S → ∀ x ∈ S, x ∈ K
theorem flt_asc {n : Nat} {K : List Int} (h : Asc n K) (p : Int → Bool) : Asc n (K.filter p) := ⟨h.lt.filter _, fun x hx => h.bd x (List.mem_filter.mp hx).1⟩
theorem cut_sub {n : Nat} {rs : List (List Int)} {f K : List Int} (h : Asc n K) : ∀ x ∈ cut n rs f K, x ∈ K ∧ ∃ y ∈ f, Rch rs K x y := by
  intro x hx
  have hG := flt_asc h fun x => decide (x ∈ f)
  have g := grl_spec (rs := rs) h hG
  have t := (g.2 x).mp ((shl_spec g.1).2.1 x hx)
  obtain ⟨y, hy, r⟩ := t.rch fun y hy => (List.mem_filter.mp hy).1
  refine ⟨?_, y, by simpa using (List.mem_filter.mp hy).2, r⟩
  cases t with
  | goal h => exact (List.mem_filter.mp h).1
  | step h _ _ => exact h
theorem cut_st {n : Nat} {rs fs : List (List Int)} {W K f : List Int} (hf : f ∈ fs) (h : Cst n rs fs W K) : Cst n rs fs W (cut n rs f K) := by
  have hG := flt_asc h.asc fun x => decide (x ∈ f)
  have g := grl_spec (rs := rs) h.asc hG
  have s := shl_spec (rs := rs) g.1
  refine ⟨s.1, fun x hx => h.sub x (cut_sub h.asc x hx).1, s.2.2.1, fun S hS gS => s.2.2.2 S (fun x hx => ?_) gS.st⟩
  have hK := h.max S hS gS
  obtain ⟨y, hy, r⟩ := gS.fr f hf x hx
  exact (g.2 x).mpr ((r.mono hK).till (hK x hx) (List.mem_filter.mpr ⟨hK y (r.inW hx), by simpa using hy⟩))
/-- a round that changes nothing: the core -/
theorem cst_end {n : Nat} {rs fs : List (List Int)} {W K : List Int} (h : Cst n rs fs W K) (e : ∀ f ∈ fs, cut n rs f K = K) : CoreOf n rs fs W K :=
  ⟨h.asc, h.sub, ⟨h.st, fun f hf x hx => (cut_sub h.asc x (by rw [e f hf]; exact hx)).2⟩, h.max⟩
def rnd (n : Nat) (rs fs : List (List Int)) (K : List Int) : List Int := fs.foldl (fun K f => cut n rs f K) K
theorem rnd_spec {n : Nat} {rs fs : List (List Int)} {W : List Int} : ∀ (gs : List (List Int)) (K : List Int), (∀ f ∈ gs, f ∈ fs) → Cst n rs fs W K →
    Cst n rs fs W (rnd n rs gs K) ∧ (∀ x ∈ rnd n rs gs K, x ∈ K) ∧ ((rnd n rs gs K).length = K.length → ∀ f ∈ gs, cut n rs f K = K)
  | [], K, _, h => ⟨h, fun x hx => hx, fun _ f hf => by cases hf⟩
  | g :: gs, K, hg, h => by
    have h1 := cut_st (hg g (List.mem_cons_self ..)) h
    obtain ⟨a, b, c⟩ := rnd_spec gs (cut n rs g K) (fun f hf => hg f (List.mem_cons_of_mem _ hf)) h1
    have e : rnd n rs (g :: gs) K = rnd n rs gs (cut n rs g K) := rfl
    rw [e]
    have s1 := asc_sub h1.asc h.asc fun x hx => (cut_sub h.asc x hx).1
    have s2 := asc_sub a.asc h1.asc b
    refine ⟨a, fun x hx => (cut_sub h.asc x (b x hx)).1, fun hl f hf => ?_⟩
    have e1 : cut n rs g K = K := s1.2 (by omega)
    rcases List.mem_cons.mp hf with rfl | hf
    · exact e1
    · have := c (by omega) f hf
      rwa [e1] at this
theorem core_turn {n : Nat} (rs ms fs) (hrs : Stps n rs) (hfs : Frs n fs) {W K : List Int} (h : Cst n rs fs W K) (i : Nat) (hi : i < fs.length) (A X4 X5 X6 : T) :
    ∃ x5, turn (gN 4) l_core_2 (I (i : Int)) (e_core (mch false rs ms fs) .no (li true K) A X4 X5 X6 .no) = some (.nx, e_core (mch false rs ms fs) .no (li true (cut n rs (fs.getD i []) K)) A .no x5 .no .no) := by
  have ef : fs.getD i [] = fs[i] := by simp [hi]
  have okf := hfs.okl fs[i] (List.getElem_mem hi)
  have n60 := hrs.le
  have hn := hrs.len
  have kl := h.asc.len
  have ky := keyed_any true (isort (fs.getD i [])) (by rw [ef]; exact (isort_perm _).nodup_iff.mpr okf.nd) (by rw [ef, (isort_perm _).length_eq]; have := okf.le; omega)
  have hG := flt_asc h.asc fun x => decide (x ∈ fs.getD i [])
  have g := grl_spec (rs := rs) h.asc hG
  have hgr := growing_any false true n rs ms fs hn n60 K _ h.asc hG
  have hne : gro n rs K (K.filter fun x => decide (x ∈ fs.getD i [])) n (K.filter fun x => decide (x ∈ fs.getD i [])) ≠ [] := by
    have := (gro_rnds n rs K _ n _ (by omega) (onw_goal (rs := rs) (W := K) hG)).1.ne
    intro e; rw [e] at this; cases this
  have hix := ix_lst true _ hne
  have gl := g.1.len
  have hsh := shrinking_any true rs ms fs (grl n rs K (K.filter fun x => decide (x ∈ fs.getD i []))) n (by omega) gl g.1.nd (by rw [hn]; exact g.1.bd)
  have hne2 : shr rs n (grl n rs K (K.filter fun x => decide (x ∈ fs.getD i []))) ≠ [] := by
    have := (shr_rnds rs n _ gl).1.ne
    intro e; rw [e] at this; cases this
  have hix2 := ix_lst true _ hne2
  have lc : ∀ A B C : T, dLr (gN 7) y_core_1 x_core_1 [7] (K.map lfI) [] [mch false rs ms fs, .no, li false K, A, C, dk true (kI (isort (fs.getD i []))), B, .no] = some ((K.filter fun x => decide (x ∈ fs.getD i [])).map lfI, [mch false rs ms fs, .no, li false K, A, C, dk true (kI (isort (fs.getD i []))), B, .no]) := fun A B C => by
    refine lc_filter _ K _ (by omega) fun x hx => ?_
    refine ⟨[mch false rs ms fs, .no, li false K, A, C, dk true (kI (isort (fs.getD i []))), B, I x], [mch false rs ms fs, .no, li false K, A, C, dk true (kI (isort (fs.getD i []))), B, I x], rfl, ?_, fun _ => ⟨[mch false rs ms fs, .no, li false K, A, C, dk true (kI (isort (fs.getD i []))), B, .no], ?_, ?_⟩, fun _ => ?_⟩
    · have : (x ∈ isort (fs.getD i [])) = (x ∈ fs.getD i []) := propext (isort_perm _).mem_iff
      exists y_core_1, this
    · exists x_core_1
    · exists wipeT
    · exists wipeT
  rw [show gro n rs K (K.filter fun x => decide (x ∈ fs.getD i [])) n (K.filter fun x => decide (x ∈ fs.getD i [])) = gro n rs K (K.filter fun x => decide (x ∈ fs.getD i [])) n (K.filter fun x => decide (x ∈ fs.getD i [])) from rfl] at hix
  have hix' : oIx (ll true (gro n rs K (K.filter fun x => decide (x ∈ fs.getD i [])) n (K.filter fun x => decide (x ∈ fs.getD i [])))) (.lf (.int (-1))) = some (li true (grl n rs K (K.filter fun x => decide (x ∈ fs.getD i [])))) := hix
  have hix2' : oIx (ll true (shr rs n (grl n rs K (K.filter fun x => decide (x ∈ fs.getD i []))))) (.lf (.int (-1))) = some (li true (cut n rs (fs.getD i []) K)) := hix2
  exists l_core_2, m_Machine_fair_at, bn_Machine_fair_at, ky, lc, hgr, hix', hsh, hix2'
  exact ⟨_, rfl⟩
theorem core_round {n : Nat} (rs ms fs) (hrs : Stps n rs) (hfs : Frs n fs) {W K : List Int} (h : Cst n rs fs W K) (X3 X4 X5 X6 : T) :
    ∃ e, l_core_1 (e_core (mch false rs ms fs) .no (li true K) X3 X4 X5 X6 .no) = (if (rnd n rs fs K).length = K.length then some (.rt (li true (rnd n rs fs K)), e) else some (.nx, e)) ∧
      (∃ x3 x4 x5 x6, e = e_core (mch false rs ms fs) .no (if (rnd n rs fs K).length = K.length then .no else li true (rnd n rs fs K)) x3 x4 x5 x6 .no) := by
  obtain ⟨env', h1, x4, x5, x6, rfl⟩ := lp_rng (dg := gN 4) (d := l_core_2) fs.length (fun i env => ∃ x4 x5 x6, env = e_core (mch false rs ms fs) .no (li true (rnd n rs (fs.take i) K)) (I K.length) x4 x5 x6 .no) (e_core (mch false rs ms fs) .no (li true K) (I K.length) X4 X5 X6 .no) ⟨_, _, _, rfl⟩ (by
    rintro i hi env ⟨x4, x5, x6, rfl⟩
    have hc := (rnd_spec (fs.take i) K (fun f hf => List.mem_of_mem_take hf) h).1
    obtain ⟨x5', e⟩ := core_turn rs ms fs hrs hfs hc i hi (I K.length) x4 x5 x6
    refine ⟨_, e, .no, x5', .no, ?_⟩
    have : rnd n rs (fs.take (i + 1)) K = cut n rs (fs.getD i []) (rnd n rs (fs.take i) K) := by
      rw [List.take_succ_eq_append_getElem hi]; unfold rnd; rw [List.foldl_append]; simp [hi]
    rw [this])
  rw [List.take_length] at h1
  have f60 := hfs.le
  by_cases hq : (rnd n rs fs K).length = K.length
  · refine ⟨e_core (mch false rs ms fs) .no .no (I K.length) x4 x5 x6 .no, ?_, _, _, _, _, by rw [if_pos hq]⟩
    exists l_core_1, h1, hq
  · refine ⟨e_core (mch false rs ms fs) .no (li true (rnd n rs fs K)) (I K.length) x4 x5 x6 .no, ?_, _, _, _, _, by rw [if_neg hq]⟩
    exists l_core_1, h1, hq
theorem core_loop {n : Nat} (rs ms fs) (hrs : Stps n rs) (hfs : Frs n fs) {W : List Int} : ∀ (k : Nat) (K : List Int) (X3 X4 X5 X6 : T) (m : Nat), K.length ≤ k → k < m → Cst n rs fs W K →
    ∃ K', CoreOf n rs fs W K' ∧ ∃ e, dWh c_core_1 l_core_1 m (e_core (mch false rs ms fs) .no (li true K) X3 X4 X5 X6 .no) = some (.rt (li true K'), e) ∧ outs [true, true] e = [mch false rs ms fs, .no] := by
  intro k
  induction k with
  | zero =>
    intro K X3 X4 X5 X6 m hk hm h
    obtain ⟨m, rfl⟩ : ∃ m', m = m' + 1 := ⟨m - 1, by omega⟩
    obtain ⟨e, h1, x3, x4, x5, x6, rfl⟩ := core_round rs ms fs hrs hfs h X3 X4 X5 X6
    obtain ⟨a, b, c⟩ := rnd_spec fs K (fun f hf => hf) h
    have hq : (rnd n rs fs K).length = K.length := by have := (asc_sub a.asc h.asc b).1; omega
    have e : rnd n rs fs K = K := (asc_sub a.asc h.asc b).2 hq
    rw [if_pos hq] at h1
    exact ⟨K, cst_end h (c hq), _, wh_rt rfl (by rw [h1, e]), rfl⟩
  | succ k ih =>
    intro K X3 X4 X5 X6 m hk hm h
    obtain ⟨m, rfl⟩ : ∃ m', m = m' + 1 := ⟨m - 1, by omega⟩
    obtain ⟨e, h1, x3, x4, x5, x6, rfl⟩ := core_round rs ms fs hrs hfs h X3 X4 X5 X6
    obtain ⟨a, b, c⟩ := rnd_spec fs K (fun f hf => hf) h
    by_cases hq : (rnd n rs fs K).length = K.length
    · have e : rnd n rs fs K = K := (asc_sub a.asc h.asc b).2 hq
      rw [if_pos hq] at h1
      exact ⟨K, cst_end h (c hq), _, wh_rt rfl (by rw [h1, e]), rfl⟩
    · rw [if_neg hq] at h1
      rw [if_neg hq] at h1
      have := (asc_sub a.asc h.asc b).1
      obtain ⟨K', g1, e, g2, g3⟩ := ih (rnd n rs fs K) x3 x4 x5 x6 m (by omega) (by omega) a
      exact ⟨K', g1, e, (wh_go rfl h1).trans g2, g3⟩
/-- the core is the greatest good set -/
theorem core_ok (o o' : Bool) {n : Nat} (rs ms fs) (hrs : Stps n rs) (hfs : Frs n fs) {W : List Int} (hW : Asc n W) :
    ∃ K, CoreOf n rs fs W K ∧ m_core [mch o' rs ms fs, li o W] = some (li true K, [mch false rs ms fs, .no]) := by
  have n60 := hrs.le
  have hn := hrs.len
  have wl := hW.len
  have s := shl_spec (rs := rs) hW
  have c0 : Cst n rs fs W (shl n rs W) := ⟨s.1, s.2.1, s.2.2.1, fun S hS g => s.2.2.2 S hS g.st⟩
  have kl := s.1.len
  obtain ⟨K, h1, e, h2, h3⟩ := core_loop rs ms fs hrs hfs n (shl n rs W) .no .no .no .no 4000 kl (by omega) c0
  have hne2 : shr rs n W ≠ [] := by
    have := (shr_rnds rs n _ wl).1.ne
    intro e; rw [e] at this; cases this
  have hix2 := ix_lst true _ hne2
  have hix2' : oIx (ll true (shr rs n W)) (.lf (.int (-1))) = some (li true (shl n rs W)) := hix2
  have hsh := shrinking_any o rs ms fs W n (by omega) wl hW.nd (by rw [hn]; exact hW.bd)
  refine ⟨K, h1, ?_⟩
  exists m_core, bn_core, hsh, hix2', h2, h3
end Pm


set_option Elab.async false
set_option linter.all false
set_option maxRecDepth 100000
set_option maxHeartbeats 4000000
/-! EV2: more things: lists by a function of the place (ranks, Nones), dicts of lists; a loop that answers at the first of these. -/
namespace Tr
open PySem PySem.Spec PyProof.Rows L2 Pm

--ev
theorem z_c0 : ((0 : Nat) : Int) = 0 := rfl
--ev
theorem z_c1 : ((1 : Nat) : Int) = 1 := rfl
--ev
theorem z_c2 : ((2 : Nat) : Int) = 2 := rfl
--ev
theorem z_c3 : ((3 : Nat) : Int) = 3 := rfl
def oV : Option Int → T
  | some i => I i
  | none => N
theorem frz_oV (x : Option Int) : frz (oV x) = oV x := by cases x <;> exact frz_lf _
theorem cln_oV (x : Option Int) : cln (oV x) = true := by cases x <;> exact cln_lf _
theorem pure_oV (x : Option Int) : pureT (oV x) = true := by cases x <;> exact pure_lf _
theorem okT_oV (x) : okT (oV x) = some (oV x) := by cases x <;> rfl
/-- a rank, or None -/
def rkT : Option (Int × Option Int) → T
  | none => N
  | some r => .nd false .tup [I r.1, oV r.2]
theorem frz_rk (x) : frz (rkT x) = rkT x := by cases x with
  | none => exact frz_lf _
  | some r => unfold rkT; rw [frz_nd, frzs, frzs, frzs, frz_lf, frz_oV]
theorem cln_rk (x) : cln (rkT x) = true := by rw [← frz_rk]; exact cln_frz _
theorem okT_rk (x) : okT (rkT x) = some (rkT x) := by cases x <;> rfl
/-- a list with a thing for each of n -/
def tl (o : Bool) (n : Nat) (f : Int → T) : T := .nd o .lst ((rgI n).map f)
def rl (o : Bool) (n : Nat) (F : Int → Option (Int × Option Int)) : T := tl o n fun x => rkT (F x)
theorem rgI_get {n : Nat} {i : Nat} (h : i < n) : (rgI n)[i]? = some (i : Int) := by simp [rgI, h]
theorem ix_tl (o n f i) (h0 : 0 ≤ i) (h : i.toNat < n) : oIx (tl o n f) (.lf (.int i)) = some (f i) := by
  show L2.atI ((rgI n).map f) i = _
  rw [atI_of h0 (by simpa [rgI_len] using h), List.getElem?_map, rgI_get h]
  simp [show ((i.toNat : Nat) : Int) = i by omega]
theorem set_tl (n f i t) (h0 : 0 ≤ i) (h : i.toNat < n) : mSetL (.int i) (tl true n f) [t] = some (.lf .non, tl true n fun y => if y = i then t else f y) := by
  have e : ixN ((rgI n).map f).length i = some i.toNat := by
    unfold ixN
    rw [if_pos h0, if_pos (by simp [rgI_len]; omega)]
  show (ixN ((rgI n).map f).length i).map _ = _
  rw [e]
  simp only [Option.map_some, tl]
  congr 3
  refine List.ext_getElem (by simp) fun j h1 h2 => ?_
  rw [List.getElem_set]
  simp only [List.getElem_map]
  have hj : (rgI n)[j]'(by simpa using h2) = (j : Int) := by
    have := rgI_get (n := n) (i := j) (by simpa [rgI_len] using h2)
    rw [List.getElem?_eq_getElem (by simpa using h2)] at this
    exact Option.some.inj this
  rw [hj]
  by_cases hi : i.toNat = j
  · rw [if_pos hi, if_pos (by omega)]
  · rw [if_neg hi, if_neg (by omega)]
theorem frz_tl (o n f) : frz (tl o n f) = tl false n fun x => frz (f x) := by
  unfold tl; rw [frz_nd, frzs_map, List.map_map]; rfl
theorem len_tl (o n f) : oLen (tl o n f) = some (.lf (.int n)) := by
  show some (I ((rgI n).map f).length) = _; rw [List.length_map, rgI_len]
theorem it_tl (o n f) : itemsL (tl o n f) = some ((rgI n).map fun x => frz (f x)) := by
  show some (frzs ((rgI n).map f)) = _; rw [frzs_map, List.map_map]; rfl
--ev
theorem z_okoV (x) : okT (oV x) = some (oV x) := okT_oV x
--ev
theorem z_okrk (x) : okT (rkT x) = some (rkT x) := okT_rk x
--ev
theorem z_okrl (o n F) : okT (rl o n F) = some (rl o n F) := rfl
--ev
theorem z_frzoV (x) : frz (oV x) = oV x := frz_oV x
--ev
theorem z_clnoV (x) : cln (oV x) = true := cln_oV x
--ev
theorem z_pureoV (x) : pureT (oV x) = true := pure_oV x
--ev
theorem z_frzrk (x) : frz (rkT x) = rkT x := frz_rk x
--ev
theorem z_clnrk (x) : cln (rkT x) = true := cln_rk x
theorem frz_rl (o n F) : frz (rl o n F) = rl false n F := by
  unfold rl; rw [frz_tl]; simp only [frz_rk]
--ev
theorem z_frzrl (o n F) : frz (rl o n F) = rl false n F := frz_rl o n F
--ev
theorem z_clnrl (n F) : cln (rl false n F) = true := by rw [← frz_rl true]; exact cln_frz _
--ev
theorem z_ixrl (o n F i) (h0 : 0 ≤ i) (h : i.toNat < n) : oIx (rl o n F) (.lf (.int i)) = some (rkT (F i)) := ix_tl o n _ i h0 h
--ev
theorem z_lenrl (o n F) : oLen (rl o n F) = some (.lf (.int n)) := len_tl o n _
--ev
theorem z_isirl (o n F) : oIsi "list" (rl o n F) = some (.lf (.bl true)) := isi_list o _
--ev
theorem z_tyrl (o n F) : isTy "list" (rl o n F) = true := rfl
--ev
theorem z_clrrl (n F) : mClear (rl true n F) [] = some (.lf .non, li true []) := rfl
--ev
theorem z_oVs (i) : oV (some i) = .lf (.int i) := rfl
--ev
theorem z_oVn : oV none = .lf .non := rfl
--ev
theorem z_rks (d m) : rkT (some (d, m)) = .nd false .tup [.lf (.int d), oV m] := rfl
--ev
theorem z_rkn : rkT none = .lf .non := rfl
--ev
theorem z_ixt0 (o a xs) : oIx (.nd o .tup (a :: xs)) (.lf (.int 0)) = some a := by
  show L2.atI (a :: xs) 0 = _; rw [atI_of (by omega) (by simp)]; rfl
--ev
theorem z_ixt1 (o a b xs) : oIx (.nd o .tup (a :: b :: xs)) (.lf (.int 1)) = some b := by
  show L2.atI (a :: b :: xs) 1 = _; rw [atI_of (by omega) (by simp)]; rfl
--ev
theorem z_isN1 : oIsN (.lf .non) (.lf .non) = some (.lf (.bl true)) := rfl
--ev
theorem z_isN2 (i) : oIsN (.lf (.int i)) (.lf .non) = some (.lf (.bl false)) := rfl
--ev
theorem z_isN3 (o k xs) : oIsN (.nd o k xs) (.lf .non) = some (.lf (.bl false)) := rfl
--ev
theorem z_notN1 : oNotN (.lf .non) (.lf .non) = some (.lf (.bl false)) := rfl
--ev
theorem z_notN2 (i) : oNotN (.lf (.int i)) (.lf .non) = some (.lf (.bl true)) := rfl
--ev
theorem z_notN3 (o k xs) : oNotN (.nd o k xs) (.lf .non) = some (.lf (.bl true)) := rfl
--ev
theorem z_isN4 (x) : oIsN (rkT x) (.lf .non) = some (.lf (.bl x.isNone)) := by cases x <;> rfl
--ev
theorem z_notN4 (x) : oNotN (rkT x) (.lf .non) = some (.lf (.bl x.isSome)) := by cases x <;> rfl
--ev
theorem z_isN5 (x) : oIsN (oV x) (.lf .non) = some (.lf (.bl x.isNone)) := by cases x <;> rfl
--ev
theorem z_notN5 (x) : oNotN (oV x) (.lf .non) = some (.lf (.bl x.isSome)) := by cases x <;> rfl
def fCh3 (o2 : T → T → Option T) (vc : DV) (env : List T) (y : T) : T → Option T
  | .lf (.bl true) => (vc env).bind (o2 y)
  | .lf (.bl false) => some (.lf (.bl false))
  | _ => none
--ev
theorem fCh3_ev (o2 vc env y b) : fCh3 o2 vc env y (.lf (.bl b)) = if b = true then (vc env).bind (o2 y) else some (.lf (.bl false)) := by cases b <;> rfl
def fCh2 (o1 o2 : T → T → Option T) (vc : DV) (env : List T) (x y : T) : Option T := (o1 x y).bind (fCh3 o2 vc env y)
--ev
theorem fCh2_ev (o1 o2 vc env x y) : fCh2 o1 o2 vc env x y = (o1 x y).bind (fCh3 o2 vc env y) := rfl
def fCh1 (o1 o2 : T → T → Option T) (vb vc : DV) (env : List T) (x : T) : Option T := (vb env).bind (fCh2 o1 o2 vc env x)
--ev
theorem fCh1_ev (o1 o2 vb vc env x) : fCh1 o1 o2 vb vc env x = (vb env).bind (fCh2 o1 o2 vc env x) := rfl
--ev
theorem z_ch (o1 o2 : T → T → Option T) (va vb vc : DV) (env) : oCh o1 o2 va vb vc env = (va env).bind (fCh1 o1 o2 vb vc env) := by
  unfold oCh fCh1 fCh2
  cases va env with
  | none => rfl
  | some x =>
    simp only [Option.bind_some]
    cases vb env with
    | none => rfl
    | some y =>
      simp only [Option.bind_some]
      split <;> rename_i h
      · rw [h]; rfl
      · rw [h]; rfl
      · cases hd : o1 x y with
        | none => rfl
        | some z => rw [Option.bind_some]; unfold fCh3; split <;> simp_all
/-! ### dicts of lists -/
def dls (o : Bool) (ks : List Int) (F : Int → List Int) : T := .nd o (.dK (kI ks)) (ks.map fun s => li o (F s))
--ev
theorem z_okdls (o ks F) : okT (dls o ks F) = some (dls o ks F) := rfl
theorem frz_dls (o ks F) : frz (dls o ks F) = dls false ks F := by
  unfold dls; rw [frz_nd, frzs_map, List.map_map]; congr 1; exact List.map_congr_left fun x _ => frz_li o _
--ev
theorem z_frzdls (o ks F) : frz (dls o ks F) = dls false ks F := frz_dls o ks F
--ev
theorem z_clndls (ks F) : cln (dls false ks F) = true := by rw [← frz_dls true]; exact cln_frz _
theorem getK_kI (f : Int → T) : ∀ (ks : List Int) (x : Int), x ∈ ks → getK (kI ks) (ks.map f) (Sum.inl x) = some (f x)
  | [], _, h => by cases h
  | k :: ks, x, h => by
    rw [List.map_cons]
    show (if (Sum.inl k : Key) = Sum.inl x then some (f k) else getK (kI ks) (ks.map f) (Sum.inl x)) = _
    by_cases e : k = x
    · subst e; rw [if_pos rfl]
    · rw [if_neg fun z => e (Sum.inl.inj z)]
      exact getK_kI f ks x ((List.mem_cons.mp h).resolve_left fun z => e z.symm)
--ev
theorem z_ixdls (o ks F x) (h : x ∈ ks) : oIx (dls o ks F) (.lf (.int x)) = some (li o (F x)) := getK_kI _ ks x h
--ev
theorem z_indls (o ks F x) : oIn (.lf (.int x)) (dls o ks F) = some (.lf (.bl (decide (x ∈ ks)))) := by
  have := dkI_in o ks x
  exact this
theorem set_dls (ks F x) (nd : ks.Nodup) (h : x ∉ ks) (hl : ks.length ≤ 1000) : mSetD (.int x) (dls true ks F) [li true (F x)] = some (.lf .non, dls true (ks ++ [x]) F) := by
  have := small hl
  unfold dls mSetD
  simp only [keyOf, Option.bind_some, List.length_map, this, nodupK_iff (kI_nd nd), and_self, if_true]
  rw [putKT_last (kI ks) _ (fun e => h (kI_mem.mp e)) (by simp)]
  simp
/-! ### dicts of dicts of keys -/
def dds (o : Bool) (ks : List Int) (F : Int → List Int) : T := .nd o (.dK (kI ks)) (ks.map fun s => dk o (kI (F s)))
--ev
theorem z_okdds (o ks F) : okT (dds o ks F) = some (dds o ks F) := rfl
theorem frz_dds (o ks F) : frz (dds o ks F) = dds false ks F := by
  unfold dds; rw [frz_nd, frzs_map, List.map_map]; congr 1; exact List.map_congr_left fun x _ => frz_dk o _
--ev
theorem z_frzdds (o ks F) : frz (dds o ks F) = dds false ks F := frz_dds o ks F
--ev
theorem z_clndds (ks F) : cln (dds false ks F) = true := by rw [← frz_dds true]; exact cln_frz _
--ev
theorem z_ixdds (o ks F x) (h : x ∈ ks) : oIx (dds o ks F) (.lf (.int x)) = some (dk o (kI (F x))) := getK_kI _ ks x h
theorem set_dds (ks F x) (nd : ks.Nodup) (h : x ∉ ks) (hl : ks.length ≤ 1000) : mSetD (.int x) (dds true ks F) [dk true (kI (F x))] = some (.lf .non, dds true (ks ++ [x]) F) := by
  have := small hl
  unfold dds mSetD
  simp only [keyOf, Option.bind_some, List.length_map, this, nodupK_iff (kI_nd nd), and_self, if_true]
  rw [putKT_last (kI ks) _ (fun e => h (kI_mem.mp e)) (by simp)]
  simp
/-! ### a value into a target -/
def fAsg' (e : List T) : Option (Fl × List T) := some (.nx, e)
--ev
theorem fAsg'_ev (e) : fAsg' e = some (.nx, e) := rfl
def fAsg (dg : DG) : T × List T → Option (Fl × List T) := fun p => (dg p.1 p.2).bind fAsg'
--ev
theorem fAsg_ev (dg t e) : fAsg dg (t, e) = (dg t e).bind fAsg' := rfl
--ev
theorem dAsg_ev (d dg env) : dAsg d dg env = (d env).bind (fAsg dg) := by
  unfold dAsg fAsg
  cases d env with
  | none => rfl
  | some p => simp only [Option.bind_some]; cases dg p.1 p.2 <;> rfl
/-! ### a loop that answers -/
theorem lp_findT {α : Type} {dg : DG} {d : DS} (Iv : List T → Prop) (p : α → Bool) (r : T) (c : α → T) : ∀ (xs : List α) (env : List T), Iv env →
    (∀ x ∈ xs, ∀ env, Iv env → ∃ e', turn dg d (c x) env = some (if p x = true then .rt r else .nx, e') ∧ Iv e') → ∃ e, Iv e ∧ dFr dg d (xs.map c) env = some (if xs.any p = true then .rt r else .nx, e)
  | [], env, h0, _ => ⟨env, h0, rfl⟩
  | x :: xs, env, h0, hs => by
    obtain ⟨e', h1, h2⟩ := hs x (List.mem_cons_self ..) env h0
    rw [List.map_cons, dFr_cons, h1, Option.bind_some]
    cases hp : p x with
    | true => exact ⟨e', h2, by simp [hp, fFr_rt]⟩
    | false =>
      obtain ⟨e9, g1, g2⟩ := lp_findT Iv p r c xs e' h2 fun u hu => hs u (List.mem_cons_of_mem _ hu)
      exact ⟨e9, g1, by simpa [hp, fFr_nx] using g2⟩
theorem take_filter {α : Type} (p : α → Bool) (xs : List α) (i : Nat) (h : i < xs.length) : (xs.take (i + 1)).filter p = (xs.take i).filter p ++ if p xs[i] = true then [xs[i]] else [] := by
  rw [List.take_succ_eq_append_getElem h, List.filter_append]
  congr 1
  by_cases hp : p xs[i] = true <;> simp [hp]

def flF (r : Int → T) : Option Int → Fl
  | some x => .rt (r x)
  | none => .nx
theorem lp_first {dg : DG} {d : DS} (Iv : List T → Prop) (p : Int → Bool) (r : Int → T) : ∀ (xs : List Int) (env : List T), Iv env →
    (∀ x ∈ xs, ∀ env, Iv env → ∃ e', turn dg d (I x) env = some (if p x = true then .rt (r x) else .nx, e') ∧ Iv e') → ∃ e, Iv e ∧ dFr dg d (xs.map lfI) env = some (flF r (xs.find? p), e)
  | [], env, h0, _ => ⟨env, h0, rfl⟩
  | x :: xs, env, h0, hs => by
    obtain ⟨e', h1, h2⟩ := hs x (List.mem_cons_self ..) env h0
    have h1' : turn dg d (lfI x) env = _ := h1
    rw [List.map_cons, dFr_cons, h1', Option.bind_some]
    cases hp : p x with
    | true => exact ⟨e', h2, by simp [hp, fFr_rt, flF]⟩
    | false =>
      obtain ⟨e9, g1, g2⟩ := lp_first Iv p r xs e' h2 fun u hu => hs u (List.mem_cons_of_mem _ hu)
      exact ⟨e9, g1, by simpa [hp, fFr_nx] using g2⟩
/-! ### all frozen meanwhile -/
--ev
theorem fBwS_ev (env w e) : fBwS env (.lf w, e) = some (.lf w, env) := rfl
--ev
theorem bwS_ev (d env) : bwS d env = (d (frzs env)).bind (fBwS env) := rfl
/-! ### slices -/
def fPt : T → Option (Option Int)
  | .lf (.int i) => some (some i)
  | _ => none
--ev
theorem fPt_ev (i) : fPt (.lf (.int i)) = some (some i) := rfl
--ev
theorem ptT_no (e) : ptT none e = some none := rfl
--ev
theorem ptT_so (v e) : ptT (some v) e = (v e).bind fPt := by
  show (match v e with | some (.lf (.int i)) => some (some i) | _ => none) = _
  cases v e with
  | none => rfl
  | some t => cases t with
    | lf w => cases w <;> rfl
    | _ => rfl
def fSl2 (o : Option Int → Option Int → T → Option T) (t : T) (e : List T) (l u : Option Int) : Option (T × List T) := (o l u t).bind (fP e)
--ev
theorem fSl2_ev (o t e l u) : fSl2 o t e l u = (o l u t).bind (fP e) := rfl
def fSl1 (o : Option Int → Option Int → T → Option T) (hi : Option DV) (t : T) (e : List T) (l : Option Int) : Option (T × List T) := (ptT hi e).bind (fSl2 o t e l)
--ev
theorem fSl1_ev (o hi t e l) : fSl1 o hi t e l = (ptT hi e).bind (fSl2 o t e l) := rfl
def fSl (o : Option Int → Option Int → T → Option T) (lo hi : Option DV) : T × List T → Option (T × List T) := fun p => (ptT lo p.2).bind (fSl1 o hi p.1 p.2)
--ev
theorem fSl_ev (o lo hi t e) : fSl o lo hi (t, e) = (ptT lo e).bind (fSl1 o hi t e) := rfl
--ev
theorem dSl_ev (o d lo hi env) : dSl o d lo hi env = (d env).bind (fSl o lo hi) := by
  unfold dSl fSl fSl1 fSl2
  cases d env with
  | none => rfl
  | some p =>
    simp only [Option.bind_some]
    cases ptT lo p.2 with
    | none => rfl
    | some l =>
      simp only [Option.bind_some]
      cases ptT hi p.2 with
      | none => rfl
      | some u => simp only [Option.bind_some]; cases o l u p.1 <;> rfl
theorem cutT_map {α β : Type} (f : α → β) (xs : List α) (l u) : cutT (xs.map f) l u = (cutT xs l u).map f := by
  unfold cutT; rw [List.length_map, List.map_take, List.map_drop]
--ev
theorem z_slli (o xs l u) : oSlL l u (li o xs) = some (li true (cutT xs l u)) := by
  show (if clns (xs.map lfI) = true then some (T.nd true .lst (cutT (xs.map lfI) l u)) else none) = _
  rw [clns_ints, cutT_map]; rfl
--ev
theorem z_cutTail {α : Type} (xs : List α) : cutT xs (some 1) none = xs.tail := by
  unfold cutT
  rw [HT.sIx_none, show HT.sIx xs.length 0 (some 1) = min 1 xs.length from HT.sIx_nat _ _ 1]
  cases xs with
  | nil => rfl
  | cons a l => simp
--ev
theorem z_cutInit {α : Type} (xs : List α) : cutT xs none (some (-1)) = xs.dropLast := by
  unfold cutT
  rw [HT.sIx_none]
  show (xs.drop 0).take ((-1 + (xs.length : Int)).toNat - 0) = _
  rw [List.dropLast_eq_take, List.drop_zero]
  congr 1
  omega
end Tr


set_option Elab.async false
set_option linter.all false
set_option maxRecDepth 100000
set_option maxHeartbeats 4000000
/-! RS: what is come to, as a function; ranks and what is missed, without a walk of the program. -/
namespace Pm
open PySem PySem.Spec PyProof.Rows L2 Tr Wk
noncomputable def dcd (p : Prop) : Bool := @decide p (Classical.propDecidable p)
theorem dcd_iff {p : Prop} : dcd p = true ↔ p := @decide_eq_true_iff p (Classical.propDecidable p)
noncomputable def RS (n : Nat) (rs : List (List Int)) (W : List Int) (s : Int) : List Int := pick n fun y => dcd (Rch rs W s y)
theorem RS_asc (n rs W s) : Asc n (RS n rs W s) := pick_asc n _
theorem mem_RS {n : Nat} {rs : List (List Int)} {W : List Int} {s y : Int} : y ∈ RS n rs W s ↔ (0 ≤ y ∧ y < n) ∧ Rch rs W s y := by
  unfold RS; rw [mem_pick, dcd_iff]
theorem Rch.bd {n : Nat} {rs : List (List Int)} {W : List Int} {s y : Int} (hW : ∀ x ∈ W, 0 ≤ x ∧ x < (n : Int)) (hs : 0 ≤ s ∧ s < (n : Int)) (r : Rch rs W s y) : 0 ≤ y ∧ y < (n : Int) := by
  cases r with
  | here => exact hs
  | step _ _ h => exact hW _ h
/-- the first fair set that has none of these -/
def mss (fs : List (List Int)) (S : List Int) : Option Int := (rgI fs.length).find? fun k => decide (((S.filter fun x => decide (x ∈ fs.getD k.toNat [])).length : Int) = 0)
theorem mss_some {fs : List (List Int)} {S : List Int} {k : Int} (h : mss fs S = some k) : (0 ≤ k ∧ k < fs.length) ∧ ∀ x ∈ S, x ∉ fs.getD k.toNat [] := by
  unfold mss at h
  have h1 := List.find?_some h
  have h2 := List.mem_of_find?_eq_some h
  refine ⟨mem_rgI.mp h2, fun x hx hf => ?_⟩
  have h3 : (S.filter fun x => decide (x ∈ fs.getD k.toNat [])).length = 0 := by have := of_decide_eq_true h1; omega
  have h4 : x ∈ S.filter fun x => decide (x ∈ fs.getD k.toNat []) := List.mem_filter.mpr ⟨hx, by simpa using hf⟩
  rw [List.length_eq_zero_iff.mp h3] at h4
  cases h4
theorem mss_none {fs : List (List Int)} {S : List Int} (h : mss fs S = none) : ∀ f ∈ fs, ∃ x ∈ S, x ∈ f := by
  intro f hf
  obtain ⟨k, hk, e⟩ := List.mem_iff_getElem.mp hf
  unfold mss at h
  have := List.find?_eq_none.mp h (k : Int) (mem_rgI.mpr (by omega))
  have h2 : ¬ (((S.filter fun x => decide (x ∈ fs.getD (k : Int).toNat [])).length : Int) = 0) := fun z => this (decide_eq_true z)
  have e2 : fs.getD (k : Int).toNat [] = f := by simp [hk, e]
  rw [e2] at h2
  obtain ⟨x, hx⟩ : ∃ x, x ∈ S.filter fun x => decide (x ∈ f) := by
    cases hl : S.filter fun x => decide (x ∈ f) with
    | nil => rw [hl] at h2; exact (h2 rfl).elim
    | cons a l => exact ⟨a, by simp⟩
  obtain ⟨h3, h4⟩ := List.mem_filter.mp hx
  exact ⟨x, h3, by simpa using h4⟩
/-- those from which one comes back -/
noncomputable def TG (n : Nat) (rs : List (List Int)) (W : List Int) (s : Int) : List Int := (RS n rs W s).filter fun o => decide (s ∈ RS n rs W o)
noncomputable def RK (n : Nat) (rs fs : List (List Int)) (W : List Int) (s : Int) : Int × Option Int := ((RS n rs W s).length, mss fs (TG n rs W s))
end Pm


set_option Elab.async false
set_option linter.all false
set_option maxRecDepth 100000
set_option maxHeartbeats 4000000
/-! BO: bottom components. -/
namespace Pm
open PySem PySem.Spec PyProof.Rows L2 Tr Wk

/-- a stand from which all that is come to comes back -/
structure Bot (n : Nat) (rs : List (List Int)) (K : List Int) (s b : Int) : Prop where
  on : Rch rs K s b
  bd : 0 ≤ b ∧ b < n
  bk : ∀ o, Rch rs K b o → Rch rs K o b
theorem bot_least {n : Nat} {rs : List (List Int)} {K : List Int} (hK : Asc n K) {s b : Int} (hb : b ∈ RS n rs K s) (hl : ∀ o ∈ RS n rs K s, (RS n rs K b).length ≤ (RS n rs K o).length) : Bot n rs K s b := by
  have mb := mem_RS.mp hb
  refine ⟨mb.2, mb.1, fun o ho => ?_⟩
  have bo := ho.bd hK.bd mb.1
  have sub : ∀ z ∈ RS n rs K o, z ∈ RS n rs K b := fun z hz => mem_RS.mpr ⟨(mem_RS.mp hz).1, ho.trans (mem_RS.mp hz).2⟩
  have le := asc_sub (RS_asc n rs K o) (RS_asc n rs K b) sub
  have ge := hl o (mem_RS.mpr ⟨bo, mb.2.trans ho⟩)
  have e := le.2 (by omega)
  have : b ∈ RS n rs K o := by rw [e]; exact mem_RS.mpr ⟨mb.1, .here⟩
  exact (mem_RS.mp this).2
theorem bot_ex {n : Nat} {rs : List (List Int)} {K : List Int} (hK : Asc n K) {s : Int} (hs : 0 ≤ s ∧ s < n) : ∃ b, Bot n rs K s b := by
  have key : ∀ (m : Nat) (b : Int), b ∈ RS n rs K s → (RS n rs K b).length ≤ m → ∃ b, Bot n rs K s b := by
    intro m
    induction m with
    | zero =>
      intro b hb h
      have : b ∈ RS n rs K b := mem_RS.mpr ⟨(mem_RS.mp hb).1, .here⟩
      have e : RS n rs K b = [] := List.length_eq_zero_iff.mp (by omega)
      rw [e] at this
      cases this
    | succ m ih =>
      intro b hb h
      by_cases h2 : ∃ o ∈ RS n rs K s, (RS n rs K o).length < (RS n rs K b).length
      · obtain ⟨o, ho, hl⟩ := h2
        exact ih o ho (by omega)
      · refine ⟨b, bot_least hK hb fun o ho => ?_⟩
        have : ¬ (RS n rs K o).length < (RS n rs K b).length := fun z => h2 ⟨o, ho, z⟩
        omega
  exact key _ s (mem_RS.mpr ⟨hs, .here⟩) (Nat.le_refl _)
section
variable {n : Nat} {rs fs : List (List Int)} {K : List Int} {s b : Int}
theorem Bot.inK (h : Bot n rs K s b) (hs : s ∈ K) : ∀ z ∈ RS n rs K b, z ∈ K := fun z hz => (h.on.trans (mem_RS.mp hz).2).inW hs
theorem Bot.ways (h : Bot n rs K s b) (hK : Asc n K) {x y : Int} (hx : x ∈ RS n rs K b) (hy : y ∈ RS n rs K b) : Rch rs (RS n rs K b) x y := by
  have bx := mem_RS.mp hx
  have by' := mem_RS.mp hy
  refine Rch.mono (W := RS n rs K b) (fun z hz => hz) ?_
  have r : Rch rs K x y := (h.bk x bx.2).trans by'.2
  have : ∀ z, Rch rs K x z → z ∈ RS n rs K b := fun z hz => mem_RS.mpr ⟨hz.bd hK.bd bx.1, bx.2.trans hz⟩
  clear hy by'
  induction r with
  | here => exact .here
  | step r h2 h3 ih => exact .step ih h2 (this _ (.step r h2 h3))
theorem Bot.next (h : Bot n rs K s b) (hK : Asc n K) {x o : Int} (hx : x ∈ RS n rs K b) (ho : o ∈ rs.getD x.toNat []) (hk : o ∈ K) : o ∈ RS n rs K b :=
  mem_RS.mpr ⟨hK.bd o hk, (mem_RS.mp hx).2.step ho hk⟩
theorem Bot.meets (h : Bot n rs K s b) (hK : Asc n K) (hs : s ∈ K) (g : Good rs fs K) {f : List Int} (hf : f ∈ fs) : ∃ y ∈ RS n rs K b, y ∈ f := by
  obtain ⟨y, hy, r⟩ := g.fr f hf b (h.on.inW hs)
  exact ⟨y, mem_RS.mpr ⟨r.bd hK.bd h.bd, r⟩, hy⟩
end
end Pm


set_option Elab.async false
set_option linter.all false
set_option maxRecDepth 100000
set_option maxHeartbeats 4000000
/-! PD: distances. -/
namespace Pm
open PySem PySem.Spec PyProof.Rows L2 Tr Wk

/-- a list of numbers and Nones -/
def lo (o : Bool) (xs : List (Option Int)) : T := .nd o .lst (xs.map oV)
theorem frz_lo (o : Bool) (xs : List (Option Int)) : frz (lo o xs) = lo false xs := by
  unfold lo
  rw [frz, frzs_map, List.map_map]
  congr 1
  exact List.map_congr_left fun x _ => frz_oV x
theorem oV_ne (x : Option Int) : oV x ≠ .no := by cases x <;> intro e <;> cases e
theorem pure_lo (xs : List (Option Int)) : pureT (lo true xs) = true := by
  unfold lo
  rw [pureT, pureTs_of]
  · rfl
  · intro t ht
    obtain ⟨x, _, rfl⟩ := List.mem_map.mp ht
    cases x <;> exact pure_lf _
theorem oLen_lo (o : Bool) (xs : List (Option Int)) : oLen (lo o xs) = some (I xs.length) := by unfold lo oLen; simp
/-- a number for each of n -/
def tab (n : Nat) (f : Int → Option Int) : List (Option Int) := (List.range n).map fun (k : Nat) => f k
theorem tab_len (n f) : (tab n f).length = n := by simp [tab]
theorem ix_tab (o : Bool) (n : Nat) (f : Int → Option Int) (x : Int) (h : 0 ≤ x ∧ x < n) : oIx (lo o (tab n f)) (I x) = some (oV (f x)) := by
  unfold lo oIx
  show L2.atI ((tab n f).map oV) x = _
  rw [atI_of h.1 (by simp [tab]; omega)]
  unfold tab
  rw [List.map_map, List.getElem?_map, List.getElem?_range (by omega)]
  simp [show ((x.toNat : Nat) : Int) = x by omega]
theorem set_tab (n : Nat) (f : Int → Option Int) (x : Int) (v : Option Int) (h : 0 ≤ x ∧ x < n) : mSetL (.int x) (lo true (tab n f)) [oV v] = some (N, lo true (tab n fun y => if y = x then v else f y)) := by
  unfold lo mSetL
  have e : ixN ((tab n f).map oV).length x = some x.toNat := by
    unfold ixN
    rw [if_pos h.1, if_pos (by simp [tab]; omega)]
  simp only [e, Option.map_some]
  congr 3
  refine List.ext_getElem (by simp [tab]) fun i h1 h2 => ?_
  rw [List.getElem_set]
  simp only [tab, List.getElem_map, List.getElem_range]
  by_cases hi : x.toNat = i
  · rw [if_pos hi, if_pos (by omega)]
  · rw [if_neg hi, if_neg (by omega)]
theorem isN_oV (x : Option Int) : oIsN (oV x) N = some (B x.isNone) := by cases x <;> rfl
theorem notN_oV (x : Option Int) : oNotN (oV x) N = some (B x.isSome) := by cases x <;> rfl
/-- the first of these sets that has x -/
def dst : List (List Int) → Int → Option Int
  | [], _ => none
  | s :: F, x => if x ∈ s then some 0 else (dst F x).map (· + 1)
theorem dst_snoc (F : List (List Int)) (s : List Int) (x : Int) : dst (F ++ [s]) x = match dst F x with | some d => some d | none => if x ∈ s then some (F.length : Int) else none := by
  induction F with
  | nil => simp [dst]
  | cons a F ih =>
    rw [List.cons_append, dst, dst, ih]
    by_cases h : x ∈ a
    · simp [h]
    · simp only [h, if_false]
      cases dst F x with
      | some d => simp
      | none =>
        by_cases h2 : x ∈ s
        · simp [h2]
        · simp [h2]
theorem dst_some {F : List (List Int)} {x d : Int} (h : dst F x = some d) : ∃ i : Nat, d = i ∧ i < F.length ∧ x ∈ F.getD i [] ∧ ∀ j, j < i → x ∉ F.getD j [] := by
  induction F generalizing d with
  | nil => simp [dst] at h
  | cons a F ih =>
    rw [dst] at h
    by_cases hx : x ∈ a
    · rw [if_pos hx] at h
      cases h
      exact ⟨0, rfl, by simp, by simpa using hx, fun j hj => by omega⟩
    · rw [if_neg hx] at h
      obtain ⟨e, h1, rfl⟩ := Option.map_eq_some_iff.mp h
      obtain ⟨i, rfl, h2, h3, h4⟩ := ih h1
      refine ⟨i + 1, by omega, by simpa using h2, by simpa using h3, fun j hj => ?_⟩
      cases j with
      | zero => simpa using hx
      | succ j => simpa using h4 j (by omega)
theorem dst_le {F : List (List Int)} {x : Int} {i : Nat} (h : i < F.length) (hx : x ∈ F.getD i []) : ∃ d, dst F x = some d ∧ d ≤ i := by
  induction F generalizing i with
  | nil => simp at h
  | cons a F ih =>
    rw [dst]
    by_cases ha : x ∈ a
    · exact ⟨0, by rw [if_pos ha], by omega⟩
    · rw [if_neg ha]
      cases i with
      | zero => exact (ha (by simpa using hx)).elim
      | succ i =>
        obtain ⟨d, h1, h2⟩ := ih (by simpa using h) (by simpa using hx)
        exact ⟨d + 1, by rw [h1]; rfl, by omega⟩
theorem en_get {F : List (List Int)} {i : Nat} {t : T} (h : (enT 0 (F.map (li false)))[i]? = some t) : ∃ hi : i < F.length, t = .nd false .tup [I i, li false F[i]] := by
  rw [enT_get] at h
  obtain ⟨u, h1, rfl⟩ := Option.map_eq_some_iff.mp h
  obtain ⟨hi, rfl⟩ := ll_get h1
  exact ⟨hi, by rw [Nat.zero_add]; rfl⟩
theorem many_ok (rs ms fs) : m_Machine_many [mch false rs ms fs] = some (I rs.length, [mch false rs ms fs]) :=
  E_fun (e := [mch false rs ms fs]) rfl (E_ret (E_re (E_vr (E_1V (E_1V rfl (fld_steps _ _ _ _)) (oLen_ll _ _))) (cln_lf _))) rfl
theorem nbm : ¬ ("steps" : Str) = "many" ∧ ¬ ("marks" : Str) = "many" ∧ ¬ ("fair" : Str) = "many" := by decide +kernel
theorem distances_ok (n : Nat) (rs ms fs) (hrs : rs.length = n) (hn : n ≤ 60) (W G : List Int) (hW : Asc n W) (hG : Asc n G) :
    m_distances [mch false rs ms fs, li false W, li false G] = some (lo true (tab n (dst (gro n rs W G n G))), [.no, .no, .no]) := by
  obtain ⟨F, eF⟩ : ∃ F, F = gro n rs W G n G := ⟨_, rfl⟩
  obtain ⟨g1, g2, g3⟩ := gro_rnds n rs W G n G (by omega) (onw_goal hG)
  obtain ⟨ts, g4, rfl⟩ := growing_ok n rs ms fs hrs hn W G hW hG
  rw [← eF] at g1 g2 g3 g4 ⊢
  let E0 : List T := [mch false rs ms fs, li false W, li false G, .no, .no, .no, .no]
  -- the Nones
  have a3 : dSet 3 (dLc (dRng (bw (dMeth "Machine" "many" m_Machine_many none [] [] (gS 0) aNil))) (gN 6) dYes (re (vr (gC .non))) [6]) E0 = some (.nx, [mch false rs ms fs, li false W, li false G, lo true (tab n fun _ => none), .no, .no, .no]) := by
    have fe : frzs E0 = E0 := by simp only [E0, frzs, frz_mch, frz_li, frz_no]
    have c : dMeth "Machine" "many" m_Machine_many none [] [] (gS 0) aNil (frzs E0) = some (I n, E0) := by
      rw [fe, ← hrs]
      exact E_meth (E_S (t := mch false rs ms fs) rfl (frz_mch _ _ _ _) rfl) (isIns_mch _ _ _ _ nbm) rfl (many_ok rs ms fs) rfl
    have r := dLr_run (dg := gN 6) (dc := dYes) (de := re (vr (gC .non))) (vs := [6]) E0 (fun _ => true) (fun _ => N) ((List.range n).map fun (k : Nat) => lfI k) [] (by have := small (n := n) (by omega); simp; omega) (by
      intro t ht
      obtain ⟨k, hk, rfl⟩ := List.mem_map.mp ht
      exact ⟨[mch false rs ms fs, li false W, li false G, .no, .no, .no, I k], [mch false rs ms fs, li false W, li false G, .no, .no, .no, I k], rfl, rfl, fun _ => ⟨_, E_re (E_vr rfl) (cln_lf _), rfl⟩, fun h => by cases h⟩)
    have ea : [] ++ (((List.range n).map fun (k : Nat) => lfI k).filter fun _ => true).map (fun _ => N) = (tab n fun _ => none).map oV := by
      rw [List.nil_append, List.filter_eq_self.mpr (fun _ _ => rfl), List.map_map]
      unfold tab
      rw [List.map_map]
      rfl
    rw [ea] at r
    have c3 : dLc (dRng (bw (dMeth "Machine" "many" m_Machine_many none [] [] (gS 0) aNil))) (gN 6) dYes (re (vr (gC .non))) [6] E0 = some (lo true (tab n fun _ => none), E0) := E_lc (E_rngN (n := n) (E_bw c (pure_lf _)) (by omega)) rfl r rfl rfl
    exact E_set c3 (by simp [E0]) rfl
  have it : dIt itemsE (dCall m_growing [none, none, none] [] (aCons (gM 0) (aCons (gM 1) (aCons (gM 2) aNil)))) [mch false rs ms fs, li false W, li false G, lo true (tab n fun _ => none), .no, .no, .no] = some (enT 0 (F.map (li false)), [.no, .no, .no, lo true (tab n fun _ => none), .no, .no, .no]) := by
    refine E_it (t := ll true F) (E_call (E_cons (E_M (t := mch false rs ms fs) rfl rfl) (E_cons (E_M (t := li false W) rfl rfl) (E_cons (E_M (t := li false G) rfl rfl) rfl))) g4 rfl) ?_
    show some (enT 0 (frzs (F.map (li true)))) = _
    rw [frzs_ll]
  let inner : DS := (dIf (vr (o2V oIsN (o2V oIx (gV 3) (gV 6)) (gC .non))) (dPut 3 mSetL (gS 4) (gV 6)) dNx)
  obtain ⟨env', h1, x4, x5, x6, rfl⟩ := dFr_inv (dg := gT2 (gN 4) (gN 5)) (d := dFor (dIt itemsL (gM 5)) (gN 6) inner) (enT 0 (F.map (li false))) (fun i env => ∃ x4 x5 x6, env = [.no, .no, .no, lo true (tab n (dst (F.take i))), x4, x5, x6])
    [.no, .no, .no, lo true (tab n (dst (F.take 0))), .no, .no, .no] ⟨_, _, _, rfl⟩ (by
      rintro i t env ht ⟨x4, x5, x6, rfl⟩
      obtain ⟨hi, rfl⟩ := en_get ht
      let s := F[i]
      have es : F.getD i [] = s := by simp [s, hi]
      have hs := (g3 i hi).asc
      rw [es] at hs
      let D (j : Nat) (x : Int) : Option Int := match dst (F.take i) x with | some d => some d | none => if x ∈ s.take j then some (i : Int) else none
      obtain ⟨env', k1, x6', rfl⟩ := dFr_inv (dg := gN 6) (d := inner) (s.map lfI) (fun j env => ∃ x6, env = [.no, .no, .no, lo true (tab n (D j)), I i, .no, x6]) [.no, .no, .no, lo true (tab n (D 0)), I i, .no, x6] ⟨_, rfl⟩ (by
        rintro j t env ht ⟨x6, rfl⟩
        obtain ⟨hj, rfl⟩ := li_get ht
        have hb := hs.bd s[j] (List.getElem_mem hj)
        have et : s.take (j + 1) = s.take j ++ [s[j]] := List.take_succ_eq_append_getElem hj
        have nw := new_at hs.nd hj
        have t1 : vr (o2V oIsN (o2V oIx (gV 3) (gV 6)) (gC .non)) [.no, .no, .no, lo true (tab n (D j)), I i, .no, I s[j]] = some (B (D j s[j]).isNone, [.no, .no, .no, lo true (tab n (D j)), I i, .no, I s[j]]) := E_vr (E_2V (E_2V rfl rfl (ix_tab true n (D j) s[j] hb)) rfl (isN_oV _))
        have eD : tab n (D (j + 1)) = tab n (if (D j s[j]).isNone = true then (fun y => if y = s[j] then some (i : Int) else D j y) else D j) := by
          unfold tab
          refine List.map_congr_left fun k _ => ?_
          show (match dst (F.take i) (k : Int) with | some d => some d | none => if (k : Int) ∈ s.take (j + 1) then some (i : Int) else none) = _
          have hm : ∀ y : Int, y ∈ s.take (j + 1) ↔ y ∈ s.take j ∨ y = s[j] := fun y => by rw [et, List.mem_append, List.mem_singleton]
          simp only [hm]
          cases hd : dst (F.take i) s[j] with
          | some d =>
            have : (D j s[j]).isNone = false := by simp only [D, hd]; rfl
            rw [this]
            show _ = D j k
            show _ = (match dst (F.take i) (k : Int) with | some d => some d | none => if (k : Int) ∈ s.take j then some (i : Int) else none)
            cases hk : dst (F.take i) (k : Int) with
            | some e => rfl
            | none =>
              have : (k : Int) ≠ s[j] := fun e => by rw [e, hd] at hk; cases hk
              simp only [this, or_false]
          | none =>
            have : (D j s[j]).isNone = true := by simp only [D, hd]; rw [if_neg nw]; rfl
            rw [if_pos this]
            show _ = if (k : Int) = s[j] then some (i : Int) else (match dst (F.take i) (k : Int) with | some d => some d | none => if (k : Int) ∈ s.take j then some (i : Int) else none)
            by_cases hk : (k : Int) = s[j]
            · rw [hk, hd]; simp only [or_true, if_true]
            · cases hk2 : dst (F.take i) (k : Int) with
              | some e => rw [if_neg hk]
              | none => simp only [hk, or_false, if_false]
        refine ⟨[.no, .no, .no, lo true (tab n (D j)), I i, .no, I s[j]], [.no, .no, .no, lo true (tab n (D (j + 1))), I i, .no, I s[j]], rfl, .inl ?_, _, rfl⟩
        rw [eD]
        cases hc : (D j s[j]).isNone with
        | true =>
          rw [hc] at t1
          exact (E_ifT t1).trans (E_put (mk := mSetL) (k := .int s[j]) (E_S (t := I i) rfl (frz_lf _) rfl) rfl rfl (set_tab n (D j) s[j] (some (i : Int)) hb) rfl)
        | false =>
          rw [hc] at t1
          exact (E_ifF t1).trans rfl)
      have e0 : tab n (dst (F.take i)) = tab n (D 0) := by
        unfold tab
        refine List.map_congr_left fun k _ => ?_
        show _ = (match dst (F.take i) (k : Int) with | some d => some d | none => if (k : Int) ∈ s.take 0 then some (i : Int) else none)
        cases dst (F.take i) (k : Int) <;> simp
      have e1 : tab n (D (s.map lfI).length) = tab n (dst (F.take (i + 1))) := by
        unfold tab
        refine List.map_congr_left fun k _ => ?_
        show (match dst (F.take i) (k : Int) with | some d => some d | none => if (k : Int) ∈ s.take (s.map lfI).length then some (i : Int) else none) = _
        rw [List.take_succ_eq_append_getElem hi, dst_snoc, List.length_take, Nat.min_eq_left (Nat.le_of_lt hi), List.length_map, List.take_length]
      rw [e1] at k1
      refine ⟨[.no, .no, .no, lo true (tab n (dst (F.take i))), I i, li false s, x6], [.no, .no, .no, lo true (tab n (dst (F.take (i + 1)))), I i, .no, x6'], rfl, .inl ?_, _, _, _, rfl⟩
      have it2 : dIt itemsL (gM 5) [.no, .no, .no, lo true (tab n (dst (F.take i))), I i, li false s, x6] = some (s.map lfI, [.no, .no, .no, lo true (tab n (dst (F.take i))), I i, .no, x6]) := E_it (E_M (t := li false s) rfl rfl) (items_li _ _)
      refine (E_for it2).trans ?_
      rw [e0]
      exact k1)
  have el : (enT 0 (F.map (li false))).length = F.length := by rw [enT_length]; simp
  rw [el, List.take_length] at h1
  have b : b_distances E0 = some (.rt (lo true (tab n (dst F))), [.no, .no, .no, .no, x4, x5, x6]) := by
    unfold b_distances
    rw [E_seq a3, E_seq ((E_for it).trans h1)]
    exact E_ret (E_M (t := lo true (tab n (dst F))) rfl rfl)
  exact E_fun rfl b rfl
/-- what distances are -/
structure Dist (n : Nat) (rs : List (List Int)) (W G : List Int) (D : Int → Option Int) : Prop where
  goal : ∀ x ∈ G, D x = some 0
  off : ∀ x, x ∉ G → (x ∉ W ∨ ∀ o ∈ rs.getD x.toNat [], D o = none) → D x = none
  on : ∀ x m : Int, 0 ≤ x → x < n → x ∉ G → x ∈ W → (∃ o ∈ rs.getD x.toNat [], D o = some m) → (∀ o ∈ rs.getD x.toNat [], ∀ d, D o = some d → m ≤ d) → D x = some (m + 1)
  lt : ∀ x d, D x = some d → 0 ≤ d ∧ d < n
  back : ∀ x d, D x = some d → x ∉ G → x ∈ W ∧ ∃ o ∈ rs.getD x.toNat [], ∃ e, D o = some e ∧ e ≤ d - 1
  bd : ∀ x d, D x = some d → 0 ≤ x ∧ x < n
theorem dist_of {n : Nat} {rs : List (List Int)} {W G : List Int} {F : List (List Int)} (hn0 : 0 < n) (R : Rnds (grw n rs W G) F G) (inc : ∀ i, i + 1 < F.length → (F.getD i []).length < (F.getD (i + 1) []).length) (on : ∀ i, i < F.length → Onw n rs W G (F.getD i [])) : Dist n rs W G (dst F) := by
  have mem_next : ∀ i, i + 1 < F.length → ∀ x, x ∈ F.getD (i + 1) [] → x ∈ G ∨ (x ∈ W ∧ ∃ o ∈ rs.getD x.toNat [], o ∈ F.getD i []) := fun i hi x hx => by
    rw [R.st i hi] at hx
    obtain ⟨_, h⟩ := mem_pick.mp hx
    rw [Bool.or_eq_true, Bool.and_eq_true] at h
    rcases h with h | ⟨h1, h2⟩
    · exact .inl (by simpa using h)
    · obtain ⟨o, h3, h4⟩ := List.any_eq_true.mp h2
      exact .inr ⟨by simpa using h1, o, h3, by simpa using h4⟩
  have pred : ∀ x d, dst F x = some d → x ∉ G → x ∈ W ∧ ∃ o ∈ rs.getD x.toNat [], ∃ e, dst F o = some e ∧ e ≤ d - 1 := fun x d h hx => by
    obtain ⟨i, rfl, h1, h2, h3⟩ := dst_some h
    cases i with
    | zero => rw [R.hd] at h2; exact (hx h2).elim
    | succ i =>
      rcases mem_next i h1 x h2 with z | ⟨z1, o, z2, z3⟩
      · exact (hx z).elim
      · obtain ⟨e, e1, e2⟩ := dst_le (F := F) (i := i) (by omega) z3
        exact ⟨z1, o, z2, e, e1, by omega⟩
  have grow : ∀ i, i < F.length → (F.getD 0 []).length + i ≤ (F.getD i []).length := fun i => by
    induction i with
    | zero => intro _; omega
    | succ i ih => intro h; have := ih (by omega); have := inc i h; omega
  refine ⟨fun x hx => ?_, fun x hx h => ?_, fun x m h0 h1 hG hW ⟨o, ho, e⟩ hmin => ?_, fun x d h => ?_, pred, fun x d h => ?_⟩
  · obtain ⟨d, h1, h2⟩ := dst_le (F := F) (i := 0) R.ne (by rw [R.hd]; exact hx)
    obtain ⟨i, rfl, _⟩ := dst_some h1
    rw [h1]
    congr 1
    omega
  · cases hd : dst F x with
    | none => rfl
    | some d =>
      obtain ⟨h1, o, h2, e, h3, h4⟩ := pred x d hd hx
      rcases h with h | h
      · exact (h h1).elim
      · rw [h o h2] at h3; cases h3
  · obtain ⟨i, rfl, i1, i2, i3⟩ := dst_some e
    have tx : tch rs (F.getD i []) x = true := List.any_eq_true.mpr ⟨o, ho, by simpa using i2⟩
    have gx : x ∈ grw n rs W G (F.getD i []) := mem_pick.mpr ⟨⟨h0, h1⟩, by rw [Bool.or_eq_true, Bool.and_eq_true]; exact .inr ⟨by simpa using hW, tx⟩⟩
    have lower : ∀ d, dst F x = some d → (i : Int) + 1 ≤ d := fun d hd => by
      obtain ⟨_, o', h2, e', h3, h4⟩ := pred x d hd hG
      have := hmin o' h2 e' h3
      omega
    have up : ∃ d, dst F x = some d ∧ d ≤ i + 1 := by
      by_cases hl : i + 1 < F.length
      · rw [← R.st i hl] at gx
        exact dst_le hl gx
      · have e2 : F.length - 1 = i := by omega
        have := R.lst
        rw [e2] at this
        rw [this] at gx
        obtain ⟨d, h2, h3⟩ := dst_le i1 gx
        exact ⟨d, h2, by omega⟩
    obtain ⟨d, h2, h3⟩ := up
    have := lower d h2
    rw [h2]
    congr 1
    omega
  · obtain ⟨i, rfl, i1, i2, i3⟩ := dst_some h
    refine ⟨by omega, ?_⟩
    cases i with
    | zero => omega
    | succ i =>
      have hne : 0 < (F.getD 0 []).length := by
        rcases Nat.eq_zero_or_pos (F.getD 0 []).length with z | z
        · have z' : F.getD 0 [] = [] := List.length_eq_zero_iff.mp z
          have hG : G = [] := by rw [← R.hd]; exact z'
          have e1 := R.st 0 (by omega)
          rw [z'] at e1
          have e2 : grw n rs W G [] = [] := by
            rw [List.eq_nil_iff_forall_not_mem]
            intro y hy
            obtain ⟨_, h⟩ := mem_pick.mp hy
            simp [hG, tch] at h
          have := inc 0 (by omega)
          rw [e1, e2] at this
          simp at this
        · exact z
      have g1 := grow (i + 1) i1
      have g2 := (on (i + 1) i1).asc.len
      omega
  · obtain ⟨i, rfl, i1, i2, i3⟩ := dst_some h
    exact (on i i1).asc.bd x i2
end Pm


set_option Elab.async false
set_option linter.all false
set_option maxRecDepth 100000
set_option maxHeartbeats 4000000
/-! SW: short walks. -/
namespace Pm
open PySem PySem.Spec PyProof.Rows L2 Tr Wk

theorem distances_any (oW oG : Bool) (n : Nat) (rs ms fs) (hrs : rs.length = n) (hn : n ≤ 60) (W G : List Int) (hW : Asc n W) (hG : Asc n G) :
    m_distances [mch false rs ms fs, li oW W, li oG G] = some (lo true (tab n (dst (gro n rs W G n G))), [.no, .no, .no]) := by
  obtain ⟨F, eF⟩ : ∃ F, F = gro n rs W G n G := ⟨_, rfl⟩
  obtain ⟨g1, g2, g3⟩ := gro_rnds n rs W G n G (by omega) (onw_goal hG)
  obtain ⟨ts, g4, rfl⟩ := (⟨_, growing_any oW oG n rs ms fs hrs hn W G hW hG, rfl⟩ : ∃ ts, m_growing [mch false rs ms fs, li oW W, li oG G] = some (ll true (gro n rs W G n G), ts) ∧ ts = [mch false rs ms fs, .no, li false G])
  rw [← eF] at g1 g2 g3 g4 ⊢
  let E0 : List T := [mch false rs ms fs, li oW W, li oG G, .no, .no, .no, .no]
  -- the Nones
  have a3 : dSet 3 (dLc (dRng (bw (dMeth "Machine" "many" m_Machine_many none [] [] (gS 0) aNil))) (gN 6) dYes (re (vr (gC .non))) [6]) E0 = some (.nx, [mch false rs ms fs, li oW W, li oG G, lo true (tab n fun _ => none), .no, .no, .no]) := by
    have fe : frzs E0 = [mch false rs ms fs, li false W, li false G, .no, .no, .no, .no] := by simp only [E0, frzs, frz_mch, frz_li, frz_no]
    have c : dMeth "Machine" "many" m_Machine_many none [] [] (gS 0) aNil (frzs E0) = some (I n, frzs E0) := by
      rw [fe, ← hrs]
      exact E_meth (E_S (t := mch false rs ms fs) rfl (frz_mch _ _ _ _) rfl) (isIns_mch _ _ _ _ nbm) rfl (many_ok rs ms fs) rfl
    have r := dLr_run (dg := gN 6) (dc := dYes) (de := re (vr (gC .non))) (vs := [6]) E0 (fun _ => true) (fun _ => N) ((List.range n).map fun (k : Nat) => lfI k) [] (by have := small (n := n) (by omega); simp; omega) (by
      intro t ht
      obtain ⟨k, hk, rfl⟩ := List.mem_map.mp ht
      exact ⟨[mch false rs ms fs, li oW W, li oG G, .no, .no, .no, I k], [mch false rs ms fs, li oW W, li oG G, .no, .no, .no, I k], rfl, rfl, fun _ => ⟨_, E_re (E_vr rfl) (cln_lf _), rfl⟩, fun h => by cases h⟩)
    have ea : [] ++ (((List.range n).map fun (k : Nat) => lfI k).filter fun _ => true).map (fun _ => N) = (tab n fun _ => none).map oV := by
      rw [List.nil_append, List.filter_eq_self.mpr (fun _ _ => rfl), List.map_map]
      unfold tab
      rw [List.map_map]
      rfl
    rw [ea] at r
    have c3 : dLc (dRng (bw (dMeth "Machine" "many" m_Machine_many none [] [] (gS 0) aNil))) (gN 6) dYes (re (vr (gC .non))) [6] E0 = some (lo true (tab n fun _ => none), E0) := E_lc (E_rngN (n := n) (E_bw c (pure_lf _)) (by omega)) rfl r rfl rfl
    exact E_set c3 (by simp [E0]) rfl
  have it : dIt itemsE (dCall m_growing [none, none, none] [] (aCons (gM 0) (aCons (gM 1) (aCons (gM 2) aNil)))) [mch false rs ms fs, li oW W, li oG G, lo true (tab n fun _ => none), .no, .no, .no] = some (enT 0 (F.map (li false)), [.no, .no, .no, lo true (tab n fun _ => none), .no, .no, .no]) := by
    refine E_it (t := ll true F) (E_call (E_cons (E_M (t := mch false rs ms fs) rfl rfl) (E_cons (E_M (t := li oW W) rfl rfl) (E_cons (E_M (t := li oG G) rfl rfl) rfl))) g4 rfl) ?_
    show some (enT 0 (frzs (F.map (li true)))) = _
    rw [frzs_ll]
  let inner : DS := (dIf (vr (o2V oIsN (o2V oIx (gV 3) (gV 6)) (gC .non))) (dPut 3 mSetL (gS 4) (gV 6)) dNx)
  obtain ⟨env', h1, x4, x5, x6, rfl⟩ := dFr_inv (dg := gT2 (gN 4) (gN 5)) (d := dFor (dIt itemsL (gM 5)) (gN 6) inner) (enT 0 (F.map (li false))) (fun i env => ∃ x4 x5 x6, env = [.no, .no, .no, lo true (tab n (dst (F.take i))), x4, x5, x6])
    [.no, .no, .no, lo true (tab n (dst (F.take 0))), .no, .no, .no] ⟨_, _, _, rfl⟩ (by
      rintro i t env ht ⟨x4, x5, x6, rfl⟩
      obtain ⟨hi, rfl⟩ := en_get ht
      let s := F[i]
      have es : F.getD i [] = s := by simp [s, hi]
      have hs := (g3 i hi).asc
      rw [es] at hs
      let D (j : Nat) (x : Int) : Option Int := match dst (F.take i) x with | some d => some d | none => if x ∈ s.take j then some (i : Int) else none
      obtain ⟨env', k1, x6', rfl⟩ := dFr_inv (dg := gN 6) (d := inner) (s.map lfI) (fun j env => ∃ x6, env = [.no, .no, .no, lo true (tab n (D j)), I i, .no, x6]) [.no, .no, .no, lo true (tab n (D 0)), I i, .no, x6] ⟨_, rfl⟩ (by
        rintro j t env ht ⟨x6, rfl⟩
        obtain ⟨hj, rfl⟩ := li_get ht
        have hb := hs.bd s[j] (List.getElem_mem hj)
        have et : s.take (j + 1) = s.take j ++ [s[j]] := List.take_succ_eq_append_getElem hj
        have nw := new_at hs.nd hj
        have t1 : vr (o2V oIsN (o2V oIx (gV 3) (gV 6)) (gC .non)) [.no, .no, .no, lo true (tab n (D j)), I i, .no, I s[j]] = some (B (D j s[j]).isNone, [.no, .no, .no, lo true (tab n (D j)), I i, .no, I s[j]]) := E_vr (E_2V (E_2V rfl rfl (ix_tab true n (D j) s[j] hb)) rfl (isN_oV _))
        have eD : tab n (D (j + 1)) = tab n (if (D j s[j]).isNone = true then (fun y => if y = s[j] then some (i : Int) else D j y) else D j) := by
          unfold tab
          refine List.map_congr_left fun k _ => ?_
          show (match dst (F.take i) (k : Int) with | some d => some d | none => if (k : Int) ∈ s.take (j + 1) then some (i : Int) else none) = _
          have hm : ∀ y : Int, y ∈ s.take (j + 1) ↔ y ∈ s.take j ∨ y = s[j] := fun y => by rw [et, List.mem_append, List.mem_singleton]
          simp only [hm]
          cases hd : dst (F.take i) s[j] with
          | some d =>
            have : (D j s[j]).isNone = false := by simp only [D, hd]; rfl
            rw [this]
            show _ = D j k
            show _ = (match dst (F.take i) (k : Int) with | some d => some d | none => if (k : Int) ∈ s.take j then some (i : Int) else none)
            cases hk : dst (F.take i) (k : Int) with
            | some e => rfl
            | none =>
              have : (k : Int) ≠ s[j] := fun e => by rw [e, hd] at hk; cases hk
              simp only [this, or_false]
          | none =>
            have : (D j s[j]).isNone = true := by simp only [D, hd]; rw [if_neg nw]; rfl
            rw [if_pos this]
            show _ = if (k : Int) = s[j] then some (i : Int) else (match dst (F.take i) (k : Int) with | some d => some d | none => if (k : Int) ∈ s.take j then some (i : Int) else none)
            by_cases hk : (k : Int) = s[j]
            · rw [hk, hd]; simp only [or_true, if_true]
            · cases hk2 : dst (F.take i) (k : Int) with
              | some e => rw [if_neg hk]
              | none => simp only [hk, or_false, if_false]
        refine ⟨[.no, .no, .no, lo true (tab n (D j)), I i, .no, I s[j]], [.no, .no, .no, lo true (tab n (D (j + 1))), I i, .no, I s[j]], rfl, .inl ?_, _, rfl⟩
        rw [eD]
        cases hc : (D j s[j]).isNone with
        | true =>
          rw [hc] at t1
          exact (E_ifT t1).trans (E_put (mk := mSetL) (k := .int s[j]) (E_S (t := I i) rfl (frz_lf _) rfl) rfl rfl (set_tab n (D j) s[j] (some (i : Int)) hb) rfl)
        | false =>
          rw [hc] at t1
          exact (E_ifF t1).trans rfl)
      have e0 : tab n (dst (F.take i)) = tab n (D 0) := by
        unfold tab
        refine List.map_congr_left fun k _ => ?_
        show _ = (match dst (F.take i) (k : Int) with | some d => some d | none => if (k : Int) ∈ s.take 0 then some (i : Int) else none)
        cases dst (F.take i) (k : Int) <;> simp
      have e1 : tab n (D (s.map lfI).length) = tab n (dst (F.take (i + 1))) := by
        unfold tab
        refine List.map_congr_left fun k _ => ?_
        show (match dst (F.take i) (k : Int) with | some d => some d | none => if (k : Int) ∈ s.take (s.map lfI).length then some (i : Int) else none) = _
        rw [List.take_succ_eq_append_getElem hi, dst_snoc, List.length_take, Nat.min_eq_left (Nat.le_of_lt hi), List.length_map, List.take_length]
        all_goals rfl
      rw [e1] at k1
      refine ⟨[.no, .no, .no, lo true (tab n (dst (F.take i))), I i, li false s, x6], [.no, .no, .no, lo true (tab n (dst (F.take (i + 1)))), I i, .no, x6'], rfl, .inl ?_, _, _, _, rfl⟩
      have it2 : dIt itemsL (gM 5) [.no, .no, .no, lo true (tab n (dst (F.take i))), I i, li false s, x6] = some (s.map lfI, [.no, .no, .no, lo true (tab n (dst (F.take i))), I i, .no, x6]) := E_it (E_M (t := li false s) rfl rfl) (items_li _ _)
      refine (E_for it2).trans ?_
      rw [e0]
      exact k1)
  have el : (enT 0 (F.map (li false))).length = F.length := by rw [enT_length]; simp
  rw [el, List.take_length] at h1
  have b : b_distances E0 = some (.rt (lo true (tab n (dst F))), [.no, .no, .no, .no, x4, x5, x6]) := by
    unfold b_distances
    rw [E_seq a3, E_seq ((E_for it).trans h1)]
    exact E_ret (E_M (t := lo true (tab n (dst F))) rfl rfl)
  exact E_fun rfl b rfl
theorem least_next {D : Int → Option Int} (row : List Int) (h0 : ∀ o d, D o = some d → 0 ≤ d) (o : Int) (ho : o ∈ row) (k : Int) (hk : D o = some k) : ∃ m, (∃ o ∈ row, D o = some m) ∧ ∀ o ∈ row, ∀ d, D o = some d → m ≤ d := by
  have key : ∀ (k : Nat) (o : Int), o ∈ row → D o = some (k : Int) → ∃ m, (∃ o ∈ row, D o = some m) ∧ ∀ o ∈ row, ∀ d, D o = some d → m ≤ d := by
    intro k
    induction k using Nat.strongRecOn with
    | _ k ih =>
      intro o ho hk
      by_cases h : ∃ o' ∈ row, ∃ d, D o' = some d ∧ d < k
      · obtain ⟨o', h1, d, h2, h3⟩ := h
        have := h0 o' d h2
        exact ih d.toNat (by omega) o' h1 (by rw [h2]; congr 1; omega)
      · refine ⟨k, ⟨o, ho, hk⟩, fun o' h1 d h2 => ?_⟩
        have : ¬ d < k := fun z => h ⟨o', h1, d, h2, z⟩
        omega
  have := h0 o k hk
  exact key k.toNat o ho (by rw [hk]; congr 1; omega)
theorem isort_congr {a b : List Int} (h : a.Perm b) : isort a = isort b :=
  sorted_uniq (((isort_perm a).trans h).trans (isort_perm b).symm) (isort_sorted a) (isort_sorted b)
theorem oMinL_li (o : Bool) (xs : List Int) {m : Int} (h : (isort xs).head? = some m) : oMinL (li o xs) = some (I m) := by
  unfold li
  show (intsOf (xs.map lfI)).bind _ = _
  rw [intsOf_li]
  show ((isort xs).head?).map _ = _
  rw [h]
  rfl
theorem oEq_oV (v : Option Int) (k : Int) : oEq (oV v) (I k) = some (B (decide (v = some k))) := by
  cases v with
  | some i =>
    show oEq (I i) (I k) = _
    rw [oEq_int]
    by_cases h : i = k <;> simp [h]
  | none =>
    have hn : SeqAt.shaped .none = true := by
      unfold SeqAt.shaped
      rw [PyData.canLay0, PyData.depth]
      decide
    show oEq N (I k) = _
    unfold oEq
    simp [toD, hn, shaped_int, PyData.eqv]
/-- the next one of a walk -/
def nxw (D : Int → Option Int) (rs : List (List Int)) (k : Int) (x : Int) : Int := ((isort ((rs.getD x.toNat []).filter fun o => decide (D o = some k))).head?).getD 0
def wlk (D : Int → Option Int) (rs : List (List Int)) : Nat → Int → List Int
  | 0, x => [x]
  | k + 1, x => x :: wlk D rs k (nxw D rs k x)
theorem wlk_len (D rs) : ∀ k x, (wlk D rs k x).length = k + 1
  | 0, x => rfl
  | k + 1, x => by rw [wlk, List.length_cons, wlk_len D rs k]
structure Nxw (n : Nat) (rs : List (List Int)) (D : Int → Option Int) (k : Nat) (x : Int) : Prop where
  hd : (isort ((rs.getD x.toNat []).filter fun o => decide (D o = some (k : Int)))).head? = some (nxw D rs k x)
  d : D (nxw D rs k x) = some (k : Int)
  low : ∀ o ∈ rs.getD x.toNat [], ∀ e, D o = some e → (k : Int) ≤ e
theorem nxw_ok {n : Nat} {rs : List (List Int)} {W G : List Int} {D : Int → Option Int} (hD : Dist n rs W G D) {k : Nat} {x : Int} (h : D x = some ((k + 1 : Nat) : Int)) : Nxw n rs D k x := by
  have hg : x ∉ G := fun z => by rw [hD.goal x z] at h; have := Option.some.inj h; omega
  obtain ⟨hW, o, ho, e', h1, h2⟩ := hD.back x _ h hg
  obtain ⟨m, ⟨o', g1, g2⟩, hm2⟩ := least_next (rs.getD x.toNat []) (fun o d h => (hD.lt o d h).1) o ho e' h1
  have hb := hD.bd x _ h
  have := hD.on x m hb.1 hb.2 hg hW ⟨o', g1, g2⟩ hm2
  rw [h] at this
  have em : m = k := by have := Option.some.inj this; omega
  subst em
  have hin : o' ∈ (rs.getD x.toNat []).filter fun o => decide (D o = some (k : Int)) := List.mem_filter.mpr ⟨g1, by simpa using g2⟩
  cases hc : isort ((rs.getD x.toNat []).filter fun o => decide (D o = some (k : Int))) with
  | nil =>
    have := (isort_perm ((rs.getD x.toNat []).filter fun o => decide (D o = some (k : Int)))).mem_iff.mpr hin
    rw [hc] at this
    cases this
  | cons a as =>
    have ea : nxw D rs k x = a := by unfold nxw; rw [hc]; rfl
    have ha : a ∈ (rs.getD x.toNat []).filter fun o => decide (D o = some (k : Int)) := (isort_perm _).mem_iff.mp (by rw [hc]; exact List.mem_cons_self ..)
    refine ⟨by rw [ea, hc]; rfl, ?_, hm2⟩
    rw [ea]
    simpa using (List.mem_filter.mp ha).2
abbrev swBody : DS := (dSeq (dSet 6 (re (vr (o2V oSub (o2V oIx (gV 4) (gV 3)) (gC (.int 1)))))) (dSeq (dSet 3 (re (o1 oMinL (dLc (dIt itemsL (dMeth "Machine" "next_of" m_Machine_next_of none [none] [] (gS 0) (aCons (gM 3) aNil))) (gN 7) (vr (o2V oEq (o2V oIx (gV 4) (gV 7)) (gV 6))) (gM 7) [7])))) (dEx (dMut "list" 5 mAppend (aCons (gS 3) aNil)))))
theorem sw_loop (n : Nat) (rs ms fs) (W G : List Int) (D : Int → Option Int) (hrs : Stps n rs) (hn : n ≤ 60) (hD : Dist n rs W G D) : ∀ (k : Nat) (x : Int) (pre : List Int) (m : Nat) (X6 : T), D x = some (k : Int) → k < m → pre.length + k ≤ 900 →
    ∃ e, dWh (vr (o2V oGt (o2V oIx (gV 4) (gV 3)) (gC (.int 0)))) swBody m [mch false rs ms fs, .no, .no, I x, lo true (tab n D), li true (pre ++ [x]), X6, .no] = some (.nx, e) ∧ ∃ y x6, e = [mch false rs ms fs, .no, .no, y, lo true (tab n D), li true (pre ++ wlk D rs k x), x6, .no] := by
  intro k
  have tst : ∀ (x : Int) (d : Int) (A : T) (X6 : T), D x = some d → vr (o2V oGt (o2V oIx (gV 4) (gV 3)) (gC (.int 0))) [mch false rs ms fs, .no, .no, I x, lo true (tab n D), A, X6, .no] = some (B (decide (0 < d)), [mch false rs ms fs, .no, .no, I x, lo true (tab n D), A, X6, .no]) := fun x d A X6 h => by
    have l := ix_tab true n D x (hD.bd x d h)
    rw [h] at l
    exact E_vr (E_2V (E_2V rfl rfl l) rfl (I_gt _ _))
  induction k with
  | zero =>
    intro x pre m X6 h h1 h2
    obtain ⟨m, rfl⟩ : ∃ m', m = m' + 1 := ⟨m - 1, by omega⟩
    have t := tst x _ (li true (pre ++ [x])) X6 h
    rw [decide_eq_false (by omega)] at t
    refine ⟨_, ?_, I x, X6, rfl⟩
    rw [dWh, t]
    rfl
  | succ k ih =>
    intro x pre m X6 h h1 h2
    obtain ⟨m, rfl⟩ : ∃ m', m = m' + 1 := ⟨m - 1, by omega⟩
    have t := tst x _ (li true (pre ++ [x])) X6 h
    rw [decide_eq_true (by omega)] at t
    have N1 := nxw_ok hD h
    have hb := hD.bd x _ h
    let y := nxw D rs k x
    let E (a b c : T) : List T := [mch false rs ms fs, .no, .no, a, lo true (tab n D), li true (pre ++ [x]), b, c]
    have lx := ix_tab true n D x hb
    rw [h] at lx
    have s6 : dSet 6 (re (vr (o2V oSub (o2V oIx (gV 4) (gV 3)) (gC (.int 1))))) (E (I x) X6 .no) = some (.nx, E (I x) (I k) .no) := by
      refine E_set (E_re (x := I k) (E_vr (E_2V (E_2V rfl rfl lx) rfl ?_)) (cln_lf _)) (by simp [E]) rfl
      show oSub (I ((k + 1 : Nat) : Int)) (I 1) = _
      rw [I_sub]
      congr 3
      omega
    let row := rs.getD x.toNat []
    have hl : x.toNat < rs.length := by rw [hrs.len]; omega
    have rb : ∀ o ∈ row, 0 ≤ o ∧ o < n := fun o ho => by
      have e : row = rs[x.toNat] := by simp [row, hl]
      exact (hrs.okl rs[x.toNat] (List.getElem_mem hl)).bd o (by rw [← e]; exact ho)
    have rl : row.length ≤ 60 := by
      have e : row = rs[x.toNat] := by simp [row, hl]
      rw [e]; exact (hrs.okl rs[x.toNat] (List.getElem_mem hl)).le
    let q : T → Bool := fun t => match t with | .lf (.int o) => decide (D o = some (k : Int)) | _ => false
    have r := dLr_run (dg := gN 7) (dc := vr (o2V oEq (o2V oIx (gV 4) (gV 7)) (gV 6))) (de := gM 7) (vs := [7]) (E .no (I k) .no) q (fun t => t) ((isort row).map lfI) [] (by have := small (n := (isort row).length) (by rw [(isort_perm row).length_eq]; omega); simp; omega) (by
      intro t ht
      obtain ⟨o, ho, rfl⟩ := List.mem_map.mp ht
      have hob := rb o ((isort_perm row).mem_iff.mp ho)
      exact ⟨E .no (I k) (I o), E .no (I k) (I o), rfl, E_vr (E_2V (E_2V rfl rfl (ix_tab true n D o hob)) rfl (oEq_oV _ _)), fun _ => ⟨E .no (I k) .no, rfl, rfl⟩, fun _ => rfl⟩)
    have ea : [] ++ (((isort row).map lfI).filter q).map (fun t => t) = ((isort row).filter fun o => decide (D o = some (k : Int))).map lfI := by
      rw [List.nil_append, List.map_id', List.filter_map]
      rfl
    rw [ea] at r
    have nx : m_Machine_next_of [mch false rs ms fs, I x] = some (li true (isort row), [mch false rs ms fs, I x]) := by
      have := next_of_ok rs ms fs x.toNat hl
      rw [show ((x.toNat : Nat) : Int) = x by omega] at this
      exact this
    have it : dIt itemsL (dMeth "Machine" "next_of" m_Machine_next_of none [none] [] (gS 0) (aCons (gM 3) aNil)) (E (I x) (I k) .no) = some ((isort row).map lfI, E .no (I k) .no) :=
      E_it (E_meth (E_S (t := mch false rs ms fs) rfl (frz_mch _ _ _ _) rfl) (isIns_mch _ _ _ _ nbn) (E_cons (E_M (t := I x) rfl rfl) rfl) nx rfl) (items_li _ _)
    have c3 : dLc (dIt itemsL (dMeth "Machine" "next_of" m_Machine_next_of none [none] [] (gS 0) (aCons (gM 3) aNil))) (gN 7) (vr (o2V oEq (o2V oIx (gV 4) (gV 7)) (gV 6))) (gM 7) [7] (E (I x) (I k) .no) = some (li true ((isort row).filter fun o => decide (D o = some (k : Int))), E .no (I k) .no) := E_lc it rfl r rfl rfl
    have hm : (isort ((isort row).filter fun o => decide (D o = some (k : Int)))).head? = some y := by
      rw [isort_congr ((isort_perm row).filter _)]
      exact N1.hd
    have s3 : dSet 3 (re (o1 oMinL (dLc (dIt itemsL (dMeth "Machine" "next_of" m_Machine_next_of none [none] [] (gS 0) (aCons (gM 3) aNil))) (gN 7) (vr (o2V oEq (o2V oIx (gV 4) (gV 7)) (gV 6))) (gM 7) [7]))) (E (I x) (I k) .no) = some (.nx, E (I y) (I k) .no) := E_set (E_re (E_1 c3 (oMinL_li _ _ hm)) (cln_lf _)) (by simp [E]) rfl
    have s5 : dEx (dMut "list" 5 mAppend (aCons (gS 3) aNil)) (E (I y) (I k) .no) = some (.nx, [mch false rs ms fs, .no, .no, I y, lo true (tab n D), li true (pre ++ [x] ++ [y]), I k, .no]) :=
      E_ex (E_mut (t0 := li true (pre ++ [x])) rfl rfl (E_cons (E_S (t := I y) rfl (frz_lf _) rfl) rfl) rfl (ap_li _ _ (by simp; omega)) rfl)
    have hb' : swBody (E (I x) X6 .no) = some (.nx, [mch false rs ms fs, .no, .no, I y, lo true (tab n D), li true (pre ++ [x] ++ [y]), I k, .no]) := (E_seq s6).trans ((E_seq s3).trans s5)
    obtain ⟨e, g1, yy, x6, rfl⟩ := ih y (pre ++ [x]) m (I k) N1.d (by omega) (by simp; omega)
    refine ⟨_, ?_, yy, x6, rfl⟩
    rw [dWh, t]
    show (match swBody (E (I x) X6 .no) with
        | some (.nx, e2) => dWh (vr (o2V oGt (o2V oIx (gV 4) (gV 3)) (gC (.int 0)))) swBody m e2
        | some (.ct, e2) => dWh (vr (o2V oGt (o2V oIx (gV 4) (gV 3)) (gC (.int 0)))) swBody m e2
        | some (.bk, e2) => some (.nx, e2)
        | some (.rt t, e2) => some (.rt t, e2)
        | none => none) = _
    rw [hb']
    have ew : pre ++ wlk D rs (k + 1) x = pre ++ [x] ++ wlk D rs k y := by rw [wlk]; simp [y]
    rw [ew]
    exact g1
/-- what a walk is told as -/
def wlkT (o : Bool) (D : Int → Option Int) (rs : List (List Int)) (x : Int) : T := match D x with | some d => li o (wlk D rs d.toNat x) | none => N
theorem short_any (oW oG : Bool) (n : Nat) (rs ms fs) (W G : List Int) (D : Int → Option Int) (hrs : Stps n rs) (hn : n ≤ 60) (hD : Dist n rs W G D) (hdist : m_distances [mch false rs ms fs, li oW W, li oG G] = some (lo true (tab n D), [.no, .no, .no])) (x : Int) (hx : 0 ≤ x ∧ x < n) :
    m_short_walk [mch false rs ms fs, li oW W, li oG G, I x] = some (wlkT true D rs x, [mch false rs ms fs, .no, .no, .no]) := by
  have a4 : dSet 4 (dCall m_distances [none, none, none] [] (aCons (gS 0) (aCons (gM 1) (aCons (gM 2) aNil)))) [mch false rs ms fs, li oW W, li oG G, I x, .no, .no, .no, .no] = some (.nx, [mch false rs ms fs, .no, .no, I x, lo true (tab n D), .no, .no, .no]) :=
    E_set (E_call (E_cons (E_S (t := mch false rs ms fs) rfl (frz_mch _ _ _ _) rfl) (E_cons (E_M (t := li oW W) rfl rfl) (E_cons (E_M (t := li oG G) rfl rfl) rfl))) hdist rfl) (by simp) rfl
  have t1 : vr (o2V oIsN (o2V oIx (gV 4) (gV 3)) (gC .non)) [mch false rs ms fs, .no, .no, I x, lo true (tab n D), .no, .no, .no] = some (B (D x).isNone, [mch false rs ms fs, .no, .no, I x, lo true (tab n D), .no, .no, .no]) := E_vr (E_2V (E_2V rfl rfl (ix_tab true n D x hx)) rfl (isN_oV _))
  cases hd : D x with
  | none =>
    rw [hd] at t1
    refine E_fun (e := [mch false rs ms fs, .no, .no, I x, lo true (tab n D), .no, .no, .no]) rfl ?_ rfl
    show b_short_walk [mch false rs ms fs, li oW W, li oG G, I x, .no, .no, .no, .no] = some (.rt (wlkT true D rs x), _)
    unfold b_short_walk wlkT
    rw [hd]
    exact (E_seq a4).trans (E_seqR ((E_ifT t1).trans (E_ret (E_re (E_vr rfl) (cln_lf _)))))
  | some d =>
    rw [hd] at t1
    have hd0 := hD.lt x d hd
    obtain ⟨e, g1, y, x6, rfl⟩ := sw_loop n rs ms fs W G D hrs hn hD d.toNat x [] 4000 .no (by rw [hd, Int.toNat_of_nonneg hd0.1]) (by omega) (by simp; omega)
    refine E_fun (e := [mch false rs ms fs, .no, .no, y, lo true (tab n D), .no, x6, .no]) rfl ?_ rfl
    show b_short_walk [mch false rs ms fs, li oW W, li oG G, I x, .no, .no, .no, .no] = some (.rt (wlkT true D rs x), _)
    unfold b_short_walk wlkT
    rw [hd]
    have a5 : dSet 5 (dLst (aCons (gS 3) aNil)) [mch false rs ms fs, .no, .no, I x, lo true (tab n D), .no, .no, .no] = some (.nx, [mch false rs ms fs, .no, .no, I x, lo true (tab n D), li true ([] ++ [x]), .no, .no]) :=
      E_set (E_lst (ts := [I x]) (E_cons (E_S (t := I x) rfl (frz_lf _) rfl) rfl) (Nat.le_of_lt (small (n := 1) (by omega)))) (by simp) rfl
    refine (E_seq a4).trans ((E_seq ((E_ifF t1).trans rfl)).trans ((E_seq a5).trans ((E_seq g1).trans ?_)))
    exact E_ret (E_M (t := li true ([] ++ wlk D rs d.toNat x)) rfl rfl)
theorem ix_last_li (o : Bool) (pre : List Int) (x : Int) : oIx (li o (pre ++ [x])) (I (-1)) = some (I x) := by
  show L2.atI ((pre ++ [x]).map lfI) (-1) = _
  rw [List.map_append]
  exact atI_last _ _
/-- the distances -/
def dsf (n : Nat) (rs : List (List Int)) (W G : List Int) : Int → Option Int := dst (gro n rs W G n G)
theorem dsf_dist {n : Nat} {rs : List (List Int)} {W G : List Int} (hn0 : 0 < n) (hG : Asc n G) : Dist n rs W G (dsf n rs W G) := by
  obtain ⟨R, inc, on⟩ := gro_rnds n rs W G n G (by omega) (onw_goal hG)
  exact dist_of hn0 R inc on
theorem short_ds (oW oG : Bool) {n : Nat} (rs ms fs) (hrs : Stps n rs) {W G : List Int} (hW : Asc n W) (hG : Asc n G) (x : Int) (hx : 0 ≤ x ∧ x < n) :
    m_short_walk [mch false rs ms fs, li oW W, li oG G, .lf (.int x)] = some (wlkT true (dsf n rs W G) rs x, [mch false rs ms fs, .no, .no, .no]) :=
  short_any oW oG n rs ms fs W G (dsf n rs W G) hrs hrs.le (dsf_dist hrs.pos hG) (distances_any oW oG n rs ms fs hrs.len hrs.le W G hW hG) x hx
/-- each one steps to the next -/
def Chn (rs : List (List Int)) : List Int → Prop
  | a :: b :: l => b ∈ rs.getD a.toNat [] ∧ Chn rs (b :: l)
  | _ => True
theorem chn_cons {rs : List (List Int)} {a : Int} {l : List Int} (h : ∀ b, l.head? = some b → b ∈ rs.getD a.toNat []) (k : Chn rs l) : Chn rs (a :: l) := by
  cases l with
  | nil => trivial
  | cons b l => exact ⟨h b rfl, k⟩
theorem chn_app {rs : List (List Int)} {m : List Int} (hm : Chn rs m) : ∀ {l : List Int}, Chn rs l → (∀ a b, l.getLast? = some a → m.head? = some b → b ∈ rs.getD a.toNat []) → Chn rs (l ++ m)
  | [], _, _ => hm
  | [a], _, h => chn_cons (fun b hb => h a b rfl hb) hm
  | a :: b :: l, hl, h => ⟨hl.1, chn_app hm (l := b :: l) hl.2 fun c d hc hd => h c d (by rw [List.getLast?_cons_cons]; exact hc) hd⟩
theorem chn_at {rs : List (List Int)} : ∀ {l : List Int}, Chn rs l → ∀ (i : Nat) (h : i + 1 < l.length), l[i + 1] ∈ rs.getD (l[i]'(by omega)).toNat []
  | a :: b :: l, h, 0, _ => h.1
  | a :: b :: l, h, i + 1, hi => chn_at (l := b :: l) h.2 i (by simpa using hi)
theorem chn_tail {rs : List (List Int)} {l : List Int} (h : Chn rs l) : Chn rs l.tail := by
  match l with
  | [] => trivial
  | [a] => trivial
  | a :: b :: l => exact h.2
theorem chn_init {rs : List (List Int)} : ∀ {l : List Int}, Chn rs l → Chn rs l.dropLast
  | [], _ => trivial
  | [a], _ => trivial
  | [a, b], _ => trivial
  | a :: b :: c :: l, h => ⟨h.1, chn_init (l := b :: c :: l) h.2⟩
/-- a walk -/
structure Wlk (rs : List (List Int)) (P : List Int) (x y : Int) : Prop where
  hd : P.head? = some x
  ls : P.getLast? = some y
  ch : Chn rs P
theorem wlk_spec {n : Nat} {rs : List (List Int)} {W G : List Int} {D : Int → Option Int} (hD : Dist n rs W G D) : ∀ (k : Nat) (x : Int), D x = some (k : Int) → ∃ y ∈ G, Wlk rs (wlk D rs k x) x y ∧ ∀ z ∈ wlk D rs k x, z ∈ W ∨ z ∈ G := by
  intro k
  induction k with
  | zero =>
    intro x h
    have hg : x ∈ G := Decidable.byContradiction fun z => by
      obtain ⟨_, o, _, e, h1, h2⟩ := hD.back x _ h z
      have := hD.lt o e h1
      omega
    refine ⟨x, hg, ⟨rfl, rfl, trivial⟩, fun z hz => .inr ?_⟩
    have : z = x := by simpa [wlk] using hz
    rw [this]; exact hg
  | succ k ih =>
    intro x h
    have N1 := nxw_ok hD h
    have hg : x ∉ G := fun z => by rw [hD.goal x z] at h; have := Option.some.inj h; omega
    obtain ⟨y, hy, w, m⟩ := ih (nxw D rs k x) N1.d
    refine ⟨y, hy, ⟨rfl, ?_, ?_⟩, fun z hz => ?_⟩
    · rw [wlk, List.getLast?_cons, w.ls]; rfl
    · rw [wlk]
      refine chn_cons (fun b hb => ?_) w.ch
      rw [w.hd] at hb
      cases hb
      have : nxw D rs k x ∈ isort ((rs.getD x.toNat []).filter fun o => decide (D o = some (k : Int))) := List.mem_of_mem_head? N1.hd
      exact (List.mem_filter.mp ((isort_perm _).mem_iff.mp this)).1
    · rw [wlk] at hz
      rcases List.mem_cons.mp hz with rfl | hz
      · exact .inl (hD.back z _ h hg).1
      · exact m z hz
end Pm


set_option Elab.async false
set_option linter.all false
set_option maxRecDepth 100000
set_option maxHeartbeats 4000000
/-! LB: bottom components, loops within them: the mathematics. -/
namespace Pm
open PySem PySem.Spec PyProof.Rows L2 Tr Wk

section
variable {n : Nat} {rs fs : List (List Int)} {K : List Int} {s b : Int}
theorem till_some {W G : List Int} {D : Int → Option Int} (hD : Dist n rs W G D) (hW : ∀ x ∈ W, 0 ≤ x ∧ x < (n : Int)) {x : Int} (t : Till rs W G x) : ∃ k : Nat, D x = some (k : Int) := by
  have : ∃ d, D x = some d := by
    induction t with
    | goal h => exact ⟨0, hD.goal _ h⟩
    | @step x o h1 h2 _ ih =>
      obtain ⟨d, hd⟩ := ih
      by_cases hg : x ∈ G
      · exact ⟨0, hD.goal _ hg⟩
      · obtain ⟨m, h3, h4⟩ := least_next (rs.getD x.toNat []) (fun o d h => (hD.lt o d h).1) o h2 d hd
        exact ⟨_, hD.on x m (hW x h1).1 (hW x h1).2 hg h1 h3 h4⟩
  obtain ⟨d, hd⟩ := this
  have := (hD.lt x d hd).1
  exact ⟨d.toNat, by rw [hd]; congr 1; omega⟩
theorem none_till {W G : List Int} {D : Int → Option Int} (hD : Dist n rs W G D) {x : Int} (h : D x ≠ none) : Till rs W G x := by
  have key : ∀ (k : Nat) (x d : Int), D x = some d → d ≤ k → Till rs W G x := by
    intro k
    induction k with
    | zero =>
      intro x d h hd
      refine .goal (Decidable.byContradiction fun z => ?_)
      obtain ⟨_, o, _, e, h1, h2⟩ := hD.back x _ h z
      have := hD.lt o e h1
      omega
    | succ k ih =>
      intro x d h hd
      by_cases hg : x ∈ G
      · exact .goal hg
      · obtain ⟨h0, o, h1, e, h2, h3⟩ := hD.back x _ h hg
        exact .step h0 h1 (ih o e h2 (by omega))
  cases hd : D x with
  | none => exact (h hd).elim
  | some d =>
    have := (hD.lt x d hd).1
    exact key d.toNat x d hd (by omega)
end
/-- a loop -/
structure Lp (rs fs : List (List Int)) (S L : List Int) (c : Int) : Prop where
  hd : L.head? = some c
  ch : Chn rs L
  inn : ∀ z ∈ L, z ∈ S
  ls : ∃ a, L.getLast? = some a ∧ c ∈ rs.getD a.toNat []
  mt : ∀ f ∈ fs, ∃ z ∈ L, z ∈ f
/-- the path so far -/
structure Pth (rs : List (List Int)) (S P : List Int) (c a : Int) : Prop where
  w : Wlk rs P c a
  inn : ∀ z ∈ P, z ∈ S
theorem Wlk.ne {rs : List (List Int)} {P : List Int} {x y : Int} (h : Wlk rs P x y) : P = x :: P.tail := by
  have := h.hd
  cases P with
  | nil => cases this
  | cons a l => cases this; rfl
theorem pth_ext {rs : List (List Int)} {S P Q : List Int} {c a y : Int} (h : Pth rs S P c a) (w : Wlk rs Q a y) (hS : ∀ z ∈ Q, z ∈ S) : Pth rs S (P ++ Q.tail) c y := by
  refine ⟨⟨?_, ?_, ?_⟩, fun z hz => ?_⟩
  · rw [List.head?_append, h.w.hd]; rfl
  · rw [List.getLast?_append]
    cases hq : Q.tail with
    | nil =>
      have e := w.ne
      rw [hq] at e
      have := w.ls
      rw [e] at this
      rw [h.w.ls]
      cases this
      rfl
    | cons b l =>
      have e := w.ne
      have h2 := w.ls
      rw [e, hq, List.getLast?_cons_cons] at h2
      rw [h2]; rfl
  · refine chn_app (chn_tail w.ch) h.w.ch fun u v hu hv => ?_
    rw [h.w.ls] at hu
    cases hu
    have e := w.ne
    have c := w.ch
    rw [e] at c
    cases hq : Q.tail with
    | nil => rw [hq] at hv; cases hv
    | cons b l => rw [hq] at hv c; cases hv; exact c.1
  · rcases List.mem_append.mp hz with hz | hz
    · exact h.inn z hz
    · exact hS z (List.mem_of_mem_tail hz)
theorem chn_last {rs : List (List Int)} : ∀ {l : List Int} {a c : Int}, Chn rs (l ++ [c]) → l.getLast? = some a → c ∈ rs.getD a.toNat []
  | [], _, _, _, h => by cases h
  | [x], _, _, h, e => by cases e; exact h.1
  | x :: y :: l, a, c, h, e => chn_last (l := y :: l) h.2 (by rwa [List.getLast?_cons_cons] at e)
theorem pth_close {rs fs : List (List Int)} {S P Q : List Int} {c a o : Int} (h : Pth rs S P c a) (ho : o ∈ rs.getD a.toNat []) (w : Wlk rs Q o c) (hS : ∀ z ∈ Q, z ∈ S) (mt : ∀ f ∈ fs, ∃ z ∈ P, z ∈ f) : Lp rs fs S (P ++ Q).dropLast c := by
  have eP := h.w.ne
  have ch : Chn rs (P ++ Q) := chn_app w.ch h.w.ch fun u v hu hv => by
    rw [h.w.ls] at hu; rw [w.hd] at hv
    cases hu; cases hv; exact ho
  have hQ : Q ≠ [] := by rw [w.ne]; simp
  have ls : (P ++ Q).getLast? = some c := by rw [List.getLast?_append, w.ls]; rfl
  have hne : P ++ Q ≠ [] := by simp [hQ]
  have eq : (P ++ Q).dropLast ++ [c] = P ++ Q := by
    have := List.dropLast_concat_getLast hne
    have e2 := List.getLast?_eq_some_getLast hne
    rw [ls] at e2
    cases e2
    exact this
  have eD : (P ++ Q).dropLast = P ++ Q.dropLast := List.dropLast_append_of_ne_nil hQ
  refine ⟨?_, chn_init ch, fun z hz => ?_, ?_, fun f hf => ?_⟩
  · rw [eD, List.head?_append, h.w.hd]; rfl
  · rw [eD] at hz
    rcases List.mem_append.mp hz with hz | hz
    · exact h.inn z hz
    · exact hS z (List.dropLast_subset _ hz)
  · have hn : (P ++ Q).dropLast ≠ [] := by rw [eD, eP]; simp
    refine ⟨_, List.getLast?_eq_some_getLast hn, ?_⟩
    exact chn_last (l := (P ++ Q).dropLast) (by rw [eq]; exact ch) (List.getLast?_eq_some_getLast hn)
  · obtain ⟨z, hz, k⟩ := mt f hf
    exact ⟨z, by rw [eD]; exact List.mem_append.mpr (.inl hz), k⟩
end Pm


set_option Elab.async false
set_option linter.all false
set_option maxRecDepth 100000
set_option maxHeartbeats 4000000
/-! PWh: _law_whole. -/
namespace Pm
open PySem PySem.Spec PyProof.Rows L2 Tr Wk
local macro_rules | `(tactic| exists $es,*) => do { let ls ← es.getElems.mapM fun e => `(Lean.Parser.Tactic.simpLemma| $e:term); `(tactic| simp -implicitDefEqProofs (disch := (first | assumption | omega | decide | (simp only [List.length_cons, List.length_nil, List.length_append, List.length_map, Tr.rgI_len]; omega) | (simp only [List.length_cons, List.length_nil, List.length_append, List.length_map, Int.toNat_natCast] at *; omega))) only [Tr.okT_lf, Tr.okT_nd, Tr.okT_li, Tr.okT_ll, Tr.okT_dk, Tr.okT_mks, Tr.okT_mk1, Tr.okT_mch, Tr.okT_scr, Tr.okT_tp, Tr.okO_some, Tr.gV_ev, Tr.gC_ev, Tr.gG_ev, Tr.fM_ev, Tr.fS_ev, Tr.gM_ev, Tr.gS_ev, Tr.fP_ev, Tr.fQ_ev, Tr.vr_ev, Tr.fRe_ev, Tr.re_ev, Tr.fO1_ev, Tr.o1V_ev, Tr.o1_ev, Tr.fO2V_ev, Tr.o2V_ev, Tr.fO2v'_ev, Tr.fO2v_ev, Tr.o2v_ev, Tr.fO2o'_ev, Tr.fO2o_ev, Tr.o2o_ev, Tr.fO2c'_ev, Tr.fO2c_ev, Tr.o2c_ev, Tr.fO2n''_ev, Tr.fO2n'_ev, Tr.fO2n_ev, Tr.o2n_ev, Tr.fAnd_ev, Tr.fOr_ev, Tr.dAnd_ev, Tr.dOr_ev, Tr.ite_BB, Tr.ite_decF, Tr.ite_Tdec, Tr.z_cast, Tr.z_ndec, Tr.ite_TF, Tr.ite_FT, Tr.bind_ite, Tr.aNil_ev, Tr.fCons'_ev, Tr.fCons_ev, Tr.aCons_ev, Tr.fCall'_ev, Tr.fCall_ev, Tr.dCall_ev, Tr.wb_nil, Tr.wb_none, Tr.fWb_ev, Tr.wb_some, Tr.fMeth'_ev, Tr.fMeth_ev, Tr.dMeth_ev, Tr.fMake'_ev, Tr.fMake_ev, Tr.dMake_ev, Tr.fSeq_nx, Tr.fSeq_rt, Tr.fSeq_bk, Tr.fSeq_ct, Tr.dSeq_ev, Tr.fIf_ev, Tr.dIf_ev, Tr.fSet_ev, Tr.dSet_ev, Tr.fRet_ev, Tr.dRet_ev, Tr.fEx_ev, Tr.dEx_ev, Tr.dRetN_ev, Tr.dNx_ev, Tr.dBk_ev, Tr.dCt_ev, Tr.dFail_ev, Tr.fPut''_ev, Tr.fPut'_ev, Tr.fPut1_ev, Tr.fPut_ev, Tr.dPut_ev, Tr.fMut3_ev, Tr.fMut2_ev, Tr.fMut1_ev, Tr.fMut_ev, Tr.dMut_ev, Tr.fLst_ev, Tr.fTup_ev, Tr.dLst_ev, Tr.dTup_ev, Tr.dDic_ev, Tr.fBw_ev, Tr.bw_ev, Tr.fFz_ev, Tr.fz_ev, Tr.fAug''_ev, Tr.fAug'_ev, Tr.fAug_ev, Tr.dAug_ev, Tr.z_ex, Tr.z_exT, Tr.fRng_nat, Tr.dRng_ev, Tr.fIt'_ev, Tr.fIt_ev, Tr.dIt_ev, Tr.fFor_ev, Tr.dFor_ev, Tr.gN_ev, Tr.fG_ev, Tr.gT2_ev, Tr.gT2_mk1, Tr.dFr_nil, Tr.turn_ev, Tr.fFr_nx, Tr.fFr_ct, Tr.fFr_bk, Tr.fFr_rt, Tr.dFr_cons, Tr.fLc'_ev, Tr.fLc_ev, Tr.dLc_ev, Tr.dLr_nil, Tr.wipeT_nil, Tr.wipeT_cons, Tr.backT_nil, Tr.backT_cons, Tr.cleanAt_nil, Tr.cleanAt_cons, Tr.fFun_rt, Tr.fFun_nx, Tr.dFun_ev, Tr.outs_cons, Tr.outs_nil, Tr.frzs_nil, Tr.frzs_cons, Tr.z_frz1, Tr.z_frz2, Tr.z_frz3, Tr.z_frz4, Tr.z_frz5, Tr.z_frz6, Tr.z_frz7, Tr.z_frz8, Tr.z_frz9, Tr.z_frz10, Tr.z_frz11, Tr.z_cln1, Tr.z_cln2, Tr.z_cln3, Tr.z_cln4, Tr.z_cln5, Tr.z_cln6, Tr.z_cln7, Tr.z_cln8, Tr.z_cln9, Tr.z_cln10, Tr.z_clns1, Tr.z_clns2, Tr.z_clns3, Tr.z_pure1, Tr.z_pure2, Tr.z_pure3, Tr.z_pure4, Tr.z_pure5, Tr.z_pure6, Tr.z_pure7, Tr.z_lfI, Tr.z_li, Tr.z_add, Tr.z_sub, Tr.z_mulr, Tr.z_mod, Tr.z_div, Tr.z_lt, Tr.z_le, Tr.z_gt, Tr.z_ge, Tr.z_eq, Tr.z_ne, Tr.z_neg, Tr.z_eqli, Tr.z_neli, Tr.z_eqnil, Tr.z_nenil, Tr.z_inli, Tr.z_ninli, Tr.z_indk, Tr.z_nindk, Tr.z_ll, Tr.z_mks, Tr.z_nil, Tr.z_appll, Tr.z_int1, Tr.z_int2, Tr.z_len1, Tr.z_len2, Tr.z_len3, Tr.z_len4, Tr.z_len5, Tr.z_len6, Tr.z_len7, Tr.z_not, Tr.z_isi1, Tr.z_isi2, Tr.z_isi3, Tr.z_isi4, Tr.z_isi5, Tr.z_isi6, Tr.z_list1, Tr.z_sort1, Tr.z_sort2, Tr.z_app1, Tr.z_app2, Tr.z_pop1, Tr.z_clr1, Tr.z_clr2, Tr.z_rev1, Tr.z_ext1, Tr.z_cat1, Tr.z_it1, Tr.z_it2, Tr.z_it3, Tr.z_it4, Tr.z_ty1, Tr.z_ty2, Tr.z_ty3, Tr.z_ty4, Tr.z_fst, Tr.z_fma, Tr.z_ffa, Tr.z_ins1, Tr.z_ins2, Tr.z_ins3, Tr.z_ins4, Tr.z_ins5, Tr.z_ixli, Tr.z_ixll, Tr.z_ixlast, Tr.z_setdk, Tr.fDic1_ev, Tr.fDic1'_ev, Tr.dDic1_ev, Tr.fLRg_nat, Tr.dLRg_ev, Tr.z_len8, Tr.z_bind_some, Tr.z_get0, Tr.z_gets, Tr.z_getD0, Tr.z_getDs, Tr.z_set0, Tr.z_sets, Tr.z_app, Tr.z_nil_app, Tr.z_app_nil, Tr.z_map0, Tr.z_mapc, Tr.z_rep0, Tr.z_reps, Tr.z_lenc, Tr.z_lenn, ↓reduceIte, ite_true, ite_false, Nat.reduceAdd, Nat.reduceSub, Nat.reduceLT, Nat.reduceLeDiff, Nat.zero_add, Nat.lt_add_one, Nat.zero_lt_succ, decide_true, decide_false, decide_eq_true_eq, decide_eq_false_iff_not, Bool.not_eq_true, Bool.not_eq_false, Bool.not_true, Bool.not_false, Bool.not_eq_true', Bool.and_true, Bool.true_and, Bool.and_self, Bool.and_eq_true, Bool.or_eq_true, not_true_eq_false, not_false_eq_true, eq_self, and_self, and_true, true_and, false_and, and_false, or_true, true_or, or_false, false_or, reduceCtorEq, Bool.false_eq_true, Int.toNat_natCast, Int.reduceToNat, Int.reduceEq, Int.reduceLT, Int.reduceLE, Int.reduceNeg, Int.reduceAdd, Int.reduceSub, Int.reduceMul, List.length_map, Bool.not_not, Bool.not_eq_eq_eq_not, Decidable.not_not, Nat.reduceEqDiff, Bool.false_and, Bool.and_false, Option.isSome_some, Option.isSome_none, Option.isNone_some, Option.isNone_none, $ls,*]) }

theorem whole1 (x : Int) : m_law_whole [.lf (.int x)] = some (.lf (.bl true), [.lf (.int x)]) := by
  exists m_law_whole, bn_law_whole
end Pm


set_option Elab.async false
set_option linter.all false
set_option autoImplicit false
set_option maxRecDepth 100000
set_option maxHeartbeats 4000000
/-! EV3: texts by their codes. -/
namespace Tr
open PySem PySem.Spec PyProof.Rows L2 Pm

/-- a text by its codes -/
def tx (l : List Nat) : T := .lf (.str ⟨l.toArray⟩)
--ev
theorem z_okst (l) : okT (tx l) = some (tx l) := rfl
--ev
theorem z_frzst (l) : frz (tx l) = tx l := frz_lf _
--ev
theorem z_clnst (l) : cln (tx l) = true := cln_lf _
--ev
theorem z_purest (l) : pureT (tx l) = true := pure_lf _
theorem str_len (l : List Nat) : (⟨l.toArray⟩ : Str).length = l.length := by show l.toArray.size = _; simp
theorem str_inj {a b : List Nat} : ((⟨a.toArray⟩ : Str) = ⟨b.toArray⟩) ↔ a = b := by
  constructor
  · intro h
    have := congrArg (fun s : Str => s.cps.toList) h
    simpa using this
  · rintro rfl; rfl
--ev
theorem z_addst (a b : List Nat) (h : a.length + b.length ≤ 1000) : oAdd (tx a) (tx b) = some (tx (a ++ b)) := by
  have := small h
  show (if (⟨a.toArray⟩ : Str).length + (⟨b.toArray⟩ : Str).length ≤ sizeLine then some (T.lf (.str (⟨a.toArray⟩ ++ ⟨b.toArray⟩))) else none) = _
  rw [str_len, str_len, if_pos (by omega)]
  unfold tx
  congr 3
  show (⟨a.toArray ++ b.toArray⟩ : Str) = _
  simp
--ev
theorem z_lenst (a : List Nat) (h : a.length ≤ 1000) : oLen (tx a) = some (.lf (.int a.length)) := by
  have := small h
  unfold tx oLen
  simp only [str_len]
  rw [if_pos (by omega)]
--ev
theorem z_inst1 (c : Nat) (l : List Nat) : oIn (tx [c]) (tx l) = some (.lf (.bl (decide (c ∈ l)))) := by
  show (inB (tx [c]) (tx l)).map _ = _
  unfold tx inB; simp
--ev
theorem z_ninst1 (c : Nat) (l : List Nat) : oNotIn (tx [c]) (tx l) = some (.lf (.bl (!decide (c ∈ l)))) := by
  show (inB (tx [c]) (tx l)).map _ = _
  unfold tx inB; simp
--ev
theorem z_ixst (l : List Nat) (i : Int) (hl : l.length ≤ 1000) (h0 : 0 ≤ i) (h : i.toNat < l.length) : oIx (tx l) (.lf (.int i)) = some (tx [l.getD i.toNat 0]) := by
  have := small hl
  show (if (⟨l.toArray⟩ : Str).length ≤ sizeLine then (L2.atI (⟨l.toArray⟩ : Str).cps.toList i).map fun c => T.lf (.str ⟨#[c]⟩) else none) = _
  rw [str_len, if_pos (by omega)]
  show (L2.atI l i).map _ = _
  rw [atI_of h0 h, List.getElem?_eq_getElem h]
  simp [tx, h]
/-- codes of signs that there are -/
def Okc (l : List Nat) : Bool := l.all fun c => decide (c < 1114112)
theorem shaped_str {s : Str} (h : PyData.strOk s = true) : SeqAt.shaped (.str s) = true := by
  unfold SeqAt.shaped
  rw [PyData.canLay0, PyData.depth, h]
  decide
theorem strOk_st {l : List Nat} (h : Okc l = true) : PyData.strOk ⟨l.toArray⟩ = true := by
  unfold PyData.strOk; simpa [Okc] using h
theorem oEq_str {s t : Str} (hs : PyData.strOk s = true) (ht : PyData.strOk t = true) : oEq (.lf (.str s)) (.lf (.str t)) = some (.lf (.bl (decide (s = t)))) := by
  unfold oEq
  simp only [toD, Option.bind_some, shaped_str hs, shaped_str ht, and_self, if_true, PyData.eqv]
  by_cases h : s = t <;> simp [h]
theorem oNe_str {s t : Str} (hs : PyData.strOk s = true) (ht : PyData.strOk t = true) : oNe (.lf (.str s)) (.lf (.str t)) = some (.lf (.bl (!decide (s = t)))) := by
  unfold oNe
  simp only [toD, Option.bind_some, shaped_str hs, shaped_str ht, and_self, if_true, PyData.eqv]
  by_cases h : s = t <;> simp [h]
/-- are two texts alike -/
def eqL (a b : List Nat) : Bool := decide (a = b)
--ev
theorem eqL_self (a) : eqL a a = true := decide_eq_true rfl
--ev
theorem eqL_nn : eqL [] [] = true := rfl
--ev
theorem eqL_nc (c a) : eqL [] (c :: a) = false := rfl
--ev
theorem eqL_cn (c a) : eqL (c :: a) [] = false := rfl
--ev
theorem eqL_cc (c a d b) : eqL (c :: a) (d :: b) = (decide (c = d) && eqL a b) := by
  unfold eqL; by_cases h : c = d <;> by_cases k : a = b <;> simp [h, k]
theorem eqL_iff {a b : List Nat} : eqL a b = true ↔ a = b := decide_eq_true_iff
theorem eqL_ne {a b : List Nat} (h : a ≠ b) : eqL a b = false := decide_eq_false h
--ev
theorem z_eqst (a b : List Nat) (ha : Okc a = true) (hb : Okc b = true) : oEq (tx a) (tx b) = some (.lf (.bl (eqL a b))) := by unfold tx; rw [oEq_str (strOk_st ha) (strOk_st hb)]; simp only [str_inj, eqL]
--ev
theorem z_nest (a b : List Nat) (ha : Okc a = true) (hb : Okc b = true) : oNe (tx a) (tx b) = some (.lf (.bl (!eqL a b))) := by unfold tx; rw [oNe_str (strOk_st ha) (strOk_st hb)]; simp only [str_inj, eqL]
theorem any_st (x : List Nat) (ws : List (List Nat)) : (ws.map tx).any (eqT (.str ⟨x.toArray⟩)) = decide (x ∈ ws) := by
  induction ws with
  | nil => rfl
  | cons y ys ih =>
    rw [List.map_cons, List.any_cons, ih]
    show ((⟨y.toArray⟩ : Str) == ⟨x.toArray⟩ || _) = _
    by_cases h : y = x
    · subst h; simp
    · have h1 : ¬ x = y := fun e => h e.symm
      have h2 : ((⟨y.toArray⟩ : Str) == ⟨x.toArray⟩) = false := by rw [beq_eq_false_iff_ne]; exact fun e => h (str_inj.mp e)
      rw [h2]; simp [h1]
theorem fl_st (ws : List (List Nat)) : (ws.map tx).all flT = true := by rw [List.all_map, List.all_eq_true]; intro x _; rfl
/-- a list or a tuple of texts -/
def sl (o : Bool) (k : Kd) (ws : List (List Nat)) : T := .nd o k (ws.map tx)
theorem inB_sl (x : List Nat) (o : Bool) (k : Kd) (hk : isSq k = true) (ws : List (List Nat)) : inB (tx x) (sl o k ws) = some (decide (x ∈ ws)) := by
  have : ∀ k, isSq k = true → inB (tx x) (sl o k ws) = if flatV (V.str ⟨x.toArray⟩) = true ∧ (ws.map tx).all flT = true then some ((ws.map tx).any (eqT (.str ⟨x.toArray⟩))) else none := fun k h => by cases k <;> first | rfl | cases h
  rw [this k hk, any_st, fl_st]
  simp [flatV]
--ev
theorem z_insl (x o k ws) (hk : isSq k = true) : oIn (tx x) (sl o k ws) = some (.lf (.bl (decide (x ∈ ws)))) := by unfold oIn; rw [inB_sl x o k hk]; rfl
--ev
theorem z_ninsl (x o k ws) (hk : isSq k = true) : oNotIn (tx x) (sl o k ws) = some (.lf (.bl (!decide (x ∈ ws)))) := by unfold oNotIn; rw [inB_sl x o k hk]; rfl
--ev
theorem z_sq1 : isSq .lst = true := rfl
--ev
theorem z_sq2 : isSq .tup = true := rfl
--ev
theorem z_sq3 : isSq .rot = true := rfl
--ev
theorem z_itst (l : List Nat) : itemsS (tx l) = some (l.map fun c => tx [c]) := rfl
--ev
theorem z_isist (l) : oIsi "str" (tx l) = some (.lf (.bl true)) := by simp [oIsi, tyN, isiB, tx]
--ev
theorem z_slst (l lo hi) (h : l.length ≤ 1000) : oSlS lo hi (tx l) = some (tx (cutT l lo hi)) := by
  have := small h
  show (if (⟨l.toArray⟩ : Str).length ≤ sizeLine then some (T.lf (.str (cutS ⟨l.toArray⟩ lo hi))) else none) = _
  rw [str_len, if_pos (by omega)]
  unfold tx cutS cutT
  rw [str_len]
--ev
theorem z_cutOne {α : Type} (xs : List α) : cutT xs none (some 1) = xs.take 1 := by
  unfold cutT
  rw [HT.sIx_none, show HT.sIx xs.length xs.length (some 1) = min 1 xs.length from HT.sIx_nat _ _ 1]
  cases xs with
  | nil => rfl
  | cons a l => simp
/-! texts that are written -/
--ev
theorem lit_all : (.lf (.str "all") : T) = tx [97, 108, 108] := rfl
--ev
theorem lit_not : (.lf (.str "not") : T) = tx [110, 111, 116] := rfl
--ev
theorem lit_both : (.lf (.str "both") : T) = tx [98, 111, 116, 104] := rfl
--ev
theorem lit_either : (.lf (.str "either") : T) = tx [101, 105, 116, 104, 101, 114] := rfl
--ev
theorem lit_somenext : (.lf (.str "somenext") : T) = tx [115, 111, 109, 101, 110, 101, 120, 116] := rfl
--ev
theorem lit_eachnext : (.lf (.str "eachnext") : T) = tx [101, 97, 99, 104, 110, 101, 120, 116] := rfl
--ev
theorem lit_sometill : (.lf (.str "sometill") : T) = tx [115, 111, 109, 101, 116, 105, 108, 108] := rfl
--ev
theorem lit_eachtill : (.lf (.str "eachtill") : T) = tx [101, 97, 99, 104, 116, 105, 108, 108] := rfl
--ev
theorem lit_someever : (.lf (.str "someever") : T) = tx [115, 111, 109, 101, 101, 118, 101, 114] := rfl
--ev
theorem lit_eachever : (.lf (.str "eachever") : T) = tx [101, 97, 99, 104, 101, 118, 101, 114] := rfl
--ev
theorem lit_somealways : (.lf (.str "somealways") : T) = tx [115, 111, 109, 101, 97, 108, 119, 97, 121, 115] := rfl
--ev
theorem lit_eachalways : (.lf (.str "eachalways") : T) = tx [101, 97, 99, 104, 97, 108, 119, 97, 121, 115] := rfl
--ev
theorem lit_mark : (.lf (.str "mark") : T) = tx [109, 97, 114, 107] := rfl
--ev
theorem lit_loop : (.lf (.str "loop") : T) = tx [108, 111, 111, 112] := rfl
--ev
theorem lit_rank : (.lf (.str "rank") : T) = tx [114, 97, 110, 107] := rfl
--ev
theorem lit_walk : (.lf (.str "walk") : T) = tx [119, 97, 108, 107] := rfl
--ev
theorem lit_shut : (.lf (.str "shut") : T) = tx [115, 104, 117, 116] := rfl
--ev
theorem lit_out : (.lf (.str "out") : T) = tx [111, 117, 116] := rfl
--ev
theorem lit_here : (.lf (.str "here") : T) = tx [104, 101, 114, 101] := rfl
--ev
theorem lit_dead : (.lf (.str "dead") : T) = tx [100, 101, 97, 100] := rfl
--ev
theorem lit_plain : (.lf (.str "plain") : T) = tx [112, 108, 97, 105, 110] := rfl
--ev
theorem lit_step : (.lf (.str "step") : T) = tx [115, 116, 101, 112] := rfl
--ev
theorem lit_none : (.lf (.str "none") : T) = tx [110, 111, 110, 101] := rfl
--ev
theorem lit_fair : (.lf (.str "fair") : T) = tx [102, 97, 105, 114] := rfl
--ev
theorem lit_answer : (.lf (.str "answer") : T) = tx [97, 110, 115, 119, 101, 114] := rfl
--ev
theorem lit_p : (.lf (.str "p") : T) = tx [112] := rfl
--ev
theorem lit_wet : (.lf (.str "wet") : T) = tx [119, 101, 116] := rfl
--ev
theorem lit_darkness : (.lf (.str "darkness") : T) = tx [100, 97, 114, 107, 110, 101, 115, 115] := rfl
--ev
theorem lit_x : (.lf (.str "x") : T) = tx [120] := rfl
--ev
theorem lit_q : (.lf (.str "q") : T) = tx [113] := rfl
--ev
theorem lit_empty : (.lf (.str "") : T) = tx [] := rfl
--ev
theorem lit_in : (.lf (.str "in") : T) = tx [105, 110] := rfl
/-! the words that are kept -/
def ABC : List Nat := [97, 98, 99, 100, 101, 102, 103, 104, 105, 106, 107, 108, 109, 110, 111, 112, 113, 114, 115, 116, 117, 118, 119, 120, 121, 122]
def KW : List (List Nat) := [[97, 108, 108], [110, 111, 116], [98, 111, 116, 104], [101, 105, 116, 104, 101, 114], [115, 111, 109, 101, 110, 101, 120, 116], [101, 97, 99, 104, 110, 101, 120, 116], [115, 111, 109, 101, 116, 105, 108, 108], [101, 97, 99, 104, 116, 105, 108, 108], [115, 111, 109, 101, 101, 118, 101, 114], [101, 97, 99, 104, 101, 118, 101, 114]]
--ev
theorem lit_letters : (.lf (.str "abcdefghijklmnopqrstuvwxyz") : T) = tx ABC := rfl
theorem lit_kept (o k) : (.nd o k [.lf (.str "all"), .lf (.str "not"), .lf (.str "both"), .lf (.str "either"), .lf (.str "somenext"), .lf (.str "eachnext"), .lf (.str "sometill"), .lf (.str "eachtill"), .lf (.str "someever"), .lf (.str "eachever")] : T) = sl o k KW := rfl
--ev
theorem z_kept (o k) : (.nd o k [tx [97, 108, 108], tx [110, 111, 116], tx [98, 111, 116, 104], tx [101, 105, 116, 104, 101, 114], tx [115, 111, 109, 101, 110, 101, 120, 116], tx [101, 97, 99, 104, 110, 101, 120, 116], tx [115, 111, 109, 101, 116, 105, 108, 108], tx [101, 97, 99, 104, 116, 105, 108, 108], tx [115, 111, 109, 101, 101, 118, 101, 114], tx [101, 97, 99, 104, 101, 118, 101, 114]] : T) = sl o k KW := rfl
/-! ### tuples put together, tables -/
--ev
theorem z_catX12 (a b c) : oCatX (.nd false .tup [a]) (.nd false .tup [b, c]) = some (.nd false .tup [a, b, c]) := by
  show (if ([a] : List T) ≠ [] ∧ [b, c] ≠ [] ∧ [a].length + [b, c].length ≤ sizeLine then some (T.nd false .tup ([a] ++ [b, c])) else none) = _
  rw [if_pos ⟨by simp, by simp, Nat.le_of_lt (small (by simp))⟩]; rfl
--ev
theorem z_catT12 (a b c o o') : oCatT (.nd o .tup [a]) (.nd o' .tup [b, c]) = if cln a = true ∧ cln b = true ∧ cln c = true then some (.nd false .tup [a, b, c]) else none := by
  show (if clns [a] = true ∧ clns [b, c] = true ∧ ([a] : List T) ≠ [] ∧ [b, c] ≠ [] ∧ [a].length + [b, c].length ≤ sizeLine then some (T.nd false .tup ([a] ++ [b, c])) else none) = _
  simp only [clns, Bool.and_true, Bool.and_eq_true]
  by_cases h : cln a = true ∧ cln b = true ∧ cln c = true
  · rw [if_pos h, if_pos ⟨h.1, h.2, by simp, by simp, Nat.le_of_lt (small (by simp))⟩]; rfl
  · rw [if_neg h, if_neg fun z => h ⟨z.1, z.2.1⟩]
--ev
theorem z_ixt2 (o a b c xs) : oIx (.nd o .tup (a :: b :: c :: xs)) (.lf (.int 2)) = some c := by
  show L2.atI (a :: b :: c :: xs) 2 = _; rw [atI_of (by omega) (by simp)]; rfl
theorem ap_tl (i : Nat) (f : Int → T) (h : i ≤ 1000) : mAppend (tl true i f) [f i] = some (.lf .non, tl true (i + 1) f) := by
  have := small h
  show (if ((rgI i).map f).length < sizeLine then some (T.lf .non, T.nd true .lst ((rgI i).map f ++ [f i])) else none) = _
  rw [List.length_map, rgI_len, if_pos this]
  unfold tl rgI
  rw [List.range_succ, List.map_append, List.map_append]; rfl
theorem tl_nil (f) : li true [] = tl true 0 f := rfl
end Tr


set_option Elab.async false
set_option linter.all false
set_option autoImplicit false
set_option maxRecDepth 100000
set_option maxHeartbeats 4000000
/-! LK: the law's look at walks (_law_walk, with a start). -/
namespace Pm
open PySem PySem.Spec PyProof.Rows L2 Tr Wk
local macro_rules | `(tactic| exists $es,*) => do { let ls ← es.getElems.mapM fun e => `(Lean.Parser.Tactic.simpLemma| $e:term); `(tactic| simp -implicitDefEqProofs (disch := (first | assumption | omega | decide | (simp only [List.length_cons, List.length_nil, List.length_append, List.length_map, Tr.rgI_len]; omega) | (simp only [List.length_cons, List.length_nil, List.length_append, List.length_map, Int.toNat_natCast] at *; omega))) only [Tr.okT_lf, Tr.okT_nd, Tr.okT_li, Tr.okT_ll, Tr.okT_dk, Tr.okT_mks, Tr.okT_mk1, Tr.okT_mch, Tr.okT_scr, Tr.okT_tp, Tr.okO_some, Tr.gV_ev, Tr.gC_ev, Tr.gG_ev, Tr.fM_ev, Tr.fS_ev, Tr.gM_ev, Tr.gS_ev, Tr.fP_ev, Tr.fQ_ev, Tr.vr_ev, Tr.fRe_ev, Tr.re_ev, Tr.fO1_ev, Tr.o1V_ev, Tr.o1_ev, Tr.fO2V_ev, Tr.o2V_ev, Tr.fO2v'_ev, Tr.fO2v_ev, Tr.o2v_ev, Tr.fO2o'_ev, Tr.fO2o_ev, Tr.o2o_ev, Tr.fO2c'_ev, Tr.fO2c_ev, Tr.o2c_ev, Tr.fO2n''_ev, Tr.fO2n'_ev, Tr.fO2n_ev, Tr.o2n_ev, Tr.fAnd_ev, Tr.fOr_ev, Tr.dAnd_ev, Tr.dOr_ev, Tr.ite_BB, Tr.ite_decF, Tr.ite_Tdec, Tr.z_cast, Tr.z_ndec, Tr.ite_TF, Tr.ite_FT, Tr.bind_ite, Tr.aNil_ev, Tr.fCons'_ev, Tr.fCons_ev, Tr.aCons_ev, Tr.fCall'_ev, Tr.fCall_ev, Tr.dCall_ev, Tr.wb_nil, Tr.wb_none, Tr.fWb_ev, Tr.wb_some, Tr.fMeth'_ev, Tr.fMeth_ev, Tr.dMeth_ev, Tr.fMake'_ev, Tr.fMake_ev, Tr.dMake_ev, Tr.fSeq_nx, Tr.fSeq_rt, Tr.fSeq_bk, Tr.fSeq_ct, Tr.dSeq_ev, Tr.fIf_ev, Tr.dIf_ev, Tr.fSet_ev, Tr.dSet_ev, Tr.fRet_ev, Tr.dRet_ev, Tr.fEx_ev, Tr.dEx_ev, Tr.dRetN_ev, Tr.dNx_ev, Tr.dBk_ev, Tr.dCt_ev, Tr.dFail_ev, Tr.fPut''_ev, Tr.fPut'_ev, Tr.fPut1_ev, Tr.fPut_ev, Tr.dPut_ev, Tr.fMut3_ev, Tr.fMut2_ev, Tr.fMut1_ev, Tr.fMut_ev, Tr.dMut_ev, Tr.fLst_ev, Tr.fTup_ev, Tr.dLst_ev, Tr.dTup_ev, Tr.dDic_ev, Tr.fBw_ev, Tr.bw_ev, Tr.fFz_ev, Tr.fz_ev, Tr.fAug''_ev, Tr.fAug'_ev, Tr.fAug_ev, Tr.dAug_ev, Tr.z_ex, Tr.z_exT, Tr.fRng_nat, Tr.dRng_ev, Tr.fIt'_ev, Tr.fIt_ev, Tr.dIt_ev, Tr.fFor_ev, Tr.dFor_ev, Tr.gN_ev, Tr.fG_ev, Tr.gT2_ev, Tr.gT2_mk1, Tr.dFr_nil, Tr.turn_ev, Tr.fFr_nx, Tr.fFr_ct, Tr.fFr_bk, Tr.fFr_rt, Tr.dFr_cons, Tr.fLc'_ev, Tr.fLc_ev, Tr.dLc_ev, Tr.dLr_nil, Tr.wipeT_nil, Tr.wipeT_cons, Tr.backT_nil, Tr.backT_cons, Tr.cleanAt_nil, Tr.cleanAt_cons, Tr.fFun_rt, Tr.fFun_nx, Tr.dFun_ev, Tr.outs_cons, Tr.outs_nil, Tr.frzs_nil, Tr.frzs_cons, Tr.z_frz1, Tr.z_frz2, Tr.z_frz3, Tr.z_frz4, Tr.z_frz5, Tr.z_frz6, Tr.z_frz7, Tr.z_frz8, Tr.z_frz9, Tr.z_frz10, Tr.z_frz11, Tr.z_cln1, Tr.z_cln2, Tr.z_cln3, Tr.z_cln4, Tr.z_cln5, Tr.z_cln6, Tr.z_cln7, Tr.z_cln8, Tr.z_cln9, Tr.z_cln10, Tr.z_clns1, Tr.z_clns2, Tr.z_clns3, Tr.z_pure1, Tr.z_pure2, Tr.z_pure3, Tr.z_pure4, Tr.z_pure5, Tr.z_pure6, Tr.z_pure7, Tr.z_lfI, Tr.z_li, Tr.z_add, Tr.z_sub, Tr.z_mulr, Tr.z_mod, Tr.z_div, Tr.z_lt, Tr.z_le, Tr.z_gt, Tr.z_ge, Tr.z_eq, Tr.z_ne, Tr.z_neg, Tr.z_eqli, Tr.z_neli, Tr.z_eqnil, Tr.z_nenil, Tr.z_inli, Tr.z_ninli, Tr.z_indk, Tr.z_nindk, Tr.z_ll, Tr.z_mks, Tr.z_nil, Tr.z_appll, Tr.z_int1, Tr.z_int2, Tr.z_len1, Tr.z_len2, Tr.z_len3, Tr.z_len4, Tr.z_len5, Tr.z_len6, Tr.z_len7, Tr.z_not, Tr.z_isi1, Tr.z_isi2, Tr.z_isi3, Tr.z_isi4, Tr.z_isi5, Tr.z_isi6, Tr.z_list1, Tr.z_sort1, Tr.z_sort2, Tr.z_app1, Tr.z_app2, Tr.z_pop1, Tr.z_clr1, Tr.z_clr2, Tr.z_rev1, Tr.z_ext1, Tr.z_cat1, Tr.z_it1, Tr.z_it2, Tr.z_it3, Tr.z_it4, Tr.z_ty1, Tr.z_ty2, Tr.z_ty3, Tr.z_ty4, Tr.z_fst, Tr.z_fma, Tr.z_ffa, Tr.z_ins1, Tr.z_ins2, Tr.z_ins3, Tr.z_ins4, Tr.z_ins5, Tr.z_ixli, Tr.z_ixll, Tr.z_ixlast, Tr.z_setdk, Tr.fDic1_ev, Tr.fDic1'_ev, Tr.dDic1_ev, Tr.fLRg_nat, Tr.dLRg_ev, Tr.z_len8, Tr.z_bind_some, Tr.z_get0, Tr.z_gets, Tr.z_getD0, Tr.z_getDs, Tr.z_set0, Tr.z_sets, Tr.z_app, Tr.z_nil_app, Tr.z_app_nil, Tr.z_map0, Tr.z_mapc, Tr.z_rep0, Tr.z_reps, Tr.z_lenc, Tr.z_lenn, Tr.z_c0, Tr.z_c1, Tr.z_c2, Tr.z_c3, Tr.z_okoV, Tr.z_okrk, Tr.z_okrl, Tr.z_frzoV, Tr.z_clnoV, Tr.z_pureoV, Tr.z_frzrk, Tr.z_clnrk, Tr.z_frzrl, Tr.z_clnrl, Tr.z_ixrl, Tr.z_lenrl, Tr.z_isirl, Tr.z_tyrl, Tr.z_clrrl, Tr.z_oVs, Tr.z_oVn, Tr.z_rks, Tr.z_rkn, Tr.z_ixt0, Tr.z_ixt1, Tr.z_isN1, Tr.z_isN2, Tr.z_isN3, Tr.z_notN1, Tr.z_notN2, Tr.z_notN3, Tr.z_isN4, Tr.z_notN4, Tr.z_isN5, Tr.z_notN5, Tr.fCh3_ev, Tr.fCh2_ev, Tr.fCh1_ev, Tr.z_ch, Tr.z_okdls, Tr.z_frzdls, Tr.z_clndls, Tr.z_ixdls, Tr.z_indls, Tr.z_okdds, Tr.z_frzdds, Tr.z_clndds, Tr.z_ixdds, Tr.fAsg'_ev, Tr.fAsg_ev, Tr.dAsg_ev, Tr.fBwS_ev, Tr.bwS_ev, Tr.fPt_ev, Tr.ptT_no, Tr.ptT_so, Tr.fSl2_ev, Tr.fSl1_ev, Tr.fSl_ev, Tr.dSl_ev, Tr.z_slli, Tr.z_cutTail, Tr.z_cutInit, Tr.z_okst, Tr.z_frzst, Tr.z_clnst, Tr.z_purest, Tr.z_addst, Tr.z_lenst, Tr.z_inst1, Tr.z_ninst1, Tr.z_ixst, Tr.eqL_self, Tr.eqL_nn, Tr.eqL_nc, Tr.eqL_cn, Tr.eqL_cc, Tr.z_eqst, Tr.z_nest, Tr.z_insl, Tr.z_ninsl, Tr.z_sq1, Tr.z_sq2, Tr.z_sq3, Tr.z_itst, Tr.z_isist, Tr.z_slst, Tr.z_cutOne, Tr.lit_all, Tr.lit_not, Tr.lit_both, Tr.lit_either, Tr.lit_somenext, Tr.lit_eachnext, Tr.lit_sometill, Tr.lit_eachtill, Tr.lit_someever, Tr.lit_eachever, Tr.lit_somealways, Tr.lit_eachalways, Tr.lit_mark, Tr.lit_loop, Tr.lit_rank, Tr.lit_walk, Tr.lit_shut, Tr.lit_out, Tr.lit_here, Tr.lit_dead, Tr.lit_plain, Tr.lit_step, Tr.lit_none, Tr.lit_fair, Tr.lit_answer, Tr.lit_p, Tr.lit_wet, Tr.lit_darkness, Tr.lit_x, Tr.lit_q, Tr.lit_empty, Tr.lit_in, Tr.lit_letters, Tr.z_kept, Tr.z_catX12, Tr.z_catT12, Tr.z_ixt2, ↓reduceIte, ite_true, ite_false, Nat.reduceAdd, Nat.reduceSub, Nat.reduceLT, Nat.reduceLeDiff, Nat.zero_add, Nat.lt_add_one, Nat.zero_lt_succ, decide_true, decide_false, decide_eq_true_eq, decide_eq_false_iff_not, Bool.not_eq_true, Bool.not_eq_false, Bool.not_true, Bool.not_false, Bool.not_eq_true', Bool.and_true, Bool.true_and, Bool.and_self, Bool.and_eq_true, Bool.or_eq_true, not_true_eq_false, not_false_eq_true, eq_self, and_self, and_true, true_and, false_and, and_false, or_true, true_or, or_false, false_or, reduceCtorEq, Bool.false_eq_true, Int.toNat_natCast, Int.reduceToNat, Int.reduceEq, Int.reduceLT, Int.reduceLE, Int.reduceNeg, Int.reduceAdd, Int.reduceSub, Int.reduceMul, List.length_map, Bool.not_not, Bool.not_eq_eq_eq_not, Decidable.not_not, Nat.reduceEqDiff, Bool.false_and, Bool.and_false, Option.isSome_some, Option.isSome_none, Option.isNone_some, Option.isNone_none, $ls,*]) }

theorem getD0 {P : List Int} {a : Int} (h : P.head? = some a) : P.getD 0 0 = a := by
  cases P with
  | nil => cases h
  | cons b l => cases h; rfl
theorem head_ne {P : List Int} {a : Int} (h : P.head? = some a) : P ≠ [] := fun e => by rw [e] at h; cases h
theorem getD_lst {P : List Int} {a : Int} (h : P.getLast? = some a) : P.getD (P.length - 1) 0 = a := by
  rw [List.getLast?_eq_getElem?] at h
  rw [List.getD_eq_getElem?_getD, h]; rfl
theorem law_walk_ok {n : Nat} (rs : List (List Int)) (hrs : Stps n rs) {P : List Int} {s : Int} (hd : P.head? = some s) (hl : P.length ≤ 600) (hin : ∀ z ∈ P, 0 ≤ z ∧ z < (n : Int)) (hc : Chn rs P) :
    m_law_walk [li false P, ll false rs, .lf (.int s)] = some (.lf (.bl true), [li false P, ll false rs, .lf (.int s)]) := by
  have hne := head_ne hd
  have h0' := getD0 hd
  have hn := hrs.len
  have lp0 := List.length_pos_iff.mpr hne
  obtain ⟨env', h1, x3, rfl⟩ := lp_rng (dg := gN 3) (d := l_law_walk_1) P.length (fun _ env => ∃ x3, env = e_law_walk (li false P) (ll false rs) (.lf (.int s)) x3) (e_law_walk (li false P) (ll false rs) (.lf (.int s)) .no) ⟨_, rfl⟩ (by
    rintro i hi env ⟨x3, rfl⟩
    have e : P.getD i 0 = P[i] := by simp [hi]
    have hx := hin P[i] (List.getElem_mem hi)
    have hx0 := hx.1
    have hx1 : P[i] < (rs.length : Int) := by omega
    have w := whole1 P[i]
    by_cases h0 : 0 < (i : Int)
    · have e1 : P.getD (i - 1) 0 = P[i - 1]'(by omega) := by simp [show i - 1 < P.length by omega]
      have ei : ((i : Int) - 1).toNat = i - 1 := by omega
      have hb := hin (P[i - 1]'(by omega)) (List.getElem_mem _)
      have hb0 := hb.1
      have hbl : (P[i - 1]'(by omega)).toNat < rs.length := by omega
      have st := chn_at hc (i - 1) (by omega)
      have st' : P[i] ∈ rs.getD (P[i - 1]'(by omega)).toNat [] := by
        have e2 : i - 1 + 1 = i := by omega
        simpa only [e2] using st
      exists l_law_walk_1, e, hx0, hx1, w, h0, ei, e1, st'
      exact ⟨_, rfl⟩
    · exists l_law_walk_1, e, hx0, hx1, w, h0
      exact ⟨_, rfl⟩)
  have hgt : ¬ (600 : Int) < P.length := by omega
  exists m_law_walk, bn_law_walk, hne, hgt, h1, h0'
end Pm


set_option Elab.async false
set_option linter.all false
set_option maxRecDepth 100000
set_option maxHeartbeats 4000000
/-! PX: searching: what is come to by steps within a set. -/
namespace Pm
open PySem PySem.Spec PyProof.Rows L2 Tr Wk

theorem pop_li (L : List Int) (x : Int) : mPop (li true (L ++ [x])) [] = some (I x, li true L) := by
  unfold li mPop
  rw [List.map_append, List.map_cons, List.map_nil]
  simp [lfI]
theorem oSorted_dk (o : Bool) (K : List Int) (h : K.length < 64) : oSorted (dk o (kI K)) = some (li true (isort K)) := by
  have e : intsOf ((kI K).map fun k => T.lf (kV k)) = some K := by
    have : ((kI K).map fun k => T.lf (kV k)) = K.map lfI := by rw [List.map_map]; rfl
    rw [this, intsOf_li]
  show (intsOf ((kI K).map fun k => T.lf (kV k))).bind _ = _
  rw [e]
  simp only [Option.bind_some, h, if_true]
  rfl
abbrev rchBody : DS := (dIf (dAnd (vr (o2V oIn (gV 6) (gV 3))) (vr (o2V oNotIn (gV 6) (gV 4)))) (dSeq (dPut 4 mSetD (re (vr (gC (.bl true)))) (gV 6)) (dEx (dMut "list" 5 mAppend (aCons (gM 6) aNil)))) dNx)
theorem rch_for (M : T) (W : List Int) : ∀ (row K L : List Int) (x6 : T), K.Nodup → K.length + row.length ≤ 900 → L.length + row.length ≤ 900 → ∃ x6', dFr (gN 6) rchBody (row.map lfI) [M, .no, .no, dk true (kI W), dk true (kI K), li true L, x6] = some (.nx, [M, .no, .no, dk true (kI W), dk true (kI (vis W row (K, L)).1), li true (vis W row (K, L)).2, x6'])
  | [], K, L, x6, _, _, _ => ⟨x6, rfl⟩
  | o :: row, K, L, x6, nd, h1, h2 => by
    have ev : vis W (o :: row) (K, L) = vis W row (if o ∈ W ∧ o ∉ K then (K ++ [o], L ++ [o]) else (K, L)) := rfl
    rw [ev, List.map_cons, dFr]
    simp only [List.length_cons] at h1 h2
    have hg : gN 6 (lfI o) [M, .no, .no, dk true (kI W), dk true (kI K), li true L, x6] = some [M, .no, .no, dk true (kI W), dk true (kI K), li true L, I o] := rfl
    have t1 : vr (o2V oIn (gV 6) (gV 3)) [M, .no, .no, dk true (kI W), dk true (kI K), li true L, I o] = some (B (decide (o ∈ W)), [M, .no, .no, dk true (kI W), dk true (kI K), li true L, I o]) := E_vr (E_2V rfl rfl (dkI_in _ _ _))
    have nin : oNotIn (I o) (dk true (kI K)) = some (B (!decide (o ∈ K))) := by
      have := dkI_in true K o
      unfold oIn at this
      obtain ⟨b, e1, e2⟩ := Option.map_eq_some_iff.mp this
      unfold oNotIn
      rw [e1]
      cases e2
      rfl
    have t2 : vr (o2V oNotIn (gV 6) (gV 4)) [M, .no, .no, dk true (kI W), dk true (kI K), li true L, I o] = some (B (!decide (o ∈ K)), [M, .no, .no, dk true (kI W), dk true (kI K), li true L, I o]) := E_vr (E_2V rfl rfl nin)
    by_cases ho : o ∈ W ∧ o ∉ K
    · rw [if_pos ho]
      rw [decide_eq_true ho.1] at t1
      rw [decide_eq_false ho.2] at t2
      have nd' : (K ++ [o]).Nodup := by
        rw [List.nodup_append]
        refine ⟨nd, by simp, fun x hx y hy e => ?_⟩
        have : y = o := by simpa using hy
        exact ho.2 (by rw [← this, ← e]; exact hx)
      have k1 := dkI_put K o nd ho.2 (small (by omega))
      have b : rchBody [M, .no, .no, dk true (kI W), dk true (kI K), li true L, I o] = some (.nx, [M, .no, .no, dk true (kI W), dk true (kI (K ++ [o])), li true (L ++ [o]), .no]) :=
        (E_ifT ((E_andT t1).trans t2)).trans ((E_seq (E_put (mk := mSetD) (k := .int o) (E_re (E_vr rfl) (cln_lf _)) rfl rfl k1 rfl)).trans (E_ex (E_mut (t0 := li true L) rfl rfl (E_cons (E_M (t := I o) rfl rfl) rfl) rfl (ap_li L o (by omega)) rfl)))
      simp only [hg, b]
      exact rch_for M W row (K ++ [o]) (L ++ [o]) .no nd' (by simp; omega) (by simp; omega)
    · rw [if_neg ho]
      have t3 : dAnd (vr (o2V oIn (gV 6) (gV 3))) (vr (o2V oNotIn (gV 6) (gV 4))) [M, .no, .no, dk true (kI W), dk true (kI K), li true L, I o] = some (B false, [M, .no, .no, dk true (kI W), dk true (kI K), li true L, I o]) := by
        by_cases hW : o ∈ W
        · have hK : o ∈ K := Decidable.byContradiction fun z => ho ⟨hW, z⟩
          rw [decide_eq_true hW] at t1
          rw [decide_eq_true hK] at t2
          exact (E_andT t1).trans t2
        · rw [decide_eq_false hW] at t1
          exact E_andF t1
      have b : rchBody [M, .no, .no, dk true (kI W), dk true (kI K), li true L, I o] = some (.nx, [M, .no, .no, dk true (kI W), dk true (kI K), li true L, I o]) := (E_ifF t3).trans rfl
      simp only [hg, b]
      exact rch_for M W row K L (I o) nd (by omega) (by omega)
abbrev rchCond : DE := vr (o2V oGt (o1V oLen (gV 5)) (gC (.int 0)))
abbrev rchStep : DS := dFor (dIt itemsL (dMeth "Machine" "next_of" m_Machine_next_of none [none] [] (gS 0) (aCons (dMut "list" 5 mPop aNil) aNil))) (gN 6) rchBody
theorem rch_loop (n : Nat) (rs ms fs) (hrs : Stps n rs) (hn : n ≤ 60) (W : List Int) (hW : ∀ x ∈ W, 0 ≤ x ∧ x < n) (s : Int) : ∀ (k : Nat) (K L : List Int) (x6 : T) (m : Nat), Srs n rs (fun x => isort (rs.getD x.toNat [])) W s K L → 2 * n + L.length ≤ k + 2 * K.length → L.length ≤ K.length → k < m →
    ∃ (K' : List Int) (x6' : T), K'.Nodup ∧ (∀ x : Int, x ∈ K' ↔ Rch rs W s x) ∧ (∀ x ∈ K', 0 ≤ x ∧ x < n) ∧ dWh rchCond rchStep m [mch false rs ms fs, .no, .no, dk true (kI W), dk true (kI K), li true L, x6] = some (.nx, [mch false rs ms fs, .no, .no, dk true (kI W), dk true (kI K'), li true [], x6']) := by
  intro k
  induction k using Nat.strongRecOn with
  | _ k ih =>
    intro K L x6 m h hk hL hm
    obtain ⟨m, rfl⟩ : ∃ m', m = m' + 1 := ⟨m - 1, by omega⟩
    have t : rchCond [mch false rs ms fs, .no, .no, dk true (kI W), dk true (kI K), li true L, x6] = some (B (decide (0 < (L.length : Int))), [mch false rs ms fs, .no, .no, dk true (kI W), dk true (kI K), li true L, x6]) := E_vr (E_2V (E_1V rfl (oLen_li _ _)) rfl (I_gt _ _))
    rcases List.eq_nil_or_concat L with rfl | ⟨L', x, rfl⟩
    · rw [decide_eq_false (by simp)] at t
      refine ⟨K, x6, h.nd, srs_end h, h.bd, ?_⟩
      rw [dWh, t]
    · rw [List.concat_eq_append] at *
      rw [decide_eq_true (by simp <;> omega)] at t
      obtain ⟨h', f⟩ := srs_next (fun y _ _ o => (isort_perm _).mem_iff) hW h
      have hx : x ∈ K := h.sub x (List.mem_append.mpr (.inr (by simp)))
      have hb := h.bd x hx
      let row := isort (rs.getD x.toNat [])
      have hl : x.toNat < rs.length := by rw [hrs.len]; omega
      have rl : row.length ≤ 60 := by
        show (isort (rs.getD x.toNat [])).length ≤ 60
        rw [(isort_perm _).length_eq]
        have e : rs.getD x.toNat [] = rs[x.toNat] := by simp [hl]
        rw [e]; exact (hrs.okl rs[x.toNat] (List.getElem_mem hl)).le
      have kl : K.length ≤ n := sub_len h.nd h.bd
      have kl' := sub_len h'.nd h'.bd
      simp only [List.length_append, List.length_singleton] at hk hL
      obtain ⟨x6', ef⟩ := rch_for (mch false rs ms fs) W row K L' x6 h.nd (by omega) (by omega)
      have nx : m_Machine_next_of [mch false rs ms fs, I x] = some (li true row, [mch false rs ms fs, I x]) := by
        have := next_of_ok rs ms fs x.toNat hl
        rw [show ((x.toNat : Nat) : Int) = x by omega] at this
        exact this
      have hp : dMut "list" 5 mPop aNil [mch false rs ms fs, .no, .no, dk true (kI W), dk true (kI K), li true (L' ++ [x]), x6] = some (I x, [mch false rs ms fs, .no, .no, dk true (kI W), dk true (kI K), li true L', x6]) :=
        E_mut (t0 := li true (L' ++ [x])) (dr := aNil) rfl rfl rfl rfl (pop_li L' x) rfl
      have it : dIt itemsL (dMeth "Machine" "next_of" m_Machine_next_of none [none] [] (gS 0) (aCons (dMut "list" 5 mPop aNil) aNil)) [mch false rs ms fs, .no, .no, dk true (kI W), dk true (kI K), li true (L' ++ [x]), x6] = some (row.map lfI, [mch false rs ms fs, .no, .no, dk true (kI W), dk true (kI K), li true L', x6]) :=
        E_it (E_meth (E_S (t := mch false rs ms fs) rfl (frz_mch _ _ _ _) rfl) (isIns_mch _ _ _ _ nbn) (E_cons hp rfl) nx rfl) (items_li _ _)
      have st : rchStep [mch false rs ms fs, .no, .no, dk true (kI W), dk true (kI K), li true (L' ++ [x]), x6] = _ := (E_for (dg := gN 6) (a := rchBody) it).trans ef
      have hge := vis_len W row K L'
      have f : (vis W row (K, L')).1.length + L'.length = (vis W row (K, L')).2.length + K.length := f
      have h' : Srs n rs (fun x => isort (rs.getD x.toNat [])) W s (vis W row (K, L')).1 (vis W row (K, L')).2 := h'
      have hlen : (vis W row (K, L')).2.length ≤ (vis W row (K, L')).1.length := by omega
      obtain ⟨K', x6'', g1, g2, g3, g4⟩ := ih (k - 1) (by omega) _ _ x6' m h' (by omega) hlen (by omega)
      refine ⟨K', x6'', g1, g2, g3, ?_⟩
      rw [dWh, t]
      show (match rchStep [mch false rs ms fs, .no, .no, dk true (kI W), dk true (kI K), li true (L' ++ [x]), x6] with
        | some (.nx, e2) => dWh rchCond rchStep m e2
        | some (.ct, e2) => dWh rchCond rchStep m e2
        | some (.bk, e2) => some (.nx, e2)
        | some (.rt t, e2) => some (.rt t, e2)
        | none => none) = _
      rw [st]
      exact g4
/-- what is come to, rising -/
theorem reach_ok (n : Nat) (rs ms fs) (hrs : Stps n rs) (hn : n ≤ 60) (W : List Int) (hW : Asc n W) (s : Int) (hs : 0 ≤ s ∧ s < n) :
    ∃ R : List Int, R.Pairwise (· ≤ ·) ∧ R.Nodup ∧ (∀ x : Int, x ∈ R ↔ Rch rs W s x) ∧ (∀ x ∈ R, 0 ≤ x ∧ x < n) ∧ m_reach [mch false rs ms fs, li false W, I s] = some (li true R, [mch false rs ms fs, .no, .no]) := by
  have one : ∀ x : Int, x ∈ [s] → x = s := fun x hx => by simpa using hx
  have h0 : Srs n rs (fun x => isort (rs.getD x.toNat [])) W s [s] [s] :=
    { nd := by simp, sub := fun x hx => hx, ok := (fun x hx => by rw [one x hx]; exact Rch.here), bd := (fun x hx => by rw [one x hx]; exact hs), st := by simp, cl := fun x hx => .inl hx }
  obtain ⟨K, x6, g1, g2, g3, g4⟩ := rch_loop n rs ms fs hrs hn W hW.bd s (2 * n + 1) [s] [s] .no 4000 h0 (by simp) (by simp) (by omega)
  have kl := sub_len g1 g3
  refine ⟨isort K, isort_sorted K, (isort_perm K).nodup_iff.mpr g1, fun x => by rw [(isort_perm K).mem_iff]; exact g2 x, fun x hx => g3 x ((isort_perm K).mem_iff.mp hx), ?_⟩
  refine E_fun (e := [mch false rs ms fs, .no, .no, dk true (kI W), dk true (kI K), li true [], x6]) rfl ?_ rfl
  show b_reach [mch false rs ms fs, li false W, I s, .no, .no, .no, .no] = _
  unfold b_reach
  have a3 : dSet 3 (dCall m_keyed [none] [] (aCons (gM 1) aNil)) [mch false rs ms fs, li false W, I s, .no, .no, .no, .no] = some (.nx, [mch false rs ms fs, .no, I s, dk true (kI W), .no, .no, .no]) :=
    E_set (E_call (E_cons (E_M (t := li false W) rfl rfl) rfl) (keyed_ok W hW.nd (by have := hW.len; omega)) rfl) (by simp) rfl
  have a4 : dSet 4 (dDic1 (gV 2) (gC (.bl true))) [mch false rs ms fs, .no, I s, dk true (kI W), .no, .no, .no] = some (.nx, [mch false rs ms fs, .no, I s, dk true (kI W), dk true (kI [s]), .no, .no]) :=
    E_set (e := [mch false rs ms fs, .no, I s, dk true (kI W), .no, .no, .no]) (t := dk true (kI [s])) rfl (by simp) rfl
  have a5 : dSet 5 (dLst (aCons (gM 2) aNil)) [mch false rs ms fs, .no, I s, dk true (kI W), dk true (kI [s]), .no, .no] = some (.nx, [mch false rs ms fs, .no, .no, dk true (kI W), dk true (kI [s]), li true [s], .no]) :=
    E_set (E_lst (ts := [I s]) (E_cons (E_M (t := I s) rfl rfl) rfl) (Nat.le_of_lt (small (n := 1) (by omega)))) (by simp) rfl
  refine (E_seq a3).trans ((E_seq a4).trans ((E_seq a5).trans ((E_seq g4).trans ?_)))
  exact E_ret (E_1 (E_vr rfl) (oSorted_dk true K (by omega)))
end Pm


set_option Elab.async false
set_option linter.all false
set_option maxRecDepth 100000
set_option maxHeartbeats 4000000
/-! RR: reach. -/
namespace Pm
open PySem PySem.Spec PyProof.Rows L2 Tr Wk

theorem reach_RS {n : Nat} (rs ms fs) (hrs : Stps n rs) {W : List Int} (hW : Asc n W) (s : Int) (hs : 0 ≤ s ∧ s < n) : m_reach [mch false rs ms fs, li false W, .lf (.int s)] = some (li true (RS n rs W s), [mch false rs ms fs, .no, .no]) := by
  obtain ⟨R, r1, r2, r3, r4, r5⟩ := reach_ok n rs ms fs hrs hrs.le W hW s hs
  have aR : Asc n R := ⟨(List.pairwise_and_iff.mpr ⟨r1, r2⟩).imp fun h => by omega, r4⟩
  have : R = RS n rs W s := asc_ext aR (RS_asc n rs W s) fun x => by
    rw [mem_RS, r3]
    exact ⟨fun h => ⟨h.bd hW.bd hs, h⟩, fun h => h.2⟩
  rw [← this]; exact r5
end Pm


set_option Elab.async false
set_option linter.all false
set_option maxRecDepth 100000
set_option maxHeartbeats 4000000
/-! LW: bottom_of, loop_within. -/
namespace Pm
open PySem PySem.Spec PyProof.Rows L2 Tr Wk
local macro_rules | `(tactic| exists $es,*) => do { let ls ← es.getElems.mapM fun e => `(Lean.Parser.Tactic.simpLemma| $e:term); `(tactic| simp -implicitDefEqProofs (disch := (first | assumption | omega | decide | (simp only [List.length_cons, List.length_nil, List.length_append, List.length_map, Tr.rgI_len]; omega) | (simp only [List.length_cons, List.length_nil, List.length_append, List.length_map, Int.toNat_natCast] at *; omega))) only [Tr.okT_lf, Tr.okT_nd, Tr.okT_li, Tr.okT_ll, Tr.okT_dk, Tr.okT_mks, Tr.okT_mk1, Tr.okT_mch, Tr.okT_scr, Tr.okT_tp, Tr.okO_some, Tr.gV_ev, Tr.gC_ev, Tr.gG_ev, Tr.fM_ev, Tr.fS_ev, Tr.gM_ev, Tr.gS_ev, Tr.fP_ev, Tr.fQ_ev, Tr.vr_ev, Tr.fRe_ev, Tr.re_ev, Tr.fO1_ev, Tr.o1V_ev, Tr.o1_ev, Tr.fO2V_ev, Tr.o2V_ev, Tr.fO2v'_ev, Tr.fO2v_ev, Tr.o2v_ev, Tr.fO2o'_ev, Tr.fO2o_ev, Tr.o2o_ev, Tr.fO2c'_ev, Tr.fO2c_ev, Tr.o2c_ev, Tr.fO2n''_ev, Tr.fO2n'_ev, Tr.fO2n_ev, Tr.o2n_ev, Tr.fAnd_ev, Tr.fOr_ev, Tr.dAnd_ev, Tr.dOr_ev, Tr.ite_BB, Tr.ite_decF, Tr.ite_Tdec, Tr.z_cast, Tr.z_ndec, Tr.ite_TF, Tr.ite_FT, Tr.bind_ite, Tr.aNil_ev, Tr.fCons'_ev, Tr.fCons_ev, Tr.aCons_ev, Tr.fCall'_ev, Tr.fCall_ev, Tr.dCall_ev, Tr.wb_nil, Tr.wb_none, Tr.fWb_ev, Tr.wb_some, Tr.fMeth'_ev, Tr.fMeth_ev, Tr.dMeth_ev, Tr.fMake'_ev, Tr.fMake_ev, Tr.dMake_ev, Tr.fSeq_nx, Tr.fSeq_rt, Tr.fSeq_bk, Tr.fSeq_ct, Tr.dSeq_ev, Tr.fIf_ev, Tr.dIf_ev, Tr.fSet_ev, Tr.dSet_ev, Tr.fRet_ev, Tr.dRet_ev, Tr.fEx_ev, Tr.dEx_ev, Tr.dRetN_ev, Tr.dNx_ev, Tr.dBk_ev, Tr.dCt_ev, Tr.dFail_ev, Tr.fPut''_ev, Tr.fPut'_ev, Tr.fPut1_ev, Tr.fPut_ev, Tr.dPut_ev, Tr.fMut3_ev, Tr.fMut2_ev, Tr.fMut1_ev, Tr.fMut_ev, Tr.dMut_ev, Tr.fLst_ev, Tr.fTup_ev, Tr.dLst_ev, Tr.dTup_ev, Tr.dDic_ev, Tr.fBw_ev, Tr.bw_ev, Tr.fFz_ev, Tr.fz_ev, Tr.fAug''_ev, Tr.fAug'_ev, Tr.fAug_ev, Tr.dAug_ev, Tr.z_ex, Tr.z_exT, Tr.fRng_nat, Tr.dRng_ev, Tr.fIt'_ev, Tr.fIt_ev, Tr.dIt_ev, Tr.fFor_ev, Tr.dFor_ev, Tr.gN_ev, Tr.fG_ev, Tr.gT2_ev, Tr.gT2_mk1, Tr.dFr_nil, Tr.turn_ev, Tr.fFr_nx, Tr.fFr_ct, Tr.fFr_bk, Tr.fFr_rt, Tr.dFr_cons, Tr.fLc'_ev, Tr.fLc_ev, Tr.dLc_ev, Tr.dLr_nil, Tr.wipeT_nil, Tr.wipeT_cons, Tr.backT_nil, Tr.backT_cons, Tr.cleanAt_nil, Tr.cleanAt_cons, Tr.fFun_rt, Tr.fFun_nx, Tr.dFun_ev, Tr.outs_cons, Tr.outs_nil, Tr.frzs_nil, Tr.frzs_cons, Tr.z_frz1, Tr.z_frz2, Tr.z_frz3, Tr.z_frz4, Tr.z_frz5, Tr.z_frz6, Tr.z_frz7, Tr.z_frz8, Tr.z_frz9, Tr.z_frz10, Tr.z_frz11, Tr.z_cln1, Tr.z_cln2, Tr.z_cln3, Tr.z_cln4, Tr.z_cln5, Tr.z_cln6, Tr.z_cln7, Tr.z_cln8, Tr.z_cln9, Tr.z_cln10, Tr.z_clns1, Tr.z_clns2, Tr.z_clns3, Tr.z_pure1, Tr.z_pure2, Tr.z_pure3, Tr.z_pure4, Tr.z_pure5, Tr.z_pure6, Tr.z_pure7, Tr.z_lfI, Tr.z_li, Tr.z_add, Tr.z_sub, Tr.z_mulr, Tr.z_mod, Tr.z_div, Tr.z_lt, Tr.z_le, Tr.z_gt, Tr.z_ge, Tr.z_eq, Tr.z_ne, Tr.z_neg, Tr.z_eqli, Tr.z_neli, Tr.z_eqnil, Tr.z_nenil, Tr.z_inli, Tr.z_ninli, Tr.z_indk, Tr.z_nindk, Tr.z_ll, Tr.z_mks, Tr.z_nil, Tr.z_appll, Tr.z_int1, Tr.z_int2, Tr.z_len1, Tr.z_len2, Tr.z_len3, Tr.z_len4, Tr.z_len5, Tr.z_len6, Tr.z_len7, Tr.z_not, Tr.z_isi1, Tr.z_isi2, Tr.z_isi3, Tr.z_isi4, Tr.z_isi5, Tr.z_isi6, Tr.z_list1, Tr.z_sort1, Tr.z_sort2, Tr.z_app1, Tr.z_app2, Tr.z_pop1, Tr.z_clr1, Tr.z_clr2, Tr.z_rev1, Tr.z_ext1, Tr.z_cat1, Tr.z_it1, Tr.z_it2, Tr.z_it3, Tr.z_it4, Tr.z_ty1, Tr.z_ty2, Tr.z_ty3, Tr.z_ty4, Tr.z_fst, Tr.z_fma, Tr.z_ffa, Tr.z_ins1, Tr.z_ins2, Tr.z_ins3, Tr.z_ins4, Tr.z_ins5, Tr.z_ixli, Tr.z_ixll, Tr.z_ixlast, Tr.z_setdk, Tr.fDic1_ev, Tr.fDic1'_ev, Tr.dDic1_ev, Tr.fLRg_nat, Tr.dLRg_ev, Tr.z_len8, Tr.z_bind_some, Tr.z_get0, Tr.z_gets, Tr.z_getD0, Tr.z_getDs, Tr.z_set0, Tr.z_sets, Tr.z_app, Tr.z_nil_app, Tr.z_app_nil, Tr.z_map0, Tr.z_mapc, Tr.z_rep0, Tr.z_reps, Tr.z_lenc, Tr.z_lenn, Tr.z_c0, Tr.z_c1, Tr.z_c2, Tr.z_c3, Tr.z_okoV, Tr.z_okrk, Tr.z_okrl, Tr.z_frzoV, Tr.z_clnoV, Tr.z_pureoV, Tr.z_frzrk, Tr.z_clnrk, Tr.z_frzrl, Tr.z_clnrl, Tr.z_ixrl, Tr.z_lenrl, Tr.z_isirl, Tr.z_tyrl, Tr.z_clrrl, Tr.z_oVs, Tr.z_oVn, Tr.z_rks, Tr.z_rkn, Tr.z_ixt0, Tr.z_ixt1, Tr.z_isN1, Tr.z_isN2, Tr.z_isN3, Tr.z_notN1, Tr.z_notN2, Tr.z_notN3, Tr.z_isN4, Tr.z_notN4, Tr.z_isN5, Tr.z_notN5, Tr.fCh3_ev, Tr.fCh2_ev, Tr.fCh1_ev, Tr.z_ch, Tr.z_okdls, Tr.z_frzdls, Tr.z_clndls, Tr.z_ixdls, Tr.z_indls, Tr.z_okdds, Tr.z_frzdds, Tr.z_clndds, Tr.z_ixdds, Tr.fAsg'_ev, Tr.fAsg_ev, Tr.dAsg_ev, Tr.fBwS_ev, Tr.bwS_ev, Tr.fPt_ev, Tr.ptT_no, Tr.ptT_so, Tr.fSl2_ev, Tr.fSl1_ev, Tr.fSl_ev, Tr.dSl_ev, Tr.z_slli, Tr.z_cutTail, Tr.z_cutInit, ↓reduceIte, ite_true, ite_false, Nat.reduceAdd, Nat.reduceSub, Nat.reduceLT, Nat.reduceLeDiff, Nat.zero_add, Nat.lt_add_one, Nat.zero_lt_succ, decide_true, decide_false, decide_eq_true_eq, decide_eq_false_iff_not, Bool.not_eq_true, Bool.not_eq_false, Bool.not_true, Bool.not_false, Bool.not_eq_true', Bool.and_true, Bool.true_and, Bool.and_self, Bool.and_eq_true, Bool.or_eq_true, not_true_eq_false, not_false_eq_true, eq_self, and_self, and_true, true_and, false_and, and_false, or_true, true_or, or_false, false_or, reduceCtorEq, Bool.false_eq_true, Int.toNat_natCast, Int.reduceToNat, Int.reduceEq, Int.reduceLT, Int.reduceLE, Int.reduceNeg, Int.reduceAdd, Int.reduceSub, Int.reduceMul, List.length_map, Bool.not_not, Bool.not_eq_eq_eq_not, Decidable.not_not, Nat.reduceEqDiff, Bool.false_and, Bool.and_false, Option.isSome_some, Option.isSome_none, Option.isNone_some, Option.isNone_none, $ls,*]) }

theorem bottom_ok {n : Nat} (rs ms fs) (hrs : Stps n rs) {K : List Int} (hK : Asc n K) (s : Int) (hs : 0 ≤ s ∧ s < n) :
    ∃ b o, Bot n rs K s b ∧ m_bottom_of [mch false rs ms fs, li false K, .lf (.int s)] = some (li o (RS n rs K b), [mch false rs ms fs, li false K, .no]) := by
  have r0 := reach_RS rs ms fs hrs hK s hs
  obtain ⟨env', h1, b, o, x4, x5, rfl, hb, hl⟩ := lp_li (dg := gN 4) (d := l_bottom_of_1) (RS n rs K s) (fun i env => ∃ b, ∃ o : Bool, ∃ x4 x5, env = e_bottom_of (mch false rs ms fs) (li false K) .no (li o (RS n rs K b)) x4 x5 ∧ b ∈ RS n rs K s ∧ ∀ z ∈ (RS n rs K s).take i, (RS n rs K b).length ≤ (RS n rs K z).length)
      (e_bottom_of (mch false rs ms fs) (li false K) .no (li false (RS n rs K s)) .no .no) ⟨s, _, _, _, rfl, mem_RS.mpr ⟨hs, .here⟩, fun z hz => by simp at hz⟩ (by
    rintro i hi env ⟨b, o, x4, x5, rfl, hb, hl⟩
    have hx := List.getElem_mem hi
    have bx := (mem_RS.mp hx).1
    have r := reach_RS rs ms fs hrs hK (RS n rs K s)[i] bx
    generalize hu : (RS n rs K s)[i] = u at r hx
    have tk : (RS n rs K s).take (i + 1) = (RS n rs K s).take i ++ [u] := by rw [List.take_succ_eq_append_getElem hi, hu]
    by_cases hlt : ((RS n rs K u).length : Int) < (RS n rs K b).length
    · exists l_bottom_of_1, r, hlt
      refine ⟨u, true, _, _, rfl, hx, fun z hz => ?_⟩
      rw [tk] at hz
      rcases List.mem_append.mp hz with hz | hz
      · have := hl z hz; omega
      · have : z = u := by simpa using hz
        rw [this]; exact Nat.le_refl _
    · exists l_bottom_of_1, r, hlt
      refine ⟨b, o, _, _, rfl, hb, fun z hz => ?_⟩
      rw [tk] at hz
      rcases List.mem_append.mp hz with hz | hz
      · exact hl z hz
      · have : z = u := by simpa using hz
        rw [this]; omega)
  rw [List.take_length] at hl
  refine ⟨b, o, bot_least hK hb hl, ?_⟩
  exists m_bottom_of, bn_bottom_of, r0, h1
/-- a short walk that there is -/
theorem walk_ds (oW oG : Bool) {n : Nat} (rs ms fs) (hrs : Stps n rs) {W G : List Int} (hW : Asc n W) (hG : Asc n G) (x : Int) (hx : 0 ≤ x ∧ x < n) (t : Till rs W G x) :
    ∃ Q, m_short_walk [mch false rs ms fs, li oW W, li oG G, .lf (.int x)] = some (li true Q, [mch false rs ms fs, .no, .no, .no]) ∧ (∃ y ∈ G, Wlk rs Q x y) ∧ (∀ z ∈ Q, z ∈ W ∨ z ∈ G) ∧ Q.length ≤ n := by
  have hD := dsf_dist (rs := rs) (W := W) hrs.pos hG
  obtain ⟨k, hk⟩ := till_some hD hW.bd t
  obtain ⟨y, hy, w, m⟩ := wlk_spec hD k x hk
  refine ⟨wlk (dsf n rs W G) rs k x, ?_, ⟨y, hy, w⟩, m, ?_⟩
  · rw [short_ds oW oG rs ms fs hrs hW hG x hx]
    unfold wlkT
    rw [hk]
    simp only [Int.toNat_natCast]
  · rw [wlk_len]
    have := (hD.lt x k hk).2
    omega
theorem nonwalk_ds (oW oG : Bool) {n : Nat} (rs ms fs) (hrs : Stps n rs) {W G : List Int} (hW : Asc n W) (hG : Asc n G) (x : Int) (hx : 0 ≤ x ∧ x < n) (t : ¬ Till rs W G x) :
    m_short_walk [mch false rs ms fs, li oW W, li oG G, .lf (.int x)] = some (.lf .non, [mch false rs ms fs, .no, .no, .no]) := by
  have hD := dsf_dist (rs := rs) (W := W) hrs.pos hG
  have hk : dsf n rs W G x = none := Decidable.byContradiction fun z => t (none_till hD z)
  rw [short_ds oW oG rs ms fs hrs hW hG x hx]
  unfold wlkT
  rw [hk]
theorem asc_one' {n : Nat} {x : Int} (h : 0 ≤ x ∧ x < n) : Asc n [x] := asc_one h
theorem getD_last {P : List Int} {a : Int} (h : P.getLast? = some a) : P.getD (P.length - 1) 0 = a := by
  rw [List.getLast?_eq_getElem?] at h
  rw [List.getD_eq_getElem?_getD, h]; rfl
theorem tail_len {Q : List Int} {n : Nat} (h : Q.length ≤ n) : Q.tail.length ≤ n := by rw [List.length_tail]; omega
/-- what loop_within tells of a stand of a good set -/
theorem loop_within_ok {n : Nat} (oK : Bool) (rs ms fs) (hrs : Stps n rs) (hfs : Frs n fs) (f6 : fs.length ≤ 6) {K : List Int} (hK : Asc n K) (g : Good rs fs K) (s : Int) (hs : s ∈ K) :
    ∃ P L c, m_loop_within [mch false rs ms fs, li oK K, .lf (.int s)] = some (.nd false .tup [li true P, li true L], [.no, .no, .no]) ∧ Wlk rs P s c ∧ (∀ z ∈ P, z ∈ K) ∧ Lp rs fs K L c ∧ P.length ≤ 60 ∧ L.length ≤ 61 + 60 * fs.length := by
  have n60 := hrs.le
  have bs := hK.bd s hs
  obtain ⟨b, oB, hB, eb⟩ := bottom_ok rs ms fs hrs hK s bs
  have aS := RS_asc n rs K b
  have sl := aS.len
  have bS : b ∈ RS n rs K b := mem_RS.mpr ⟨hB.bd, .here⟩
  have inK := hB.inK hs
  have ways := fun {x y : Int} (hx : x ∈ RS n rs K b) (hy : y ∈ RS n rs K b) => hB.ways hK hx hy
  have mts := fun {f : List Int} (hf : f ∈ fs) => hB.meets hK hs g hf
  have nxt' := fun {x o : Int} (hx : x ∈ RS n rs K b) (ho : o ∈ rs.getD x.toNat []) (hk : o ∈ K) => hB.next hK hx ho hk
  have toS : ∀ z ∈ RS n rs K b, Rch rs K s z := fun z hz => hB.on.trans (mem_RS.mp hz).2
  generalize RS n rs K b = S at *
  have hne : 0 < S.length := by
    cases S with
    | nil => cases bS
    | cons _ _ => simp
  have hc : S.getD 0 0 ∈ S := by
    have : S.getD 0 0 = S[0] := by simp [hne]
    rw [this]; exact List.getElem_mem hne
  generalize hcc : S.getD 0 0 = c at hc
  have one : ∀ (o : Bool) (x : Int), (.nd o .lst [.lf (.int x)] : T) = li o [x] := fun _ _ => rfl
  obtain ⟨env', h1, P, a, x6, x8, x9, rfl, hP, hM, hl⟩ := lp_rng (dg := gN 6) (d := l_loop_within_1) fs.length (fun i env => ∃ P a x6 x8 x9, env = e_loop_within (mch false rs ms fs) (li false K) (I s) (li false S) (I c) (li true P) x6 .no x8 x9 .no ∧ Pth rs S P c a ∧ (∀ j, j < i → ∃ z ∈ P, z ∈ fs.getD j []) ∧ P.length ≤ 1 + 60 * i)
      (e_loop_within (mch false rs ms fs) (li false K) (I s) (li false S) (I c) (li true [c]) .no .no .no .no .no) ⟨[c], c, _, _, _, rfl, ⟨⟨rfl, rfl, trivial⟩, fun z hz => by rw [show z = c by simpa using hz]; exact hc⟩, fun j hj => by omega, by simp⟩ (by
    rintro i hi env ⟨P, a, x6, x8, x9, rfl, hP, hM, hl⟩
    have ef : fs.getD i [] = fs[i] := by simp [hi]
    have okf := hfs.okl fs[i] (List.getElem_mem hi)
    have ky := keyed_any true (isort (fs.getD i [])) (by rw [ef]; exact (isort_perm _).nodup_iff.mpr okf.nd) (by rw [ef, (isort_perm _).length_eq]; have := okf.le; omega)
    have aS' : a ∈ S := hP.inn a (List.mem_of_getLast? hP.w.ls)
    have ba := aS.bd a aS'
    have aF := flt_asc aS fun x => decide (x ∈ fs.getD i [])
    obtain ⟨y0, hy0, hyf⟩ := mts (List.getElem_mem hi)
    have till : Till rs S (S.filter fun x => decide (x ∈ fs.getD i [])) a := (ways aS' hy0).till aS' (List.mem_filter.mpr ⟨hy0, by rw [decide_eq_true_eq, ef]; exact hyf⟩)
    obtain ⟨Q, sw, ⟨y, hy, w⟩, m, ql⟩ := walk_ds false false rs ms fs hrs aS aF a ba till
    have qS : ∀ z ∈ Q, z ∈ S := fun z hz => (m z hz).elim id fun h => (List.mem_filter.mp h).1
    have hP' := pth_ext hP w qS
    have ea := getD_last hP.w.ls
    have hPne : P ≠ [] := by rw [hP.w.ne]; simp
    have qt := tail_len (n := 60) (Nat.le_trans ql n60)
    have lc : ∀ B : T, dLr (gN 10) y_loop_within_1 x_loop_within_1 [10] (S.map lfI) [] [mch false rs ms fs, li false K, .lf (.int s), li false S, .lf (.int c), li true P, .no, .no, dk true (kI (isort (fs.getD i []))), B, .no] = some ((S.filter fun x => decide (x ∈ fs.getD i [])).map lfI, [mch false rs ms fs, li false K, .lf (.int s), li false S, .lf (.int c), li true P, .no, .no, dk true (kI (isort (fs.getD i []))), B, .no]) := fun B => by
      refine lc_filter _ S _ (by omega) fun x hx => ?_
      refine ⟨[mch false rs ms fs, li false K, .lf (.int s), li false S, .lf (.int c), li true P, .no, .no, dk true (kI (isort (fs.getD i []))), B, .lf (.int x)], [mch false rs ms fs, li false K, .lf (.int s), li false S, .lf (.int c), li true P, .no, .no, dk true (kI (isort (fs.getD i []))), B, .lf (.int x)], rfl, ?_, fun _ => ⟨[mch false rs ms fs, li false K, .lf (.int s), li false S, .lf (.int c), li true P, .no, .no, dk true (kI (isort (fs.getD i []))), B, .no], ?_, ?_⟩, fun _ => ?_⟩
      · have : (x ∈ isort (fs.getD i [])) = (x ∈ fs.getD i []) := propext (isort_perm _).mem_iff
        exists y_loop_within_1, this
      · exists x_loop_within_1
      · exists wipeT
      · exists wipeT
    exists l_loop_within_1, m_Machine_fair_at, bn_Machine_fair_at, ky, lc, ea, sw
    refine ⟨_, y, _, _, _, rfl, hP', fun j hj => ?_, by rw [List.length_append]; omega⟩
    by_cases e : j = i
    · subst e
      exact ⟨y, List.mem_of_getLast? hP'.w.ls, by simpa using (List.mem_filter.mp hy).2⟩
    · obtain ⟨z, hz, k⟩ := hM j (by omega)
      exact ⟨z, List.mem_append.mpr (.inl hz), k⟩)
  have aS' : a ∈ S := hP.inn a (List.mem_of_getLast? hP.w.ls)
  have ba := aS.bd a aS'
  have al : a.toNat < rs.length := by rw [hrs.len]; omega
  have ea := getD_last hP.w.ls
  have hPne : P ≠ [] := by rw [hP.w.ne]; simp
  have nx : m_Machine_next_of [mch false rs ms fs, .lf (.int a)] = some (li true (isort (rs.getD a.toNat [])), [mch false rs ms fs, .lf (.int a)]) := by
    have := next_of_ok rs ms fs a.toNat al
    rw [show ((a.toNat : Nat) : Int) = a by omega] at this
    exact this
  have rl := (row_len hrs ba).1
  have il : (isort (rs.getD a.toNat [])).length ≤ 60 := by rw [(isort_perm _).length_eq]; exact rl
  have lc2 : ∀ A B C : T, dLr (gN 10) y_loop_within_2 x_loop_within_2 [10] ((isort (rs.getD a.toNat [])).map lfI) [] [mch false rs ms fs, li false K, .lf (.int s), li false S, .lf (.int c), li true P, A, .no, B, C, .no] = some (((isort (rs.getD a.toNat [])).filter fun x => decide (x ∈ S)).map lfI, [mch false rs ms fs, li false K, .lf (.int s), li false S, .lf (.int c), li true P, A, .no, B, C, .no]) := fun A B C => by
    refine lc_filter _ _ _ (by omega) fun x hx => ?_
    refine ⟨[mch false rs ms fs, li false K, .lf (.int s), li false S, .lf (.int c), li true P, A, .no, B, C, .lf (.int x)], [mch false rs ms fs, li false K, .lf (.int s), li false S, .lf (.int c), li true P, A, .no, B, C, .lf (.int x)], rfl, ?_, fun _ => ⟨[mch false rs ms fs, li false K, .lf (.int s), li false S, .lf (.int c), li true P, A, .no, B, C, .no], ?_, ?_⟩, fun _ => ?_⟩
    · exists y_loop_within_2
    · exists x_loop_within_2
    · exists wipeT
    · exists wipeT
  -- a next one within
  obtain ⟨o, ho, hoS⟩ : ∃ o ∈ rs.getD a.toNat [], o ∈ S := by
    obtain ⟨o, h2, h3⟩ := tch_iff.mp (g.st a (inK a aS'))
    exact ⟨o, h2, nxt' aS' h2 h3⟩
  have oin : o ∈ (isort (rs.getD a.toNat [])).filter fun x => decide (x ∈ S) := List.mem_filter.mpr ⟨(isort_perm _).mem_iff.mpr ho, by simpa using hoS⟩
  generalize hO : ((isort (rs.getD a.toNat [])).filter fun x => decide (x ∈ S)) = O at lc2 oin
  have Ol : 0 < O.length := by
    cases O with
    | nil => cases oin
    | cons _ _ => simp
  have hO1 : O.getD 0 0 ∈ O := by
    have : O.getD 0 0 = O[0] := by simp [Ol]
    rw [this]; exact List.getElem_mem Ol
  generalize hoo : O.getD 0 0 = o1 at hO1
  rw [← hO] at hO1
  have o1S : o1 ∈ S := by simpa using (List.mem_filter.mp hO1).2
  have o1r : o1 ∈ rs.getD a.toNat [] := (isort_perm _).mem_iff.mp (List.mem_filter.mp hO1).1
  have bc := aS.bd c hc
  obtain ⟨Q2, sw2, ⟨y2, hy2, w2⟩, m2, ql2⟩ := walk_ds false true rs ms fs hrs aS (asc_one bc) o1 (aS.bd o1 o1S) ((ways o1S hc).till o1S (by simp))
  have : y2 = c := by simpa using hy2
  subst this
  have q2S : ∀ z ∈ Q2, z ∈ S := fun z hz => (m2 z hz).elim id fun h => by rw [show z = y2 by simpa using h]; exact hc
  have hL := pth_close (fs := fs) hP o1r w2 q2S fun f hf => by
    obtain ⟨j, hj, e⟩ := List.mem_iff_getElem.mp hf
    obtain ⟨z, hz, k⟩ := hM j hj
    exact ⟨z, hz, by rw [← e]; simpa [hj] using k⟩
  obtain ⟨Q3, sw3, ⟨y3, hy3, w3⟩, m3, ql3⟩ := walk_ds false true rs ms fs hrs hK (asc_one bc) s bs ((toS y2 hc).till hs (by simp))
  have : y3 = y2 := by simpa using hy3
  subst this
  have q3K : ∀ z ∈ Q3, z ∈ K := fun z hz => (m3 z hz).elim id fun h => by rw [show z = y3 by simpa using h]; exact inK y3 hc
  refine ⟨Q3, (P ++ Q2).dropLast, y3, ?_, w3, q3K, ⟨hL.hd, hL.ch, fun z hz => inK z (hL.inn z hz), hL.ls, hL.mt⟩, by omega, by rw [List.length_dropLast, List.length_append]; omega⟩
  have h1' : dFr (gN 6) l_loop_within_1 (rngT fs.length) [mch false rs ms fs, li false K, .lf (.int s), li false S, .lf (.int y3), li true [y3], .no, .no, .no, .no, .no] = _ := h1
  have f60 := hfs.le
  exists m_loop_within, bn_loop_within, hs, eb, hcc, one, h1', ea, nx, lc2, hoo, sw2, sw3
end Pm


set_option Elab.async false
set_option linter.all false
set_option maxRecDepth 100000
set_option maxHeartbeats 4000000
/-! RF: ranks fall. -/
namespace Pm
open PySem PySem.Spec PyProof.Rows L2 Tr Wk

/-- a stand that steps to one of the core is of it -/
theorem CoreOf.back {n : Nat} {rs fs : List (List Int)} {W K : List Int} (c : CoreOf n rs fs W K) {x y : Int} (hx : x ∈ W) (hy : y ∈ rs.getD x.toNat []) (hk : y ∈ K) : x ∈ K := by
  refine c.max (x :: K) (fun z hz => ?_) ⟨fun z hz => ?_, fun f hf z hz => ?_⟩ x (List.mem_cons_self ..)
  · rcases List.mem_cons.mp hz with rfl | hz
    · exact hx
    · exact c.sub z hz
  · rcases List.mem_cons.mp hz with rfl | hz
    · exact tch_iff.mpr ⟨y, hy, List.mem_cons_of_mem _ hk⟩
    · exact tch_mono (fun z hz => List.mem_cons_of_mem _ hz) (c.good.st z hz)
  · rcases List.mem_cons.mp hz with rfl | hz
    · obtain ⟨u, hu, r⟩ := c.good.fr f hf y hk
      exact ⟨u, hu, (r.mono fun z hz => List.mem_cons_of_mem _ hz).cons hy (List.mem_cons_of_mem _ hk)⟩
    · obtain ⟨u, hu, r⟩ := c.good.fr f hf z hz
      exact ⟨u, hu, r.mono fun z hz => List.mem_cons_of_mem _ hz⟩
/-- what is come to from within stays within what is come to from there -/
theorem Rch.sub {rs : List (List Int)} {W S : List Int} {x y : Int} (r : Rch rs W x y) (hS : ∀ z, Rch rs W x z → z ∈ S) : Rch rs S x y := by
  induction r with
  | here => exact .here
  | step r h2 h3 ih => exact .step ih h2 (hS _ (.step r h2 h3))
/-- a component with a step within it, none of the fair sets missed, is of the core -/
theorem CoreOf.comp {n : Nat} {rs fs : List (List Int)} {W K : List Int} (c : CoreOf n rs fs W K) (hW : Asc n W) {x y : Int} (hx : x ∈ W) (hy : y ∈ rs.getD x.toNat []) (hyW : y ∈ W) (hr : Rch rs W y x) (hf : ∀ f ∈ fs, ∃ z ∈ f, Rch rs W x z ∧ Rch rs W z x) : x ∈ K := by
  let S := pick n fun z => dcd (Rch rs W x z ∧ Rch rs W z x)
  have mS : ∀ z, z ∈ S ↔ (0 ≤ z ∧ z < n) ∧ Rch rs W x z ∧ Rch rs W z x := fun z => by rw [mem_pick, dcd_iff]
  have bx := hW.bd x hx
  have xS : x ∈ S := (mS x).mpr ⟨bx, .here, .here⟩
  have inS : ∀ z, Rch rs W x z → Rch rs W z x → z ∈ S := fun z a b => (mS z).mpr ⟨a.bd hW.bd bx, a, b⟩
  have way : ∀ z u, z ∈ S → Rch rs W z u → Rch rs W u x → Rch rs S z u := fun z u hz r => by
    have hz' := ((mS z).mp hz).2
    induction r with
    | here => exact fun _ => .here
    | @step v o r h2 h3 ih => exact fun b => .step (ih (b.cons h2 h3)) h2 (inS o (hz'.1.trans (.step r h2 h3)) b)
  refine c.max S (fun z hz => ((mS z).mp hz).2.1.inW hx) ⟨fun z hz => ?_, fun f hff z hz => ?_⟩ x xS
  · -- a step within
    obtain ⟨_, a, b⟩ := (mS z).mp hz
    by_cases e : z = x
    · subst e
      exact tch_iff.mpr ⟨y, hy, inS y (.step .here hy hyW) hr⟩
    · have r := way z x hz b .here
      -- the first step of the way
      have : ∀ u, Rch rs S z u → u = z ∨ ∃ o ∈ rs.getD z.toNat [], o ∈ S := fun u r => by
        induction r with
        | here => exact .inl rfl
        | step _ h2 h3 ih =>
          rcases ih with rfl | ih
          · exact .inr ⟨_, h2, h3⟩
          · exact .inr ih
      rcases this x r with e' | ⟨o, h2, h3⟩
      · exact (e e'.symm).elim
      · exact tch_iff.mpr ⟨o, h2, h3⟩
  · obtain ⟨_, a, b⟩ := (mS z).mp hz
    obtain ⟨u, hu, r1, r2⟩ := hf f hff
    exact ⟨u, hu, way z u hz (b.trans r1) r2⟩
/-- along a step within the set, off the core -/
theorem rank_falls {n : Nat} {rs fs : List (List Int)} {W K : List Int} (hW : Asc n W) (c : CoreOf n rs fs W K) {x y : Int} (hx : x ∈ W) (hk : x ∉ K) (hy : y ∈ rs.getD x.toNat []) (hyW : y ∈ W) :
    y ∉ K ∧ ((RK n rs fs W y).1 < (RK n rs fs W x).1 ∨ ((RK n rs fs W y).1 = (RK n rs fs W x).1 ∧ (RK n rs fs W y).2 = (RK n rs fs W x).2 ∧ ∃ m, (RK n rs fs W x).2 = some m ∧ (0 ≤ m ∧ m < fs.length) ∧ x ∉ fs.getD m.toNat [] ∧ y ∉ fs.getD m.toNat [])) := by
  refine ⟨fun h => hk (c.back hx hy h), ?_⟩
  have bx := hW.bd x hx
  have by' := hW.bd y hyW
  have xy : Rch rs W x y := .step .here hy hyW
  have sub : ∀ z ∈ RS n rs W y, z ∈ RS n rs W x := fun z hz => by
    have := mem_RS.mp hz
    exact mem_RS.mpr ⟨this.1, xy.trans this.2⟩
  have le := asc_sub (RS_asc n rs W y) (RS_asc n rs W x) sub
  show ((RS n rs W y).length : Int) < (RS n rs W x).length ∨ _
  by_cases hl : (RS n rs W y).length < (RS n rs W x).length
  · exact .inl (by omega)
  · have e := le.2 (by omega)
    have yx : Rch rs W y x := by
      have : x ∈ RS n rs W y := by rw [e]; exact mem_RS.mpr ⟨bx, .here⟩
      exact (mem_RS.mp this).2
    have eT : TG n rs W y = TG n rs W x := by
      unfold TG; rw [e]
      refine List.filter_congr fun o ho => ?_
      have ho' := mem_RS.mp ho
      rw [decide_eq_decide]
      exact ⟨fun h => mem_RS.mpr ⟨bx, (mem_RS.mp h).2.trans yx⟩, fun h => mem_RS.mpr ⟨by', (mem_RS.mp h).2.trans xy⟩⟩
    refine .inr ⟨by show ((RS n rs W y).length : Int) = _; rw [e]; rfl, by show mss fs (TG n rs W y) = mss fs (TG n rs W x); rw [eT], ?_⟩
    have xT : x ∈ TG n rs W x := List.mem_filter.mpr ⟨mem_RS.mpr ⟨bx, .here⟩, by simpa using mem_RS.mpr ⟨bx, Rch.here⟩⟩
    have yT : y ∈ TG n rs W x := List.mem_filter.mpr ⟨mem_RS.mpr ⟨by', xy⟩, by simpa using mem_RS.mpr ⟨bx, yx⟩⟩
    cases hm : mss fs (TG n rs W x) with
    | some m =>
      obtain ⟨a, b⟩ := mss_some hm
      exact ⟨m, hm, a, b x xT, b y yT⟩
    | none =>
      refine (hk (c.comp hW hx hy hyW yx fun f hf => ?_)).elim
      obtain ⟨z, hz, hzf⟩ := mss_none hm f hf
      obtain ⟨h1, h2⟩ := List.mem_filter.mp hz
      exact ⟨z, hzf, (mem_RS.mp h1).2, (mem_RS.mp (of_decide_eq_true h2)).2⟩
/-- a stand of the set has a rank of at least one -/
theorem rank_pos {n : Nat} {rs fs : List (List Int)} {W : List Int} {x : Int} : 0 ≤ (RK n rs fs W x).1 := Int.natCast_nonneg _
theorem rank_miss {n : Nat} {rs fs : List (List Int)} {W : List Int} {x m : Int} (h : (RK n rs fs W x).2 = some m) : 0 ≤ m ∧ m < fs.length := (mss_some h).1
end Pm


set_option Elab.async false
set_option linter.all false
set_option maxRecDepth 100000
set_option maxHeartbeats 4000000
/-! RO: missed_of, ranks. -/
namespace Pm
open PySem PySem.Spec PyProof.Rows L2 Tr Wk
local macro_rules | `(tactic| exists $es,*) => do { let ls ← es.getElems.mapM fun e => `(Lean.Parser.Tactic.simpLemma| $e:term); `(tactic| simp -implicitDefEqProofs (disch := (first | assumption | omega | decide | (simp only [List.length_cons, List.length_nil, List.length_append, List.length_map, Tr.rgI_len]; omega) | (simp only [List.length_cons, List.length_nil, List.length_append, List.length_map, Int.toNat_natCast] at *; omega))) only [Tr.okT_lf, Tr.okT_nd, Tr.okT_li, Tr.okT_ll, Tr.okT_dk, Tr.okT_mks, Tr.okT_mk1, Tr.okT_mch, Tr.okT_scr, Tr.okT_tp, Tr.okO_some, Tr.gV_ev, Tr.gC_ev, Tr.gG_ev, Tr.fM_ev, Tr.fS_ev, Tr.gM_ev, Tr.gS_ev, Tr.fP_ev, Tr.fQ_ev, Tr.vr_ev, Tr.fRe_ev, Tr.re_ev, Tr.fO1_ev, Tr.o1V_ev, Tr.o1_ev, Tr.fO2V_ev, Tr.o2V_ev, Tr.fO2v'_ev, Tr.fO2v_ev, Tr.o2v_ev, Tr.fO2o'_ev, Tr.fO2o_ev, Tr.o2o_ev, Tr.fO2c'_ev, Tr.fO2c_ev, Tr.o2c_ev, Tr.fO2n''_ev, Tr.fO2n'_ev, Tr.fO2n_ev, Tr.o2n_ev, Tr.fAnd_ev, Tr.fOr_ev, Tr.dAnd_ev, Tr.dOr_ev, Tr.ite_BB, Tr.ite_decF, Tr.ite_Tdec, Tr.z_cast, Tr.z_ndec, Tr.ite_TF, Tr.ite_FT, Tr.bind_ite, Tr.aNil_ev, Tr.fCons'_ev, Tr.fCons_ev, Tr.aCons_ev, Tr.fCall'_ev, Tr.fCall_ev, Tr.dCall_ev, Tr.wb_nil, Tr.wb_none, Tr.fWb_ev, Tr.wb_some, Tr.fMeth'_ev, Tr.fMeth_ev, Tr.dMeth_ev, Tr.fMake'_ev, Tr.fMake_ev, Tr.dMake_ev, Tr.fSeq_nx, Tr.fSeq_rt, Tr.fSeq_bk, Tr.fSeq_ct, Tr.dSeq_ev, Tr.fIf_ev, Tr.dIf_ev, Tr.fSet_ev, Tr.dSet_ev, Tr.fRet_ev, Tr.dRet_ev, Tr.fEx_ev, Tr.dEx_ev, Tr.dRetN_ev, Tr.dNx_ev, Tr.dBk_ev, Tr.dCt_ev, Tr.dFail_ev, Tr.fPut''_ev, Tr.fPut'_ev, Tr.fPut1_ev, Tr.fPut_ev, Tr.dPut_ev, Tr.fMut3_ev, Tr.fMut2_ev, Tr.fMut1_ev, Tr.fMut_ev, Tr.dMut_ev, Tr.fLst_ev, Tr.fTup_ev, Tr.dLst_ev, Tr.dTup_ev, Tr.dDic_ev, Tr.fBw_ev, Tr.bw_ev, Tr.fFz_ev, Tr.fz_ev, Tr.fAug''_ev, Tr.fAug'_ev, Tr.fAug_ev, Tr.dAug_ev, Tr.z_ex, Tr.z_exT, Tr.fRng_nat, Tr.dRng_ev, Tr.fIt'_ev, Tr.fIt_ev, Tr.dIt_ev, Tr.fFor_ev, Tr.dFor_ev, Tr.gN_ev, Tr.fG_ev, Tr.gT2_ev, Tr.gT2_mk1, Tr.dFr_nil, Tr.turn_ev, Tr.fFr_nx, Tr.fFr_ct, Tr.fFr_bk, Tr.fFr_rt, Tr.dFr_cons, Tr.fLc'_ev, Tr.fLc_ev, Tr.dLc_ev, Tr.dLr_nil, Tr.wipeT_nil, Tr.wipeT_cons, Tr.backT_nil, Tr.backT_cons, Tr.cleanAt_nil, Tr.cleanAt_cons, Tr.fFun_rt, Tr.fFun_nx, Tr.dFun_ev, Tr.outs_cons, Tr.outs_nil, Tr.frzs_nil, Tr.frzs_cons, Tr.z_frz1, Tr.z_frz2, Tr.z_frz3, Tr.z_frz4, Tr.z_frz5, Tr.z_frz6, Tr.z_frz7, Tr.z_frz8, Tr.z_frz9, Tr.z_frz10, Tr.z_frz11, Tr.z_cln1, Tr.z_cln2, Tr.z_cln3, Tr.z_cln4, Tr.z_cln5, Tr.z_cln6, Tr.z_cln7, Tr.z_cln8, Tr.z_cln9, Tr.z_cln10, Tr.z_clns1, Tr.z_clns2, Tr.z_clns3, Tr.z_pure1, Tr.z_pure2, Tr.z_pure3, Tr.z_pure4, Tr.z_pure5, Tr.z_pure6, Tr.z_pure7, Tr.z_lfI, Tr.z_li, Tr.z_add, Tr.z_sub, Tr.z_mulr, Tr.z_mod, Tr.z_div, Tr.z_lt, Tr.z_le, Tr.z_gt, Tr.z_ge, Tr.z_eq, Tr.z_ne, Tr.z_neg, Tr.z_eqli, Tr.z_neli, Tr.z_eqnil, Tr.z_nenil, Tr.z_inli, Tr.z_ninli, Tr.z_indk, Tr.z_nindk, Tr.z_ll, Tr.z_mks, Tr.z_nil, Tr.z_appll, Tr.z_int1, Tr.z_int2, Tr.z_len1, Tr.z_len2, Tr.z_len3, Tr.z_len4, Tr.z_len5, Tr.z_len6, Tr.z_len7, Tr.z_not, Tr.z_isi1, Tr.z_isi2, Tr.z_isi3, Tr.z_isi4, Tr.z_isi5, Tr.z_isi6, Tr.z_list1, Tr.z_sort1, Tr.z_sort2, Tr.z_app1, Tr.z_app2, Tr.z_pop1, Tr.z_clr1, Tr.z_clr2, Tr.z_rev1, Tr.z_ext1, Tr.z_cat1, Tr.z_it1, Tr.z_it2, Tr.z_it3, Tr.z_it4, Tr.z_ty1, Tr.z_ty2, Tr.z_ty3, Tr.z_ty4, Tr.z_fst, Tr.z_fma, Tr.z_ffa, Tr.z_ins1, Tr.z_ins2, Tr.z_ins3, Tr.z_ins4, Tr.z_ins5, Tr.z_ixli, Tr.z_ixll, Tr.z_ixlast, Tr.z_setdk, Tr.fDic1_ev, Tr.fDic1'_ev, Tr.dDic1_ev, Tr.fLRg_nat, Tr.dLRg_ev, Tr.z_len8, Tr.z_bind_some, Tr.z_get0, Tr.z_gets, Tr.z_getD0, Tr.z_getDs, Tr.z_set0, Tr.z_sets, Tr.z_app, Tr.z_nil_app, Tr.z_app_nil, Tr.z_map0, Tr.z_mapc, Tr.z_rep0, Tr.z_reps, Tr.z_lenc, Tr.z_lenn, Tr.z_c0, Tr.z_c1, Tr.z_c2, Tr.z_c3, Tr.z_okoV, Tr.z_okrk, Tr.z_okrl, Tr.z_frzoV, Tr.z_clnoV, Tr.z_pureoV, Tr.z_frzrk, Tr.z_clnrk, Tr.z_frzrl, Tr.z_clnrl, Tr.z_ixrl, Tr.z_lenrl, Tr.z_isirl, Tr.z_tyrl, Tr.z_clrrl, Tr.z_oVs, Tr.z_oVn, Tr.z_rks, Tr.z_rkn, Tr.z_ixt0, Tr.z_ixt1, Tr.z_isN1, Tr.z_isN2, Tr.z_isN3, Tr.z_notN1, Tr.z_notN2, Tr.z_notN3, Tr.z_isN4, Tr.z_notN4, Tr.z_isN5, Tr.z_notN5, Tr.fCh3_ev, Tr.fCh2_ev, Tr.fCh1_ev, Tr.z_ch, Tr.z_okdls, Tr.z_frzdls, Tr.z_clndls, Tr.z_ixdls, Tr.z_indls, Tr.z_okdds, Tr.z_frzdds, Tr.z_clndds, Tr.z_ixdds, Tr.fAsg'_ev, Tr.fAsg_ev, Tr.dAsg_ev, Tr.fBwS_ev, Tr.bwS_ev, Tr.fPt_ev, Tr.ptT_no, Tr.ptT_so, Tr.fSl2_ev, Tr.fSl1_ev, Tr.fSl_ev, Tr.dSl_ev, Tr.z_slli, Tr.z_cutTail, Tr.z_cutInit, ↓reduceIte, ite_true, ite_false, Nat.reduceAdd, Nat.reduceSub, Nat.reduceLT, Nat.reduceLeDiff, Nat.zero_add, Nat.lt_add_one, Nat.zero_lt_succ, decide_true, decide_false, decide_eq_true_eq, decide_eq_false_iff_not, Bool.not_eq_true, Bool.not_eq_false, Bool.not_true, Bool.not_false, Bool.not_eq_true', Bool.and_true, Bool.true_and, Bool.and_self, Bool.and_eq_true, Bool.or_eq_true, not_true_eq_false, not_false_eq_true, eq_self, and_self, and_true, true_and, false_and, and_false, or_true, true_or, or_false, false_or, reduceCtorEq, Bool.false_eq_true, Int.toNat_natCast, Int.reduceToNat, Int.reduceEq, Int.reduceLT, Int.reduceLE, Int.reduceNeg, Int.reduceAdd, Int.reduceSub, Int.reduceMul, List.length_map, Bool.not_not, Bool.not_eq_eq_eq_not, Decidable.not_not, Nat.reduceEqDiff, Bool.false_and, Bool.and_false, Option.isSome_some, Option.isSome_none, Option.isNone_some, Option.isNone_none, $ls,*]) }

theorem missed_ok {n : Nat} (rs ms fs) (hrs : Stps n rs) (hfs : Frs n fs) {S : List Int} (hS : Asc n S) : m_missed_of [mch false rs ms fs, li false S] = some (oV (mss fs S), [mch false rs ms fs, li false S]) := by
  have n60 := hrs.le
  have f60 := hfs.le
  have sl := hS.len
  obtain ⟨e, ⟨x2, x3, x4, rfl⟩, h1⟩ := lp_first (dg := gN 2) (d := l_missed_of_1) (fun env => ∃ x2 x3, ∃ x4 : T, env = e_missed_of (mch false rs ms fs) (li false S) x2 x3 .no) (fun k => decide (((S.filter fun x => decide (x ∈ fs.getD k.toNat [])).length : Int) = 0)) (fun k => I k) (rgI fs.length) (e_missed_of (mch false rs ms fs) (li false S) .no .no .no) ⟨_, _, .no, rfl⟩ (by
    rintro k hk env ⟨x2, x3, x4, rfl⟩
    have hb := mem_rgI.mp hk
    have hi : k.toNat < fs.length := by omega
    have ef : fs.getD k.toNat [] = fs[k.toNat] := by simp [hi]
    have okf := hfs.okl fs[k.toNat] (List.getElem_mem hi)
    have ky := keyed_any true (isort (fs.getD k.toNat [])) (by rw [ef]; exact (isort_perm _).nodup_iff.mpr okf.nd) (by rw [ef, (isort_perm _).length_eq]; have := okf.le; omega)
    have lc : ∀ A : T, dLr (gN 4) y_missed_of_1 x_missed_of_1 [4] (S.map lfI) [] [mch false rs ms fs, li false S, A, dk true (kI (isort (fs.getD k.toNat []))), .no] = some ((S.filter fun x => decide (x ∈ fs.getD k.toNat [])).map lfI, [mch false rs ms fs, li false S, A, dk true (kI (isort (fs.getD k.toNat []))), .no]) := fun A => by
      refine lc_filter _ S _ (by omega) fun x hx => ?_
      refine ⟨[mch false rs ms fs, li false S, A, dk true (kI (isort (fs.getD k.toNat []))), I x], [mch false rs ms fs, li false S, A, dk true (kI (isort (fs.getD k.toNat []))), I x], rfl, ?_, fun _ => ⟨[mch false rs ms fs, li false S, A, dk true (kI (isort (fs.getD k.toNat []))), .no], ?_, ?_⟩, fun _ => ?_⟩
      · have : (x ∈ isort (fs.getD k.toNat [])) = (x ∈ fs.getD k.toNat []) := propext (isort_perm _).mem_iff
        exists y_missed_of_1, this
      · exists x_missed_of_1
      · exists wipeT
      · exists wipeT
    by_cases hp : ((S.filter fun x => decide (x ∈ fs.getD k.toNat [])).length : Int) = 0
    · exists l_missed_of_1, m_Machine_fair_at, bn_Machine_fair_at, ky, lc, hp
      exact ⟨_, _, .no, rfl⟩
    · exists l_missed_of_1, m_Machine_fair_at, bn_Machine_fair_at, ky, lc, hp
      exact ⟨_, _, .no, rfl⟩)
  have e1 : (rgI fs.length).map lfI = rngT fs.length := (rngT_rgI _).symm
  rw [e1] at h1
  have h1' : dFr (gN 2) l_missed_of_1 (rngT fs.length) (e_missed_of (mch false rs ms fs) (li false S) .no .no .no) = some (flF (fun k => I k) (mss fs S), e_missed_of (mch false rs ms fs) (li false S) x2 x3 .no) := h1
  cases hm : mss fs S with
  | none =>
    rw [hm] at h1'
    exists m_missed_of, bn_missed_of, h1', flF
  | some k =>
    rw [hm] at h1'
    exists m_missed_of, bn_missed_of, h1', flF
noncomputable def rkF (n : Nat) (rs fs : List (List Int)) (W K : List Int) (x : Int) : Option (Int × Option Int) := if x ∈ W ∧ x ∉ K then some (RK n rs fs W x) else none
theorem ranks_ok {n : Nat} (o' : Bool) (rs ms fs) (hrs : Stps n rs) (hfs : Frs n fs) {W K : List Int} (hW : Asc n W) (c : CoreOf n rs fs W K) (o : Bool) :
    m_ranks [mch o' rs ms fs, li o W] = some (rl true n (rkF n rs fs W K), [mch false rs ms fs, .no]) := by
  have n60 := hrs.le
  have hn := hrs.len
  have wl := hW.len
  have kl := c.asc.len
  obtain ⟨K', hK', hc⟩ := core_ok false false rs ms fs hrs hfs hW
  cases hK'.uniq c
  have ky := keyed_any true K c.asc.nd (by omega)
  -- what is reached
  obtain ⟨env', h1, x5, rfl⟩ := lp_li (dg := gN 5) (d := l_ranks_1) W (fun i env => ∃ x5, env = e_ranks (mch false rs ms fs) (li false W) (dk true (kI K)) (rl true n fun _ => none) (dls true (W.take i) (RS n rs W)) x5 .no .no) (e_ranks (mch false rs ms fs) (li false W) (dk true (kI K)) (rl true n fun _ => none) (dls true [] (RS n rs W)) .no .no .no) ⟨_, rfl⟩ (by
    rintro i hi env ⟨x5, rfl⟩
    have hx : W[i] ∈ W := List.getElem_mem hi
    have hb := hW.bd _ hx
    have r := reach_RS rs ms fs hrs hW W[i] hb
    have s := set_dls (W.take i) (RS n rs W) W[i] hW.nd.take (new_at hW.nd hi) (by simp; omega)
    rw [← List.take_succ_eq_append_getElem hi] at s
    have s' : mSetD (.int W[i]) (dls true (W.take i) (RS n rs W)) [li true (RS n rs W W[i])] = some (.lf .non, dls true (W.take (i + 1)) (RS n rs W)) := s
    exists l_ranks_1, r, s'
    exact ⟨_, rfl⟩)
  rw [List.take_length] at h1
  -- the ranks
  let G : Nat → Int → Option (Int × Option Int) := fun i y => if y ∈ W.take i ∧ y ∉ K then some (RK n rs fs W y) else none
  have eG0 : G 0 = fun _ => none := funext fun y => by show (if y ∈ W.take 0 ∧ y ∉ K then some (RK n rs fs W y) else none) = none; simp
  obtain ⟨env', h2, x5', x6', rfl⟩ := lp_li (dg := gN 5) (d := l_ranks_2) W (fun i env => ∃ x5 x6, env = e_ranks (mch false rs ms fs) .no (dk true (kI K)) (rl true n (G i)) (dls true W (RS n rs W)) x5 x6 .no) (e_ranks (mch false rs ms fs) .no (dk true (kI K)) (rl true n fun _ => none) (dls true W (RS n rs W)) x5 .no .no) ⟨_, _, by rw [eG0]⟩ (by
    rintro i hi env ⟨x5, x6, rfl⟩
    have hx : W[i] ∈ W := List.getElem_mem hi
    have hb := hW.bd _ hx
    have hbn : W[i].toNat < n := by omega
    have h0 := hb.1
    have inT : ∀ y, y ∈ W.take (i + 1) ↔ y = W[i] ∨ y ∈ W.take i := fun y => by
      rw [List.take_succ_eq_append_getElem hi, List.mem_append, List.mem_singleton]; exact or_comm
    by_cases hk : W[i] ∈ K
    · have e : G (i + 1) = G i := funext fun y => by
        show (if y ∈ W.take (i + 1) ∧ y ∉ K then some (RK n rs fs W y) else none) = if y ∈ W.take i ∧ y ∉ K then some (RK n rs fs W y) else none
        by_cases e : y = W[i]
        · subst e
          rw [if_neg (fun z => z.2 hk), if_neg (fun z => z.2 hk)]
        · simp [inT, e]
      exists l_ranks_2, hk
      exact ⟨_, _, by rw [e]⟩
    · have rl60 := (RS_asc n rs W W[i]).len
      have sl := flt_asc (RS_asc n rs W W[i]) fun o => decide (W[i] ∈ RS n rs W o)
      have mis' := missed_ok rs ms fs hrs hfs sl
      have mis : m_missed_of [mch false rs ms fs, li false (TG n rs W W[i])] = some (oV (mss fs (TG n rs W W[i])), [mch false rs ms fs, li false (TG n rs W W[i])]) := mis'
      have inW : ∀ o ∈ RS n rs W W[i], o ∈ W := fun o ho => (mem_RS.mp ho).2.inW hx
      have lc : ∀ A B : T, dLr (gN 7) y_ranks_2 x_ranks_2 [7] ((RS n rs W W[i]).map lfI) [] [mch false rs ms fs, .no, dk false (kI K), A, dls false W (RS n rs W), .lf (.int W[i]), B, .no] = some ((TG n rs W W[i]).map lfI, [mch false rs ms fs, .no, dk false (kI K), A, dls false W (RS n rs W), .lf (.int W[i]), B, .no]) := fun A B => by
        refine lc_filter _ (RS n rs W W[i]) _ (by omega) fun x hx => ?_
        have hxW := inW x hx
        refine ⟨[mch false rs ms fs, .no, dk false (kI K), A, dls false W (RS n rs W), .lf (.int W[i]), B, .lf (.int x)], [mch false rs ms fs, .no, dk false (kI K), A, dls false W (RS n rs W), .lf (.int W[i]), B, .lf (.int x)], rfl, ?_, fun _ => ⟨[mch false rs ms fs, .no, dk false (kI K), A, dls false W (RS n rs W), .lf (.int W[i]), B, .no], ?_, ?_⟩, fun _ => ?_⟩
        · exists y_ranks_2
        · exists x_ranks_2
        · exists wipeT
        · exists wipeT
      have st : mSetL (.int W[i]) (rl true n (G i)) [.nd false .tup [.lf (.int ((RS n rs W W[i]).length : Int)), oV (mss fs (TG n rs W W[i]))]] = some (.lf .non, rl true n (G (i + 1))) := by
        refine (set_tl n _ _ _ h0 hbn).trans ?_
        refine congrArg (fun f => some ((.lf .non : T), tl true n f)) (funext fun y => ?_)
        show _ = rkT (if y ∈ W.take (i + 1) ∧ y ∉ K then some (RK n rs fs W y) else none)
        by_cases e : y = W[i]
        · subst e
          rw [if_pos rfl, if_pos ⟨(inT _).mpr (.inl rfl), hk⟩]; rfl
        · rw [if_neg e]
          show rkT (if y ∈ W.take i ∧ y ∉ K then some (RK n rs fs W y) else none) = _
          simp [inT, e]
      exists l_ranks_2, hk, lc, mis, st
      exact ⟨_, _, rfl⟩)
  have eG : G W.length = rkF n rs fs W K := funext fun y => by show (if y ∈ W.take W.length ∧ y ∉ K then some (RK n rs fs W y) else none) = _; rw [List.take_length]; rfl
  rw [eG] at h2
  -- the Nones
  have nn : ∀ A B C : T, dLr (gN 5) dYes x_ranks_1 [5] (rngT n) [] [A, B, C, .no, .no, .no, .no, .no] = some ((rgI n).map (fun _ => (.lf .non : T)), [A, B, C, .no, .no, .no, .no, .no]) := fun A B C => by
    rw [rngT_rgI]
    have := lc_map (dg := gN 5) (de := x_ranks_1) (vs := [5]) [A, B, C, .no, .no, .no, .no, .no] (fun _ => N) ((rgI n).map lfI) (by simp [rgI_len]; omega) fun t ht => by
      obtain ⟨x, hx, rfl⟩ := List.mem_map.mp ht
      exact ⟨[A, B, C, .no, .no, .lf (.int x), .no, .no], [A, B, C, .no, .no, .lf (.int x), .no, .no], rfl, rfl, rfl⟩
    rw [this, List.map_map]; rfl
  have nr : (.nd true .lst ((rgI n).map fun _ => (.lf .non : T)) : T) = rl true n fun _ => none := rfl
  have h1' : dFr (gN 5) l_ranks_1 (W.map lfI) [mch false rs ms fs, li false W, dk true (kI K), rl true n fun _ => none, dk true [], .no, .no, .no] = _ := h1
  exists m_ranks, bn_ranks, m_Machine_many, bn_Machine_many, hn, hc, ky, nn, nr, h1', h2
end Pm


set_option Elab.async false
set_option linter.all false
set_option maxRecDepth 100000
set_option maxHeartbeats 4000000
/-! CA: alive. -/
namespace Pm
open PySem PySem.Spec PyProof.Rows L2 Tr Wk
local macro_rules | `(tactic| exists $es,*) => do { let ls ← es.getElems.mapM fun e => `(Lean.Parser.Tactic.simpLemma| $e:term); `(tactic| simp -implicitDefEqProofs (disch := (first | assumption | omega | decide | (simp only [List.length_cons, List.length_nil, List.length_append, List.length_map, Tr.rgI_len]; omega) | (simp only [List.length_cons, List.length_nil, List.length_append, List.length_map, Int.toNat_natCast] at *; omega))) only [Tr.okT_lf, Tr.okT_nd, Tr.okT_li, Tr.okT_ll, Tr.okT_dk, Tr.okT_mks, Tr.okT_mk1, Tr.okT_mch, Tr.okT_scr, Tr.okT_tp, Tr.okO_some, Tr.gV_ev, Tr.gC_ev, Tr.gG_ev, Tr.fM_ev, Tr.fS_ev, Tr.gM_ev, Tr.gS_ev, Tr.fP_ev, Tr.fQ_ev, Tr.vr_ev, Tr.fRe_ev, Tr.re_ev, Tr.fO1_ev, Tr.o1V_ev, Tr.o1_ev, Tr.fO2V_ev, Tr.o2V_ev, Tr.fO2v'_ev, Tr.fO2v_ev, Tr.o2v_ev, Tr.fO2o'_ev, Tr.fO2o_ev, Tr.o2o_ev, Tr.fO2c'_ev, Tr.fO2c_ev, Tr.o2c_ev, Tr.fO2n''_ev, Tr.fO2n'_ev, Tr.fO2n_ev, Tr.o2n_ev, Tr.fAnd_ev, Tr.fOr_ev, Tr.dAnd_ev, Tr.dOr_ev, Tr.ite_BB, Tr.ite_decF, Tr.ite_Tdec, Tr.z_cast, Tr.z_ndec, Tr.ite_TF, Tr.ite_FT, Tr.bind_ite, Tr.aNil_ev, Tr.fCons'_ev, Tr.fCons_ev, Tr.aCons_ev, Tr.fCall'_ev, Tr.fCall_ev, Tr.dCall_ev, Tr.wb_nil, Tr.wb_none, Tr.fWb_ev, Tr.wb_some, Tr.fMeth'_ev, Tr.fMeth_ev, Tr.dMeth_ev, Tr.fMake'_ev, Tr.fMake_ev, Tr.dMake_ev, Tr.fSeq_nx, Tr.fSeq_rt, Tr.fSeq_bk, Tr.fSeq_ct, Tr.dSeq_ev, Tr.fIf_ev, Tr.dIf_ev, Tr.fSet_ev, Tr.dSet_ev, Tr.fRet_ev, Tr.dRet_ev, Tr.fEx_ev, Tr.dEx_ev, Tr.dRetN_ev, Tr.dNx_ev, Tr.dBk_ev, Tr.dCt_ev, Tr.dFail_ev, Tr.fPut''_ev, Tr.fPut'_ev, Tr.fPut1_ev, Tr.fPut_ev, Tr.dPut_ev, Tr.fMut3_ev, Tr.fMut2_ev, Tr.fMut1_ev, Tr.fMut_ev, Tr.dMut_ev, Tr.fLst_ev, Tr.fTup_ev, Tr.dLst_ev, Tr.dTup_ev, Tr.dDic_ev, Tr.fBw_ev, Tr.bw_ev, Tr.fFz_ev, Tr.fz_ev, Tr.fAug''_ev, Tr.fAug'_ev, Tr.fAug_ev, Tr.dAug_ev, Tr.z_ex, Tr.z_exT, Tr.fRng_nat, Tr.dRng_ev, Tr.fIt'_ev, Tr.fIt_ev, Tr.dIt_ev, Tr.fFor_ev, Tr.dFor_ev, Tr.gN_ev, Tr.fG_ev, Tr.gT2_ev, Tr.gT2_mk1, Tr.dFr_nil, Tr.turn_ev, Tr.fFr_nx, Tr.fFr_ct, Tr.fFr_bk, Tr.fFr_rt, Tr.dFr_cons, Tr.fLc'_ev, Tr.fLc_ev, Tr.dLc_ev, Tr.dLr_nil, Tr.wipeT_nil, Tr.wipeT_cons, Tr.backT_nil, Tr.backT_cons, Tr.cleanAt_nil, Tr.cleanAt_cons, Tr.fFun_rt, Tr.fFun_nx, Tr.dFun_ev, Tr.outs_cons, Tr.outs_nil, Tr.frzs_nil, Tr.frzs_cons, Tr.z_frz1, Tr.z_frz2, Tr.z_frz3, Tr.z_frz4, Tr.z_frz5, Tr.z_frz6, Tr.z_frz7, Tr.z_frz8, Tr.z_frz9, Tr.z_frz10, Tr.z_frz11, Tr.z_cln1, Tr.z_cln2, Tr.z_cln3, Tr.z_cln4, Tr.z_cln5, Tr.z_cln6, Tr.z_cln7, Tr.z_cln8, Tr.z_cln9, Tr.z_cln10, Tr.z_clns1, Tr.z_clns2, Tr.z_clns3, Tr.z_pure1, Tr.z_pure2, Tr.z_pure3, Tr.z_pure4, Tr.z_pure5, Tr.z_pure6, Tr.z_pure7, Tr.z_lfI, Tr.z_li, Tr.z_add, Tr.z_sub, Tr.z_mulr, Tr.z_mod, Tr.z_div, Tr.z_lt, Tr.z_le, Tr.z_gt, Tr.z_ge, Tr.z_eq, Tr.z_ne, Tr.z_neg, Tr.z_eqli, Tr.z_neli, Tr.z_eqnil, Tr.z_nenil, Tr.z_inli, Tr.z_ninli, Tr.z_indk, Tr.z_nindk, Tr.z_ll, Tr.z_mks, Tr.z_nil, Tr.z_appll, Tr.z_int1, Tr.z_int2, Tr.z_len1, Tr.z_len2, Tr.z_len3, Tr.z_len4, Tr.z_len5, Tr.z_len6, Tr.z_len7, Tr.z_not, Tr.z_isi1, Tr.z_isi2, Tr.z_isi3, Tr.z_isi4, Tr.z_isi5, Tr.z_isi6, Tr.z_list1, Tr.z_sort1, Tr.z_sort2, Tr.z_app1, Tr.z_app2, Tr.z_pop1, Tr.z_clr1, Tr.z_clr2, Tr.z_rev1, Tr.z_ext1, Tr.z_cat1, Tr.z_it1, Tr.z_it2, Tr.z_it3, Tr.z_it4, Tr.z_ty1, Tr.z_ty2, Tr.z_ty3, Tr.z_ty4, Tr.z_fst, Tr.z_fma, Tr.z_ffa, Tr.z_ins1, Tr.z_ins2, Tr.z_ins3, Tr.z_ins4, Tr.z_ins5, Tr.z_ixli, Tr.z_ixll, Tr.z_ixlast, Tr.z_setdk, Tr.fDic1_ev, Tr.fDic1'_ev, Tr.dDic1_ev, Tr.fLRg_nat, Tr.dLRg_ev, Tr.z_len8, Tr.z_bind_some, Tr.z_get0, Tr.z_gets, Tr.z_getD0, Tr.z_getDs, Tr.z_set0, Tr.z_sets, Tr.z_app, Tr.z_nil_app, Tr.z_app_nil, Tr.z_map0, Tr.z_mapc, Tr.z_rep0, Tr.z_reps, Tr.z_lenc, Tr.z_lenn, ↓reduceIte, ite_true, ite_false, Nat.reduceAdd, Nat.reduceSub, Nat.reduceLT, Nat.reduceLeDiff, Nat.zero_add, Nat.lt_add_one, Nat.zero_lt_succ, decide_true, decide_false, decide_eq_true_eq, decide_eq_false_iff_not, Bool.not_eq_true, Bool.not_eq_false, Bool.not_true, Bool.not_false, Bool.not_eq_true', Bool.and_true, Bool.true_and, Bool.and_self, Bool.and_eq_true, Bool.or_eq_true, not_true_eq_false, not_false_eq_true, eq_self, and_self, and_true, true_and, false_and, and_false, or_true, true_or, or_false, false_or, reduceCtorEq, Bool.false_eq_true, Int.toNat_natCast, Int.reduceToNat, Int.reduceEq, Int.reduceLT, Int.reduceLE, Int.reduceNeg, Int.reduceAdd, Int.reduceSub, Int.reduceMul, List.length_map, Bool.not_not, Bool.not_eq_eq_eq_not, Decidable.not_not, Nat.reduceEqDiff, Bool.false_and, Bool.and_false, Option.isSome_some, Option.isSome_none, Option.isNone_some, Option.isNone_none, $ls,*]) }

theorem alive_ok (o : Bool) {n : Nat} (rs ms fs) (hrs : Stps n rs) (hfs : Frs n fs) :
    ∃ K, CoreOf n rs fs (rgI n) K ∧ m_alive [mch o rs ms fs] = some (li true K, [mch false rs ms fs]) := by
  obtain ⟨K, h1, h2⟩ := core_ok true false rs ms fs hrs hfs (rgI_asc n)
  have n60 := hrs.le
  have hn := hrs.len
  refine ⟨K, h1, ?_⟩
  exists m_alive, bn_alive, m_Machine_many, bn_Machine_many, hn, h2
end Pm


set_option Elab.async false
set_option linter.all false
set_option autoImplicit false
set_option maxRecDepth 100000
set_option maxHeartbeats 4000000
/-! LI: lives. -/
namespace Pm
open PySem PySem.Spec PyProof.Rows L2 Tr Wk
local macro_rules | `(tactic| exists $es,*) => do { let ls ← es.getElems.mapM fun e => `(Lean.Parser.Tactic.simpLemma| $e:term); `(tactic| simp -implicitDefEqProofs (disch := (first | assumption | omega | decide | (simp only [List.length_cons, List.length_nil, List.length_append, List.length_map, Tr.rgI_len]; omega) | (simp only [List.length_cons, List.length_nil, List.length_append, List.length_map, Int.toNat_natCast] at *; omega))) only [Tr.okT_lf, Tr.okT_nd, Tr.okT_li, Tr.okT_ll, Tr.okT_dk, Tr.okT_mks, Tr.okT_mk1, Tr.okT_mch, Tr.okT_scr, Tr.okT_tp, Tr.okO_some, Tr.gV_ev, Tr.gC_ev, Tr.gG_ev, Tr.fM_ev, Tr.fS_ev, Tr.gM_ev, Tr.gS_ev, Tr.fP_ev, Tr.fQ_ev, Tr.vr_ev, Tr.fRe_ev, Tr.re_ev, Tr.fO1_ev, Tr.o1V_ev, Tr.o1_ev, Tr.fO2V_ev, Tr.o2V_ev, Tr.fO2v'_ev, Tr.fO2v_ev, Tr.o2v_ev, Tr.fO2o'_ev, Tr.fO2o_ev, Tr.o2o_ev, Tr.fO2c'_ev, Tr.fO2c_ev, Tr.o2c_ev, Tr.fO2n''_ev, Tr.fO2n'_ev, Tr.fO2n_ev, Tr.o2n_ev, Tr.fAnd_ev, Tr.fOr_ev, Tr.dAnd_ev, Tr.dOr_ev, Tr.ite_BB, Tr.ite_decF, Tr.ite_Tdec, Tr.z_cast, Tr.z_ndec, Tr.ite_TF, Tr.ite_FT, Tr.bind_ite, Tr.aNil_ev, Tr.fCons'_ev, Tr.fCons_ev, Tr.aCons_ev, Tr.fCall'_ev, Tr.fCall_ev, Tr.dCall_ev, Tr.wb_nil, Tr.wb_none, Tr.fWb_ev, Tr.wb_some, Tr.fMeth'_ev, Tr.fMeth_ev, Tr.dMeth_ev, Tr.fMake'_ev, Tr.fMake_ev, Tr.dMake_ev, Tr.fSeq_nx, Tr.fSeq_rt, Tr.fSeq_bk, Tr.fSeq_ct, Tr.dSeq_ev, Tr.fIf_ev, Tr.dIf_ev, Tr.fSet_ev, Tr.dSet_ev, Tr.fRet_ev, Tr.dRet_ev, Tr.fEx_ev, Tr.dEx_ev, Tr.dRetN_ev, Tr.dNx_ev, Tr.dBk_ev, Tr.dCt_ev, Tr.dFail_ev, Tr.fPut''_ev, Tr.fPut'_ev, Tr.fPut1_ev, Tr.fPut_ev, Tr.dPut_ev, Tr.fMut3_ev, Tr.fMut2_ev, Tr.fMut1_ev, Tr.fMut_ev, Tr.dMut_ev, Tr.fLst_ev, Tr.fTup_ev, Tr.dLst_ev, Tr.dTup_ev, Tr.dDic_ev, Tr.fBw_ev, Tr.bw_ev, Tr.fFz_ev, Tr.fz_ev, Tr.fAug''_ev, Tr.fAug'_ev, Tr.fAug_ev, Tr.dAug_ev, Tr.z_ex, Tr.z_exT, Tr.fRng_nat, Tr.dRng_ev, Tr.fIt'_ev, Tr.fIt_ev, Tr.dIt_ev, Tr.fFor_ev, Tr.dFor_ev, Tr.gN_ev, Tr.fG_ev, Tr.gT2_ev, Tr.gT2_mk1, Tr.dFr_nil, Tr.turn_ev, Tr.fFr_nx, Tr.fFr_ct, Tr.fFr_bk, Tr.fFr_rt, Tr.dFr_cons, Tr.fLc'_ev, Tr.fLc_ev, Tr.dLc_ev, Tr.dLr_nil, Tr.wipeT_nil, Tr.wipeT_cons, Tr.backT_nil, Tr.backT_cons, Tr.cleanAt_nil, Tr.cleanAt_cons, Tr.fFun_rt, Tr.fFun_nx, Tr.dFun_ev, Tr.outs_cons, Tr.outs_nil, Tr.frzs_nil, Tr.frzs_cons, Tr.z_frz1, Tr.z_frz2, Tr.z_frz3, Tr.z_frz4, Tr.z_frz5, Tr.z_frz6, Tr.z_frz7, Tr.z_frz8, Tr.z_frz9, Tr.z_frz10, Tr.z_frz11, Tr.z_cln1, Tr.z_cln2, Tr.z_cln3, Tr.z_cln4, Tr.z_cln5, Tr.z_cln6, Tr.z_cln7, Tr.z_cln8, Tr.z_cln9, Tr.z_cln10, Tr.z_clns1, Tr.z_clns2, Tr.z_clns3, Tr.z_pure1, Tr.z_pure2, Tr.z_pure3, Tr.z_pure4, Tr.z_pure5, Tr.z_pure6, Tr.z_pure7, Tr.z_lfI, Tr.z_li, Tr.z_add, Tr.z_sub, Tr.z_mulr, Tr.z_mod, Tr.z_div, Tr.z_lt, Tr.z_le, Tr.z_gt, Tr.z_ge, Tr.z_eq, Tr.z_ne, Tr.z_neg, Tr.z_eqli, Tr.z_neli, Tr.z_eqnil, Tr.z_nenil, Tr.z_inli, Tr.z_ninli, Tr.z_indk, Tr.z_nindk, Tr.z_ll, Tr.z_mks, Tr.z_nil, Tr.z_appll, Tr.z_int1, Tr.z_int2, Tr.z_len1, Tr.z_len2, Tr.z_len3, Tr.z_len4, Tr.z_len5, Tr.z_len6, Tr.z_len7, Tr.z_not, Tr.z_isi1, Tr.z_isi2, Tr.z_isi3, Tr.z_isi4, Tr.z_isi5, Tr.z_isi6, Tr.z_list1, Tr.z_sort1, Tr.z_sort2, Tr.z_app1, Tr.z_app2, Tr.z_pop1, Tr.z_clr1, Tr.z_clr2, Tr.z_rev1, Tr.z_ext1, Tr.z_cat1, Tr.z_it1, Tr.z_it2, Tr.z_it3, Tr.z_it4, Tr.z_ty1, Tr.z_ty2, Tr.z_ty3, Tr.z_ty4, Tr.z_fst, Tr.z_fma, Tr.z_ffa, Tr.z_ins1, Tr.z_ins2, Tr.z_ins3, Tr.z_ins4, Tr.z_ins5, Tr.z_ixli, Tr.z_ixll, Tr.z_ixlast, Tr.z_setdk, Tr.fDic1_ev, Tr.fDic1'_ev, Tr.dDic1_ev, Tr.fLRg_nat, Tr.dLRg_ev, Tr.z_len8, Tr.z_bind_some, Tr.z_get0, Tr.z_gets, Tr.z_getD0, Tr.z_getDs, Tr.z_set0, Tr.z_sets, Tr.z_app, Tr.z_nil_app, Tr.z_app_nil, Tr.z_map0, Tr.z_mapc, Tr.z_rep0, Tr.z_reps, Tr.z_lenc, Tr.z_lenn, Tr.z_c0, Tr.z_c1, Tr.z_c2, Tr.z_c3, Tr.z_okoV, Tr.z_okrk, Tr.z_okrl, Tr.z_frzoV, Tr.z_clnoV, Tr.z_pureoV, Tr.z_frzrk, Tr.z_clnrk, Tr.z_frzrl, Tr.z_clnrl, Tr.z_ixrl, Tr.z_lenrl, Tr.z_isirl, Tr.z_tyrl, Tr.z_clrrl, Tr.z_oVs, Tr.z_oVn, Tr.z_rks, Tr.z_rkn, Tr.z_ixt0, Tr.z_ixt1, Tr.z_isN1, Tr.z_isN2, Tr.z_isN3, Tr.z_notN1, Tr.z_notN2, Tr.z_notN3, Tr.z_isN4, Tr.z_notN4, Tr.z_isN5, Tr.z_notN5, Tr.fCh3_ev, Tr.fCh2_ev, Tr.fCh1_ev, Tr.z_ch, Tr.z_okdls, Tr.z_frzdls, Tr.z_clndls, Tr.z_ixdls, Tr.z_indls, Tr.z_okdds, Tr.z_frzdds, Tr.z_clndds, Tr.z_ixdds, Tr.fAsg'_ev, Tr.fAsg_ev, Tr.dAsg_ev, Tr.fBwS_ev, Tr.bwS_ev, Tr.fPt_ev, Tr.ptT_no, Tr.ptT_so, Tr.fSl2_ev, Tr.fSl1_ev, Tr.fSl_ev, Tr.dSl_ev, Tr.z_slli, Tr.z_cutTail, Tr.z_cutInit, Tr.z_okst, Tr.z_frzst, Tr.z_clnst, Tr.z_purest, Tr.z_addst, Tr.z_lenst, Tr.z_inst1, Tr.z_ninst1, Tr.z_ixst, Tr.eqL_self, Tr.eqL_nn, Tr.eqL_nc, Tr.eqL_cn, Tr.eqL_cc, Tr.z_eqst, Tr.z_nest, Tr.z_insl, Tr.z_ninsl, Tr.z_sq1, Tr.z_sq2, Tr.z_sq3, Tr.z_itst, Tr.z_isist, Tr.z_slst, Tr.z_cutOne, Tr.lit_all, Tr.lit_not, Tr.lit_both, Tr.lit_either, Tr.lit_somenext, Tr.lit_eachnext, Tr.lit_sometill, Tr.lit_eachtill, Tr.lit_someever, Tr.lit_eachever, Tr.lit_somealways, Tr.lit_eachalways, Tr.lit_mark, Tr.lit_loop, Tr.lit_rank, Tr.lit_walk, Tr.lit_shut, Tr.lit_out, Tr.lit_here, Tr.lit_dead, Tr.lit_plain, Tr.lit_step, Tr.lit_none, Tr.lit_fair, Tr.lit_answer, Tr.lit_p, Tr.lit_wet, Tr.lit_darkness, Tr.lit_x, Tr.lit_q, Tr.lit_empty, Tr.lit_in, Tr.lit_letters, Tr.z_kept, Tr.z_catX12, Tr.z_catT12, Tr.z_ixt2, ↓reduceIte, ite_true, ite_false, Nat.reduceAdd, Nat.reduceSub, Nat.reduceLT, Nat.reduceLeDiff, Nat.zero_add, Nat.lt_add_one, Nat.zero_lt_succ, decide_true, decide_false, decide_eq_true_eq, decide_eq_false_iff_not, Bool.not_eq_true, Bool.not_eq_false, Bool.not_true, Bool.not_false, Bool.not_eq_true', Bool.and_true, Bool.true_and, Bool.and_self, Bool.and_eq_true, Bool.or_eq_true, not_true_eq_false, not_false_eq_true, eq_self, and_self, and_true, true_and, false_and, and_false, or_true, true_or, or_false, false_or, reduceCtorEq, Bool.false_eq_true, Int.toNat_natCast, Int.reduceToNat, Int.reduceEq, Int.reduceLT, Int.reduceLE, Int.reduceNeg, Int.reduceAdd, Int.reduceSub, Int.reduceMul, List.length_map, Bool.not_not, Bool.not_eq_eq_eq_not, Decidable.not_not, Nat.reduceEqDiff, Bool.false_and, Bool.and_false, Option.isSome_some, Option.isSome_none, Option.isNone_some, Option.isNone_none, $ls,*]) }

def wLoop : List Nat := [108, 111, 111, 112]
def wRank : List Nat := [114, 97, 110, 107]
def lpT (o : Bool) (P L : List Int) : T := .nd false .tup [tx [108, 111, 111, 112], li o P, li o L]
def raT (r : Int × Option Int) : T := .nd false .tup [tx [114, 97, 110, 107], .lf (.int r.1), oV r.2]
def lvT (o : Bool) (V : List Int) (PF LF : Int → List Int) (RF : Int → Int × Option Int) (x : Int) : T := if x ∈ V then lpT o (PF x) (LF x) else raT (RF x)
def lv (o : Bool) (n : Nat) (V : List Int) (PF LF : Int → List Int) (RF : Int → Int × Option Int) : T := tl o n (lvT o V PF LF RF)
theorem lvT_in {o V PF LF RF} {x : Int} (h : x ∈ V) : lvT o V PF LF RF x = .nd false .tup [tx [108, 111, 111, 112], li o (PF x), li o (LF x)] := if_pos h
theorem lvT_out {o V PF LF RF} {x : Int} (h : x ∉ V) : lvT o V PF LF RF x = .nd false .tup [tx [114, 97, 110, 107], .lf (.int (RF x).1), oV (RF x).2] := if_neg h
theorem frz_lvT (o V PF LF RF) (x : Int) : frz (lvT o V PF LF RF x) = lvT false V PF LF RF x := by
  by_cases h : x ∈ V
  · rw [lvT_in h, lvT_in h]; simp only [frz_nd, frzs_cons, frzs_nil, z_frzst, frz_li]
  · rw [lvT_out h, lvT_out h]; simp only [frz_nd, frzs_cons, frzs_nil, z_frzst, frz_lf, frz_oV]
theorem ok_lv (o n V PF LF RF) : okT (lv o n V PF LF RF) = some (lv o n V PF LF RF) := rfl
theorem frz_lv (o n V PF LF RF) : frz (lv o n V PF LF RF) = lv false n V PF LF RF := by
  unfold lv; rw [frz_tl]; congr 1; exact funext fun x => frz_lvT o V PF LF RF x
theorem cln_lv (n V PF LF RF) : cln (lv false n V PF LF RF) = true := by rw [← frz_lv true]; exact cln_frz _
theorem len_lv (o n V PF LF RF) : oLen (lv o n V PF LF RF) = some (.lf (.int n)) := len_tl o n _
theorem ix_lv (o n V PF LF RF) (i : Int) (h0 : 0 ≤ i) (h : i.toNat < n) : oIx (lv o n V PF LF RF) (.lf (.int i)) = some (lvT o V PF LF RF i) := ix_tl o n _ i h0 h
theorem isi_lv (o n V PF LF RF) : oIsi "list" (lv o n V PF LF RF) = some (.lf (.bl true)) := isi_list o _
theorem ty_lv (o n V PF LF RF) : isTy "list" (lv o n V PF LF RF) = true := rfl
theorem clr_lv (n V PF LF RF) : mClear (lv true n V PF LF RF) [] = some (.lf .non, li true []) := rfl
theorem it_lv (o n V PF LF RF) : itemsL (lv o n V PF LF RF) = some ((rgI n).map (lvT false V PF LF RF)) := by
  show itemsL (tl o n _) = _
  rw [it_tl]; congr 1; exact List.map_congr_left fun x _ => frz_lvT o V PF LF RF x
theorem rgI_at {n i : Nat} (h : i < (rgI n).length) : (rgI n)[i] = (i : Int) := by simp [rgI]
theorem lives_ok {n : Nat} (o : Bool) (rs ms fs) (hrs : Stps n rs) (hfs : Frs n fs) (f6 : fs.length ≤ 6) :
    ∃ V PF LF, CoreOf n rs fs (rgI n) V ∧ (∀ x ∈ V, ∃ c, Wlk rs (PF x) x c ∧ (∀ z ∈ PF x, z ∈ V) ∧ Lp rs fs V (LF x) c ∧ (PF x).length ≤ 60 ∧ (LF x).length ≤ 61 + 60 * fs.length) ∧
      m_lives [mch o rs ms fs] = some (lv true n V PF LF (RK n rs fs (rgI n)), [mch false rs ms fs]) := by
  have n60 := hrs.le
  have hn := hrs.len
  obtain ⟨V, hV, v1⟩ := alive_ok false rs ms fs hrs hfs
  have rk := ranks_ok false rs ms fs hrs hfs (rgI_asc n) hV false
  obtain ⟨G, hG⟩ := Classical.axiomOfChoice (r := fun (x : Int) (G : List Int × List Int × Int) => x ∈ V → m_loop_within [mch false rs ms fs, li false V, .lf (.int x)] = some (.nd false .tup [li true G.1, li true G.2.1], [.no, .no, .no]) ∧ Wlk rs G.1 x G.2.2 ∧ (∀ z ∈ G.1, z ∈ V) ∧ Lp rs fs V G.2.1 G.2.2 ∧ G.1.length ≤ 60 ∧ G.2.1.length ≤ 61 + 60 * fs.length) fun x => by
    by_cases h : x ∈ V
    · obtain ⟨P, L, c, h1, h2, h3, h4, h5, h6⟩ := loop_within_ok false rs ms fs hrs hfs f6 hV.asc hV.good x h
      exact ⟨(P, L, c), fun _ => ⟨h1, h2, h3, h4, h5, h6⟩⟩
    · exact ⟨([], [], 0), fun z => (h z).elim⟩
  refine ⟨V, fun x => (G x).1, fun x => (G x).2.1, hV, fun x hx => ⟨(G x).2.2, (hG x hx).2⟩, ?_⟩
  generalize hPF : (fun x => (G x).1) = PF
  generalize hLF : (fun x => (G x).2.1) = LF
  have GP : ∀ x, (G x).1 = PF x := fun x => by rw [← hPF]
  have GL : ∀ x, (G x).2.1 = LF x := fun x => by rw [← hLF]
  have hG' : ∀ x ∈ V, m_loop_within [mch false rs ms fs, li false V, .lf (.int x)] = some (.nd false .tup [li true (PF x), li true (LF x)], [.no, .no, .no]) := fun x hx => by
    have := (hG x hx).1
    rwa [GP, GL] at this
  obtain ⟨env', h1, x3, x5, rfl⟩ := lp_li (dg := gN 5) (d := l_lives_1) (rgI n) (fun i env => ∃ x3 x5, env = e_lives (mch false rs ms fs) .no (rl true n (rkF n rs fs (rgI n) V)) (li x3 V) (tl true i (lvT true V PF LF (RK n rs fs (rgI n)))) x5) (e_lives (mch false rs ms fs) .no (rl true n (rkF n rs fs (rgI n) V)) (li true V) (li true []) .no) ⟨_, _, by rw [tl_nil (lvT true V PF LF (RK n rs fs (rgI n)))]⟩ (by
    rintro i hi env ⟨x3, x5, rfl⟩
    have ei := rgI_at hi
    have hin : i < n := by rw [rgI_len] at hi; exact hi
    have hb : ((i : Int)) ∈ rgI n := mem_rgI.mpr (by omega)
    have ap := ap_tl i (lvT true V PF LF (RK n rs fs (rgI n))) (by omega)
    have ok : ∀ f : Int → T, okT (tl true i f) = some (tl true i f) := fun _ => rfl
    have ty : ∀ f : Int → T, isTy "list" (tl true i f) = true := fun _ => rfl
    rw [ei]
    by_cases h : (i : Int) ∈ V
    · have ex : rkF n rs fs (rgI n) V i = none := if_neg fun z => z.2 h
      have lw := hG' i h
      rw [lvT_in h] at ap
      exists l_lives_1, ex, lw, ap, ok, ty
      exact ⟨_, _, rfl⟩
    · have ex : rkF n rs fs (rgI n) V i = some (RK n rs fs (rgI n) i) := if_pos ⟨hb, h⟩
      rw [lvT_out h] at ap
      generalize RK n rs fs (rgI n) = RF at ex ap ok ty ⊢
      have er : rkT (some (RF i)) = .nd false .tup [.lf (.int (RF i).1), oV (RF i).2] := rfl
      exists l_lives_1, ex, er, ap, ok, ty
      exact ⟨_, _, rfl⟩)
  rw [rgI_len] at h1
  have h1' : dFr (gN 5) l_lives_1 ((rgI n).map lfI) [mch false rs ms fs, .no, rl true n (rkF n rs fs (rgI n) V), li true V, li true [], .no] = some (.nx, [mch false rs ms fs, .no, rl true n (rkF n rs fs (rgI n) V), li x3 V, lv true n V PF LF (RK n rs fs (rgI n)), x5]) := h1
  exists m_lives, bn_lives, m_Machine_many, bn_Machine_many, hn, rk, v1, h1', ok_lv
end Pm


set_option Elab.async false
set_option linter.all false
set_option maxRecDepth 100000
set_option maxHeartbeats 4000000
/-! PB: what the laws of sets build: cells, steps, sets. -/
namespace Pm
open PySem PySem.Spec PyProof.Rows L2 Tr Wk

/-- the script's cell -/
def cell (ns : List Int) (k : Nat) : Int := ns.getD k 0
theorem cell_at (ns : List Int) (k : Nat) : m_law_cell_at [scrT ns, I k] = some (I (cell ns k), [scrT ns, I k]) := by
  by_cases h : k < ns.length
  · have e1 : oIx (scrT ns) (I (k : Int)) = some (I ns[k]) := oIx_scr ns k (by omega) (by simpa using h)
    have e2 : cell ns k = ns[k] := by simp [cell, h]
    simp only [scrT_eq] at e1 ⊢
    simp [m_law_cell_at, b_law_cell_at, dFun, dSeq, dIf, vr, o2V, o1V, gV, oLen, oLt, oI, dRet, re, dNx, gC, outs, e1, e2, h, cln_lf]
  · have e2 : cell ns k = 0 := by simp [cell]; rw [List.getElem?_eq_none (by omega)]; rfl
    simp [m_law_cell_at, b_law_cell_at, dFun, dSeq, dIf, vr, o2V, o1V, gV, oLen_scr, oLt, oI, dRet, re, dNx, gC, outs, e2, h, cln_lf, scrT_eq, oLen]
end Pm


set_option Elab.async false
set_option linter.all false
set_option maxRecDepth 100000
set_option maxHeartbeats 4000000
/-! PB: what the laws of sets build: cells, steps, sets. -/
namespace Pm
open PySem PySem.Spec PyProof.Rows L2 Tr Wk

/-- the script's cell -/
theorem mix (c k : Int) (hk : -1000000 < k ∧ k < 1000000) : ∃ r : Int, 0 ≤ r ∧ m_law_mix [I c, I k] = some (I r, [I c, I k]) := by
  let one := (c * (48271 + 2 * k) + 7919 * k + 5) % 99991
  have h1 := Int.emod_nonneg (c * (48271 + 2 * k) + 7919 * k + 5) (b := 99991) (by omega)
  have h2 := Int.emod_lt_of_pos (c * (48271 + 2 * k) + 7919 * k + 5) (b := 99991) (by omega)
  refine ⟨one * (one + 3 + k) % 99989, Int.emod_nonneg _ (by omega), E_fun (e := [I c, I k, I one]) rfl ?_ rfl⟩
  have s : dSet 2 (re (vr (o2V oMod (o2V oAdd (o2V oAdd (o2V oMul (gV 0) (o2V oAdd (gC (.int 48271)) (o2V oMul (gC (.int 2)) (gV 1)))) (o2V oMul (gC (.int 7919)) (gV 1))) (gC (.int 5))) (gC (.int 99991))))) [I c, I k, .no] = some (.nx, [I c, I k, I one]) :=
    E_set (E_re (E_vr (E_2V (E_2V (E_2V (E_2V rfl (E_2V rfl (E_2V rfl rfl (I_mul (by omega))) (I_add _ _)) (I_mul (by omega))) (E_2V rfl rfl (I_mul (by omega))) (I_add _ _)) rfl (I_add _ _)) rfl (I_mod (by omega)))) (cln_lf _)) (by simp) rfl
  refine (E_seq s).trans (E_ret (E_re (E_vr (E_2V (E_2V rfl (E_2V (E_2V rfl rfl (I_add _ _)) rfl (I_add _ _)) (I_mul ?_)) rfl (I_mod (by omega)))) (cln_lf _)))
  constructor
  · show -(2 ^ 64) < one + 3 + k; omega
  · show one + 3 + k < 2 ^ 64; omega
/-- one more of a row -/
theorem step_one (ns : List Int) (n st k : Nat) (c : Int) (acc row : List Int) (x2 x7 : T) (hn0 : 0 < n) (hn : n ≤ 60) (hst : st < n) (hk : k < 3) (S X8 : T) (hrow : row.Nodup ∧ (∀ x ∈ row, 0 ≤ x ∧ x < n) ∧ row.length ≤ k ∧ (0 < k → row ≠ [])) :
    ∃ (row' : List Int) (x7' : T), (row'.Nodup ∧ (∀ x ∈ row', 0 ≤ x ∧ x < (n : Int)) ∧ row'.length ≤ k + 1 ∧ row' ≠ []) ∧
      (dSeq (dSet 7 (re (o2v oMod (dCall m_law_mix [none, none] [] (aCons (re (vr (o2V oAdd (gV 4) (gV 6)))) (aCons (re (vr (o2V oAdd (o2V oAdd (gV 3) (o2V oMul (gC (.int 70)) (gV 6))) (gC (.int 70))))) aNil))) (gV 1)))) (dSeq (dIf (o2v oEq (o2v oMod (dCall m_law_mix [none, none] [] (aCons (gS 4) (aCons (re (vr (o2V oAdd (o2V oAdd (gC (.int 300)) (gV 3)) (gV 6)))) aNil))) (gC (.int 3))) (gC (.int 0))) (dSet 7 (re (vr (o2V oMod (o2V oAdd (gV 3) (gC (.int 1))) (gV 1))))) dNx) (dIf (vr (o2V oNotIn (gV 7) (gV 5))) (dEx (dMut "list" 5 mAppend (aCons (gM 7) aNil))) dNx)))
        [S, I n, x2, I st, I c, li true row, I k, x7] = some (.nx, [S, I n, x2, I st, I c, li true row', I k, x7']) := by
  obtain ⟨a, ha, ea⟩ := mix (c + k) (st + 70 * k + 70) (by omega)
  obtain ⟨b, hb, eb⟩ := mix c (300 + st + k) (by omega)
  have s1 : dSet 7 (re (o2v oMod (dCall m_law_mix [none, none] [] (aCons (re (vr (o2V oAdd (gV 4) (gV 6)))) (aCons (re (vr (o2V oAdd (o2V oAdd (gV 3) (o2V oMul (gC (.int 70)) (gV 6))) (gC (.int 70))))) aNil))) (gV 1))) [S, I n, x2, I st, I c, li true row, I k, x7] = some (.nx, [S, I n, x2, I st, I c, li true row, I k, I (a % n)]) :=
    E_set (E_re (E_2v (E_call (E_cons (E_re (E_vr (E_2V rfl rfl (I_add _ _))) (cln_lf _)) (E_cons (E_re (E_vr (E_2V (E_2V rfl (E_2V rfl rfl (I_mul (by omega))) (I_add _ _)) rfl (I_add _ _))) (cln_lf _)) rfl)) ea rfl) rfl (I_mod (by omega))) (cln_lf _)) (by simp) rfl
  rw [E_seq s1]
  have t : ∀ x7 : T, o2v oEq (o2v oMod (dCall m_law_mix [none, none] [] (aCons (gS 4) (aCons (re (vr (o2V oAdd (o2V oAdd (gC (.int 300)) (gV 3)) (gV 6)))) aNil))) (gC (.int 3))) (gC (.int 0)) [S, I n, x2, I st, I c, li true row, I k, x7] = some (B (decide (b % 3 = 0)), [S, I n, x2, I st, I c, li true row, I k, x7]) := fun x7 =>
    E_2v (E_2v (E_call (E_cons (E_S (t := I c) rfl (frz_lf _) rfl) (E_cons (E_re (E_vr (E_2V (E_2V rfl rfl (I_add _ _)) rfl (I_add _ _))) (cln_lf _)) rfl)) eb rfl) rfl (I_mod (by omega))) rfl (I_eq _ _)
  have o : ∃ o : Int, (0 ≤ o ∧ o < n) ∧ dIf (o2v oEq (o2v oMod (dCall m_law_mix [none, none] [] (aCons (gS 4) (aCons (re (vr (o2V oAdd (o2V oAdd (gC (.int 300)) (gV 3)) (gV 6)))) aNil))) (gC (.int 3))) (gC (.int 0))) (dSet 7 (re (vr (o2V oMod (o2V oAdd (gV 3) (gC (.int 1))) (gV 1))))) dNx [S, I n, x2, I st, I c, li true row, I k, I (a % n)] = some (.nx, [S, I n, x2, I st, I c, li true row, I k, I o]) := by
    by_cases h : b % 3 = 0
    · refine ⟨((st : Int) + 1) % n, ⟨Int.emod_nonneg _ (by omega), Int.emod_lt_of_pos _ (by omega)⟩, ?_⟩
      have t' := t (I (a % n))
      rw [decide_eq_true h] at t'
      exact (E_ifT t').trans (E_set (E_re (E_vr (E_2V (E_2V rfl rfl (I_add _ _)) rfl (I_mod (by omega)))) (cln_lf _)) (by simp) rfl)
    · refine ⟨a % n, ⟨Int.emod_nonneg _ (by omega), Int.emod_lt_of_pos _ (by omega)⟩, ?_⟩
      have t' := t (I (a % n))
      rw [decide_eq_false h] at t'
      exact (E_ifF t').trans rfl
  obtain ⟨o, ho, eo⟩ := o
  rw [E_seq eo]
  have t3 : vr (o2V oNotIn (gV 7) (gV 5)) [S, I n, x2, I st, I c, li true row, I k, I o] = some (B (!decide (o ∈ row)), [S, I n, x2, I st, I c, li true row, I k, I o]) := E_vr (E_2V rfl rfl (oNotIn_li _ _ _))
  obtain ⟨r1, r2, r3, r4⟩ := hrow
  by_cases h : o ∈ row
  · refine ⟨row, I o, ⟨r1, r2, by omega, fun e => by rw [e] at h; cases h⟩, ?_⟩
    rw [decide_eq_true h] at t3
    exact (E_ifF t3).trans rfl
  · refine ⟨row ++ [o], .no, ⟨?_, ?_, by simp; omega, by simp⟩, ?_⟩
    · rw [List.nodup_append]
      refine ⟨r1, by simp, fun x hx y hy e => ?_⟩
      have : y = o := by simpa using hy
      rw [← this, ← e] at h
      exact h hx
    · intro x hx
      rcases List.mem_append.mp hx with hx | hx
      · exact r2 x hx
      · have : x = o := by simpa using hx
        rw [this]; exact ho
    · rw [decide_eq_false h] at t3
      exact (E_ifT t3).trans (E_ex (E_mut (t0 := li true row) rfl rfl (E_cons (E_M (t := I o) rfl rfl) rfl) rfl (ap_li row o (by omega)) rfl))
theorem steps_by (ns : List Int) (n : Nat) (hn0 : 0 < n) (hn : n ≤ 60) (hns : ns.length ≤ 63) : ∃ rs, Stps n rs ∧ m_law_steps_by [scrT ns, I n] = some (ll true rs, [scrT ns, I n]) := by
  let inner : DS := (dSeq (dSet 7 (re (o2v oMod (dCall m_law_mix [none, none] [] (aCons (re (vr (o2V oAdd (gV 4) (gV 6)))) (aCons (re (vr (o2V oAdd (o2V oAdd (gV 3) (o2V oMul (gC (.int 70)) (gV 6))) (gC (.int 70))))) aNil))) (gV 1)))) (dSeq (dIf (o2v oEq (o2v oMod (dCall m_law_mix [none, none] [] (aCons (gS 4) (aCons (re (vr (o2V oAdd (o2V oAdd (gC (.int 300)) (gV 3)) (gV 6)))) aNil))) (gC (.int 3))) (gC (.int 0))) (dSet 7 (re (vr (o2V oMod (o2V oAdd (gV 3) (gC (.int 1))) (gV 1))))) dNx) (dIf (vr (o2V oNotIn (gV 7) (gV 5))) (dEx (dMut "list" 5 mAppend (aCons (gM 7) aNil))) dNx)))
  obtain ⟨env', h1, h2⟩ := dFr_inv (dg := gN 3) (d := (dSeq (dSet 4 (dCall m_law_cell_at [none, none] [] (aCons (gS 0) (aCons (re (vr (o2V oAdd (gC (.int 4)) (o2V oMod (gV 3) (o2V oMax (gC (.int 1)) (o2V oSub (o1V oLen (gV 0)) (gC (.int 4)))))))) aNil)))) (dSeq (dSet 5 (dLst aNil)) (dSeq (dFor (dRng (o2c oAdd (vr (gC (.int 1))) (o2v oMod (dCall m_law_mix [none, none] [] (aCons (gS 4) (aCons (gS 3) aNil))) (gC (.int 3))))) (gN 6) inner) (dEx (dMut "list" 2 mAppend (aCons (gM 5) aNil)))))))
    ((List.range n).map fun (k : Nat) => lfI k) (fun i env => ∃ acc x3 x4 x6 x7, env = [scrT ns, I n, ll true acc, x3, x4, .no, x6, x7] ∧ acc.length = i ∧ (∀ r ∈ acc, Okl n r) ∧ ∀ r ∈ acc, r ≠ [])
    [scrT ns, I n, ll true [], .no, .no, .no, .no, .no] ⟨[], .no, .no, .no, .no, rfl, rfl, by simp, by simp⟩ (by
      rintro i t env ht ⟨acc, x3, x4, x6, x7, rfl, hl, hok, hne⟩
      obtain ⟨hi, rfl⟩ := rng_get ht
      let d : Int := if (ns.length : Int) - 4 > 1 then (ns.length : Int) - 4 else 1
      have hd : 0 < d := by show 0 < (if (ns.length : Int) - 4 > 1 then (ns.length : Int) - 4 else 1); split <;> omega
      have a0 := Int.emod_nonneg (i : Int) (b := d) (by omega)
      have a1 := Int.emod_lt_of_pos (i : Int) hd
      let k0 : Nat := (4 + (i : Int) % d).toNat
      have ek : (4 + (i : Int) % d : Int) = (k0 : Nat) := by show _ = (((4 + (i : Int) % d).toNat : Nat) : Int); omega
      let c := cell ns k0
      have hmx : oMax (I 1) (I ((ns.length : Int) - 4)) = some (I d) := rfl
      have ec := cell_at ns k0
      rw [← ek] at ec
      have s4 : dSet 4 (dCall m_law_cell_at [none, none] [] (aCons (gS 0) (aCons (re (vr (o2V oAdd (gC (.int 4)) (o2V oMod (gV 3) (o2V oMax (gC (.int 1)) (o2V oSub (o1V oLen (gV 0)) (gC (.int 4)))))))) aNil))) [scrT ns, I n, ll true acc, I i, x4, .no, x6, x7] = some (.nx, [scrT ns, I n, ll true acc, I i, I c, .no, x6, x7]) :=
        E_set (E_call (E_cons (E_S (t := scrT ns) rfl (frz_scr ns) rfl) (E_cons (E_re (E_vr (E_2V rfl (E_2V rfl (E_2V rfl (E_2V (E_1V rfl (oLen_scr ns)) rfl (I_sub _ _)) hmx) (I_mod hd)) (I_add _ _))) (cln_lf _)) rfl)) ec rfl) (by simp) rfl
      have s5 : dSet 5 (dLst aNil) [scrT ns, I n, ll true acc, I i, I c, .no, x6, x7] = some (.nx, [scrT ns, I n, ll true acc, I i, I c, li true [], x6, x7]) := E_set (E_lst (ts := []) rfl (Nat.zero_le _)) (by simp) rfl
      obtain ⟨m, hm, em⟩ := mix c i (by omega)
      have m0 := Int.emod_nonneg m (b := 3) (by omega)
      have m1 := Int.emod_lt_of_pos m (b := 3) (by omega)
      let q : Nat := (1 + m % 3).toNat
      have eq : (1 + m % 3 : Int) = (q : Nat) := by show _ = (((1 + m % 3).toNat : Nat) : Int); omega
      have hq : 0 < q ∧ q ≤ 3 := by omega
      have rr : dRng (o2c oAdd (vr (gC (.int 1))) (o2v oMod (dCall m_law_mix [none, none] [] (aCons (gS 4) (aCons (gS 3) aNil))) (gC (.int 3)))) [scrT ns, I n, ll true acc, I i, I c, li true [], x6, x7] = some ((List.range q).map (fun (k : Nat) => lfI k), [scrT ns, I n, ll true acc, I i, I c, li true [], x6, x7]) := by
        refine E_rngN ?_ (by omega)
        rw [← eq]
        exact E_2c (E_vr rfl) (E_2v (E_call (E_cons (E_S (t := I c) rfl (frz_lf _) rfl) (E_cons (E_S (t := I i) rfl (frz_lf _) rfl) rfl)) em rfl) rfl (I_mod (by omega))) (cln_lf _) (I_add _ _)
      obtain ⟨env', g1, row, x6', x7', rfl, g2, g3, g4, g5⟩ := dFr_inv (dg := gN 6) (d := inner) ((List.range q).map fun (k : Nat) => lfI k)
        (fun j env => ∃ row x6 x7, env = [scrT ns, I n, ll true acc, I i, I c, li true row, x6, x7] ∧ row.Nodup ∧ (∀ x ∈ row, 0 ≤ x ∧ x < n) ∧ row.length ≤ j ∧ (0 < j → row ≠ []))
        [scrT ns, I n, ll true acc, I i, I c, li true [], x6, x7] ⟨[], x6, x7, rfl, by simp, by simp, by simp, by simp⟩ (by
          rintro j t env ht ⟨row, x6, x7, rfl, r1, r2, r3, r4⟩
          obtain ⟨hj, rfl⟩ := rng_get ht
          obtain ⟨row', x7', ⟨q1, q2, q3, q4⟩, e⟩ := step_one ns n i j c [] row (ll true acc) x7 hn0 hn hi (by omega) (scrT ns) .no ⟨r1, r2, r3, r4⟩
          exact ⟨[scrT ns, I n, ll true acc, I i, I c, li true row, I j, x7], _, rfl, .inl e, row', _, _, rfl, q1, q2, q3, fun _ => q4⟩)
      refine ⟨[scrT ns, I n, ll true acc, I i, x4, .no, x6, x7], [scrT ns, I n, ll true (acc ++ [row]), I i, I c, .no, x6', x7'], rfl, .inl ?_, _, _, _, _, _, rfl, by simp [hl], ?_, ?_⟩
      · rw [E_seq s4, E_seq s5, E_seq ((E_for rr).trans g1)]
        exact E_ex (E_mut (t0 := ll true acc) rfl rfl (E_cons (E_M (t := li true row) rfl rfl) rfl) rfl (ap_ll acc row (by omega)) rfl)
      · intro r hr
        rcases List.mem_append.mp hr with h | h
        · exact hok r h
        · have e : r = row := by simpa using h
          rw [e]
          refine ⟨g2, ?_, g3⟩
          have : (List.map (fun (k : Nat) => lfI k) (List.range q)).length = q := by simp
          omega
      · intro r hr
        rcases List.mem_append.mp hr with h | h
        · exact hne r h
        · have e : r = row := by simpa using h
          rw [e]
          exact g5 (by simp; omega))
  obtain ⟨acc, x3, x4, x6, x7, rfl, hl, hok, hne⟩ := h2
  refine ⟨acc, ⟨by simpa using hl, hn0, hn, hok, hne⟩, ?_⟩
  have b : b_law_steps_by [scrT ns, I n, .no, .no, .no, .no, .no, .no] = some (.rt (ll true acc), [scrT ns, I n, .no, x3, x4, .no, x6, x7]) := by
    unfold b_law_steps_by
    rw [E_seq (E_set (E_lst (ts := []) rfl (Nat.zero_le _)) (by simp) rfl)]
    have hr : dRng (vr (gV 1)) [scrT ns, I n, ll true [], .no, .no, .no, .no, .no] = some ((List.range n).map (fun (k : Nat) => lfI k), [scrT ns, I n, ll true [], .no, .no, .no, .no, .no]) := E_rngN (n := n) (E_vr rfl) (by omega)
    show dSeq _ _ [scrT ns, I n, ll true [], .no, .no, .no, .no, .no] = _
    rw [E_seq ((E_for hr).trans h1)]
    exact E_ret (E_M (t := ll true acc) rfl rfl)
  exact E_fun rfl b rfl
theorem p18x : ∃ P : Int, oPow (I 10) (I 18) = some (I P) := by
  refine ⟨(10 : Int) ^ (18 : Int).toNat, ?_⟩
  unfold oPow oI
  simp only []
  rw [if_pos (by simp)]
theorem set_by (c : Int) (n : Nat) (hn : n ≤ 60) (w : Int) : ∃ xs, Asc n xs ∧ m_law_set_by [I c, I n, I w] = some (li true xs, [I c, I n, I w]) := by
  obtain ⟨P, hP⟩ := p18x
  -- the rest at the begin
  have pre : ∃ r x5, dIf (vr (o2V oEq (o2V oMod (gV 0) (gC (.int 2))) (gC (.int 1)))) (dFor (dRng (vr (gV 1))) (gN 5) (dSet 4 (re (vr (o2V oDiv (gV 4) (gC (.int 6))))))) dNx [I c, I n, I w, li true [], I (c / 216), .no, .no] = some (.nx, [I c, I n, I w, li true [], I r, x5, .no]) := by
    have t : vr (o2V oEq (o2V oMod (gV 0) (gC (.int 2))) (gC (.int 1))) [I c, I n, I w, li true [], I (c / 216), .no, .no] = some (B (decide (c % 2 = 1)), [I c, I n, I w, li true [], I (c / 216), .no, .no]) := E_vr (E_2V (E_2V rfl rfl (I_mod (by omega))) rfl (I_eq _ _))
    by_cases h : c % 2 = 1
    · rw [decide_eq_true h] at t
      obtain ⟨env', h1, r, x5, rfl⟩ := dFr_inv (dg := gN 5) (d := (dSet 4 (re (vr (o2V oDiv (gV 4) (gC (.int 6))))))) ((List.range n).map fun (k : Nat) => lfI k) (fun i env => ∃ r x5, env = [I c, I n, I w, li true [], I r, x5, .no])
        [I c, I n, I w, li true [], I (c / 216), .no, .no] ⟨_, _, rfl⟩ (by
          rintro i t env ht ⟨r, x5, rfl⟩
          obtain ⟨hi, rfl⟩ := rng_get ht
          exact ⟨[I c, I n, I w, li true [], I r, I i, .no], [I c, I n, I w, li true [], I (r / 6), I i, .no], rfl, .inl (E_set (E_re (E_vr (E_2V rfl rfl (I_div (by omega)))) (cln_lf _)) (by simp) rfl), _, _, rfl⟩)
      exact ⟨r, x5, (E_ifT t).trans ((E_for (E_rngN (d := vr (gV 1)) (n := n) (E_vr rfl) (by omega))).trans h1)⟩
    · rw [decide_eq_false h] at t
      exact ⟨_, _, (E_ifF t).trans rfl⟩
  obtain ⟨r, x5, hpre⟩ := pre
  obtain ⟨env', h1, xs, r', x5', x6', rfl, g1, g2⟩ := dFr_inv (dg := gN 5) (d := (dSeq (dSet 6 (dCall m_law_mix [none, none] [] (aCons (gS 0) (aCons (re (vr (o2V oAdd (gV 5) (gC (.int 1))))) aNil)))) (dSeq (dIf (vr (o2V oGe (gV 0) (o2V oPow (gC (.int 10)) (gC (.int 18))))) (dSet 6 (gS 4)) dNx) (dSeq (dIf (vr (o2V oLt (o2V oMod (gV 6) (gC (.int 6))) (gV 2))) (dEx (dMut "list" 3 mAppend (aCons (gM 5) aNil))) dNx) (dSet 4 (re (vr (o2V oDiv (gV 4) (gC (.int 6))))))))))
    ((List.range n).map fun (k : Nat) => lfI k) (fun i env => ∃ xs r x5 x6, env = [I c, I n, I w, li true xs, I r, x5, x6] ∧ xs.Pairwise (· < ·) ∧ ∀ x ∈ xs, 0 ≤ x ∧ x < (i : Int))
    [I c, I n, I w, li true [], I r, x5, .no] ⟨[], r, x5, .no, rfl, List.Pairwise.nil, by simp⟩ (by
      rintro i t env ht ⟨xs, r, x5, x6, rfl, q1, q2⟩
      obtain ⟨hi, rfl⟩ := rng_get ht
      have ql : xs.length ≤ i := sub_len (q1.imp fun h e => by omega) q2
      obtain ⟨m, hm, em⟩ := mix c (i + 1) (by omega)
      have s1 : dSet 6 (dCall m_law_mix [none, none] [] (aCons (gS 0) (aCons (re (vr (o2V oAdd (gV 5) (gC (.int 1))))) aNil))) [I c, I n, I w, li true xs, I r, I i, x6] = some (.nx, [I c, I n, I w, li true xs, I r, I i, I m]) :=
        E_set (E_call (E_cons (E_S (t := I c) rfl (frz_lf _) rfl) (E_cons (E_re (E_vr (E_2V rfl rfl (I_add _ _))) (cln_lf _)) rfl)) em rfl) (by simp) rfl
      have s2 : ∃ m', dIf (vr (o2V oGe (gV 0) (o2V oPow (gC (.int 10)) (gC (.int 18))))) (dSet 6 (gS 4)) dNx [I c, I n, I w, li true xs, I r, I i, I m] = some (.nx, [I c, I n, I w, li true xs, I r, I i, I m']) := by
        have t : vr (o2V oGe (gV 0) (o2V oPow (gC (.int 10)) (gC (.int 18)))) [I c, I n, I w, li true xs, I r, I i, I m] = some (B (decide (P ≤ c)), [I c, I n, I w, li true xs, I r, I i, I m]) := E_vr (E_2V rfl (E_2V rfl rfl hP) (I_ge _ _))
        by_cases h : P ≤ c
        · rw [decide_eq_true h] at t
          exact ⟨r, (E_ifT t).trans (E_set (E_S (t := I r) rfl (frz_lf _) rfl) (by simp) rfl)⟩
        · rw [decide_eq_false h] at t
          exact ⟨m, (E_ifF t).trans rfl⟩
      obtain ⟨m', s2⟩ := s2
      have t3 : vr (o2V oLt (o2V oMod (gV 6) (gC (.int 6))) (gV 2)) [I c, I n, I w, li true xs, I r, I i, I m'] = some (B (decide (m' % 6 < w)), [I c, I n, I w, li true xs, I r, I i, I m']) := E_vr (E_2V (E_2V rfl rfl (I_mod (by omega))) rfl (I_lt _ _))
      have s3 : ∃ xs' x5', (xs'.Pairwise (· < ·) ∧ ∀ x ∈ xs', 0 ≤ x ∧ x < ((i + 1 : Nat) : Int)) ∧ dIf (vr (o2V oLt (o2V oMod (gV 6) (gC (.int 6))) (gV 2))) (dEx (dMut "list" 3 mAppend (aCons (gM 5) aNil))) dNx [I c, I n, I w, li true xs, I r, I i, I m'] = some (.nx, [I c, I n, I w, li true xs', I r, x5', I m']) := by
        by_cases h : m' % 6 < w
        · rw [decide_eq_true h] at t3
          refine ⟨xs ++ [(i : Int)], .no, ⟨?_, ?_⟩, (E_ifT t3).trans (E_ex (E_mut (t0 := li true xs) rfl rfl (E_cons (E_M (t := I i) rfl rfl) rfl) rfl (ap_li xs i (by omega)) rfl))⟩
          · rw [List.pairwise_append]
            refine ⟨q1, by simp, fun x hx y hy => ?_⟩
            have : y = i := by simpa using hy
            have := q2 x hx
            omega
          · intro x hx
            rcases List.mem_append.mp hx with hx | hx
            · have := q2 x hx; omega
            · have : x = i := by simpa using hx
              omega
        · rw [decide_eq_false h] at t3
          exact ⟨xs, I i, ⟨q1, fun x hx => by have := q2 x hx; omega⟩, (E_ifF t3).trans rfl⟩
      obtain ⟨xs', x5', ⟨w1, w2⟩, s3⟩ := s3
      refine ⟨[I c, I n, I w, li true xs, I r, I i, x6], [I c, I n, I w, li true xs', I (r / 6), x5', I m'], rfl, .inl ?_, xs', _, _, _, rfl, w1, w2⟩
      rw [E_seq s1, E_seq s2, E_seq s3]
      exact E_set (E_re (E_vr (E_2V rfl rfl (I_div (by omega)))) (cln_lf _)) (by simp) rfl)
  refine ⟨xs, ⟨g1, by simpa using g2⟩, ?_⟩
  have b : b_law_set_by [I c, I n, I w, .no, .no, .no, .no] = some (.rt (li true xs), [I c, I n, I w, .no, I r', x5', x6']) := by
    unfold b_law_set_by
    rw [E_seq (E_set (E_lst (ts := []) rfl (Nat.zero_le _)) (by simp) rfl)]
    refine (E_seq (e := [I c, I n, I w, li true [], I (c / 216), .no, .no]) (E_set (E_re (E_vr (E_2V rfl rfl (I_div (by omega)))) (cln_lf _)) (by simp) rfl)).trans ?_
    refine (E_seq hpre).trans ?_
    refine (E_seq ((E_for (E_rngN (d := vr (gV 1)) (n := n) (E_vr rfl) (by omega))).trans h1)).trans ?_
    exact E_ret (E_M (t := li true xs) rfl rfl)
  exact E_fun rfl b rfl
end Pm


set_option Elab.async false
set_option linter.all false
set_option maxRecDepth 100000
set_option maxHeartbeats 4000000
/-! PF: fair sets by a cell; small machines. -/
namespace Pm
open PySem PySem.Spec PyProof.Rows L2 Tr Wk
local macro_rules | `(tactic| exists $es,*) => do { let ls ← es.getElems.mapM fun e => `(Lean.Parser.Tactic.simpLemma| $e:term); `(tactic| simp -implicitDefEqProofs (disch := (first | assumption | omega | decide | (simp only [List.length_cons, List.length_nil, List.length_append, List.length_map, Tr.rgI_len]; omega) | (simp only [List.length_cons, List.length_nil, List.length_append, List.length_map, Int.toNat_natCast] at *; omega))) only [Tr.okT_lf, Tr.okT_nd, Tr.okT_li, Tr.okT_ll, Tr.okT_dk, Tr.okT_mks, Tr.okT_mk1, Tr.okT_mch, Tr.okT_scr, Tr.okT_tp, Tr.okO_some, Tr.gV_ev, Tr.gC_ev, Tr.gG_ev, Tr.fM_ev, Tr.fS_ev, Tr.gM_ev, Tr.gS_ev, Tr.fP_ev, Tr.fQ_ev, Tr.vr_ev, Tr.fRe_ev, Tr.re_ev, Tr.fO1_ev, Tr.o1V_ev, Tr.o1_ev, Tr.fO2V_ev, Tr.o2V_ev, Tr.fO2v'_ev, Tr.fO2v_ev, Tr.o2v_ev, Tr.fO2o'_ev, Tr.fO2o_ev, Tr.o2o_ev, Tr.fO2c'_ev, Tr.fO2c_ev, Tr.o2c_ev, Tr.fO2n''_ev, Tr.fO2n'_ev, Tr.fO2n_ev, Tr.o2n_ev, Tr.fAnd_ev, Tr.fOr_ev, Tr.dAnd_ev, Tr.dOr_ev, Tr.ite_BB, Tr.ite_decF, Tr.ite_Tdec, Tr.z_cast, Tr.z_ndec, Tr.ite_TF, Tr.ite_FT, Tr.bind_ite, Tr.aNil_ev, Tr.fCons'_ev, Tr.fCons_ev, Tr.aCons_ev, Tr.fCall'_ev, Tr.fCall_ev, Tr.dCall_ev, Tr.wb_nil, Tr.wb_none, Tr.fWb_ev, Tr.wb_some, Tr.fMeth'_ev, Tr.fMeth_ev, Tr.dMeth_ev, Tr.fMake'_ev, Tr.fMake_ev, Tr.dMake_ev, Tr.fSeq_nx, Tr.fSeq_rt, Tr.fSeq_bk, Tr.fSeq_ct, Tr.dSeq_ev, Tr.fIf_ev, Tr.dIf_ev, Tr.fSet_ev, Tr.dSet_ev, Tr.fRet_ev, Tr.dRet_ev, Tr.fEx_ev, Tr.dEx_ev, Tr.dRetN_ev, Tr.dNx_ev, Tr.dBk_ev, Tr.dCt_ev, Tr.dFail_ev, Tr.fPut''_ev, Tr.fPut'_ev, Tr.fPut1_ev, Tr.fPut_ev, Tr.dPut_ev, Tr.fMut3_ev, Tr.fMut2_ev, Tr.fMut1_ev, Tr.fMut_ev, Tr.dMut_ev, Tr.fLst_ev, Tr.fTup_ev, Tr.dLst_ev, Tr.dTup_ev, Tr.dDic_ev, Tr.fBw_ev, Tr.bw_ev, Tr.fFz_ev, Tr.fz_ev, Tr.fAug''_ev, Tr.fAug'_ev, Tr.fAug_ev, Tr.dAug_ev, Tr.z_ex, Tr.z_exT, Tr.fRng_nat, Tr.dRng_ev, Tr.fIt'_ev, Tr.fIt_ev, Tr.dIt_ev, Tr.fFor_ev, Tr.dFor_ev, Tr.gN_ev, Tr.fG_ev, Tr.gT2_ev, Tr.gT2_mk1, Tr.dFr_nil, Tr.turn_ev, Tr.fFr_nx, Tr.fFr_ct, Tr.fFr_bk, Tr.fFr_rt, Tr.dFr_cons, Tr.fLc'_ev, Tr.fLc_ev, Tr.dLc_ev, Tr.dLr_nil, Tr.wipeT_nil, Tr.wipeT_cons, Tr.backT_nil, Tr.backT_cons, Tr.cleanAt_nil, Tr.cleanAt_cons, Tr.fFun_rt, Tr.fFun_nx, Tr.dFun_ev, Tr.outs_cons, Tr.outs_nil, Tr.frzs_nil, Tr.frzs_cons, Tr.z_frz1, Tr.z_frz2, Tr.z_frz3, Tr.z_frz4, Tr.z_frz5, Tr.z_frz6, Tr.z_frz7, Tr.z_frz8, Tr.z_frz9, Tr.z_frz10, Tr.z_frz11, Tr.z_cln1, Tr.z_cln2, Tr.z_cln3, Tr.z_cln4, Tr.z_cln5, Tr.z_cln6, Tr.z_cln7, Tr.z_cln8, Tr.z_cln9, Tr.z_cln10, Tr.z_clns1, Tr.z_clns2, Tr.z_clns3, Tr.z_pure1, Tr.z_pure2, Tr.z_pure3, Tr.z_pure4, Tr.z_pure5, Tr.z_pure6, Tr.z_pure7, Tr.z_lfI, Tr.z_li, Tr.z_add, Tr.z_sub, Tr.z_mulr, Tr.z_mod, Tr.z_div, Tr.z_lt, Tr.z_le, Tr.z_gt, Tr.z_ge, Tr.z_eq, Tr.z_ne, Tr.z_neg, Tr.z_eqli, Tr.z_neli, Tr.z_eqnil, Tr.z_nenil, Tr.z_inli, Tr.z_ninli, Tr.z_indk, Tr.z_nindk, Tr.z_ll, Tr.z_mks, Tr.z_nil, Tr.z_appll, Tr.z_int1, Tr.z_int2, Tr.z_len1, Tr.z_len2, Tr.z_len3, Tr.z_len4, Tr.z_len5, Tr.z_len6, Tr.z_len7, Tr.z_not, Tr.z_isi1, Tr.z_isi2, Tr.z_isi3, Tr.z_isi4, Tr.z_isi5, Tr.z_isi6, Tr.z_list1, Tr.z_sort1, Tr.z_sort2, Tr.z_app1, Tr.z_app2, Tr.z_pop1, Tr.z_clr1, Tr.z_clr2, Tr.z_rev1, Tr.z_ext1, Tr.z_cat1, Tr.z_it1, Tr.z_it2, Tr.z_it3, Tr.z_it4, Tr.z_ty1, Tr.z_ty2, Tr.z_ty3, Tr.z_ty4, Tr.z_fst, Tr.z_fma, Tr.z_ffa, Tr.z_ins1, Tr.z_ins2, Tr.z_ins3, Tr.z_ins4, Tr.z_ins5, Tr.z_ixli, Tr.z_ixll, Tr.z_ixlast, Tr.z_setdk, Tr.fDic1_ev, Tr.fDic1'_ev, Tr.dDic1_ev, Tr.fLRg_nat, Tr.dLRg_ev, Tr.z_len8, Tr.z_bind_some, Tr.z_get0, Tr.z_gets, Tr.z_getD0, Tr.z_getDs, Tr.z_set0, Tr.z_sets, Tr.z_app, Tr.z_nil_app, Tr.z_app_nil, Tr.z_map0, Tr.z_mapc, Tr.z_rep0, Tr.z_reps, Tr.z_lenc, Tr.z_lenn, ↓reduceIte, ite_true, ite_false, Nat.reduceAdd, Nat.reduceSub, Nat.reduceLT, Nat.reduceLeDiff, Nat.zero_add, Nat.lt_add_one, Nat.zero_lt_succ, decide_true, decide_false, decide_eq_true_eq, decide_eq_false_iff_not, Bool.not_eq_true, Bool.not_eq_false, Bool.not_true, Bool.not_false, Bool.not_eq_true', Bool.and_true, Bool.true_and, Bool.and_self, Bool.and_eq_true, Bool.or_eq_true, not_true_eq_false, not_false_eq_true, eq_self, and_self, and_true, true_and, false_and, and_false, or_true, true_or, or_false, false_or, reduceCtorEq, Bool.false_eq_true, Int.toNat_natCast, Int.reduceToNat, Int.reduceEq, Int.reduceLT, Int.reduceLE, Int.reduceNeg, Int.reduceAdd, Int.reduceSub, Int.reduceMul, List.length_map, Bool.not_not, Bool.not_eq_eq_eq_not, Decidable.not_not, Nat.reduceEqDiff, Bool.false_and, Bool.and_false, Option.isSome_some, Option.isSome_none, Option.isNone_some, Option.isNone_none, $ls,*]) }

theorem mixI (c k : Int) (hk : -1000000 < k ∧ k < 1000000) : ∃ r : Int, 0 ≤ r ∧ m_law_mix [.lf (.int c), .lf (.int k)] = some (.lf (.int r), [.lf (.int c), .lf (.int k)]) := mix c k hk
theorem fair_by (c : Int) (n : Nat) (hn0 : 0 < n) (hn : n ≤ 60) : ∃ fs, Frs n fs ∧ fs.length ≤ 3 ∧ (∀ f ∈ fs, Asc n f) ∧ m_law_fair_by [.lf (.int c), .lf (.int (n : Int))] = some (ll true fs, [.lf (.int c), .lf (.int (n : Int))]) := by
  obtain ⟨P, hP⟩ := p18x
  have z0 := Int.emod_nonneg c (b := 4) (by omega)
  have z1 := Int.emod_lt_of_pos c (b := 4) (by omega)
  obtain ⟨m, hm, hm4⟩ : ∃ m : Nat, c % 4 = m ∧ m ≤ 3 := ⟨(c % 4).toNat, by omega, by omega⟩
  obtain ⟨env', h1, fs, r, x4, x6, x7, x8, rfl, hl, hf⟩ := lp_rng (dg := gN 4) (d := l_law_fair_by_1) m (fun i env => ∃ fs r x4 x6 x7 x8, env = e_law_fair_by (I c) (I n) (ll true fs) (I r) x4 .no x6 x7 x8 ∧ fs.length = i ∧ ∀ f ∈ fs, Asc n f) (e_law_fair_by (I c) (I n) (li true []) (I (c / 4)) .no .no .no .no .no) ⟨[], _, _, _, _, _, rfl, rfl, fun _ h => by cases h⟩ (by
    rintro k hk env ⟨fs, r, x4, x6, x7, x8, rfl, hl, hf⟩
    obtain ⟨q, hq0, hq⟩ := mixI c (400 + k) (by omega)
    have z0 := Int.emod_nonneg q (b := 5) (by omega)
    have z1 := Int.emod_lt_of_pos q (b := 5) (by omega)
    have hw : oIx (.nd true .lst [.lf (.int 1), .lf (.int 2), .lf (.int 2), .lf (.int 3), .lf (.int 6)]) (.lf (.int (q % 5))) = _ := z_ixli true [1, 2, 2, 3, 6] (q % 5) z0 (by simp; omega)
    generalize ([1, 2, 2, 3, 6] : List Int).getD (q % 5).toNat 0 = w at hw
    obtain ⟨env', g1, xs, r', x7', x8', rfl, hxs⟩ := lp_rng (dg := gN 7) (d := l_law_fair_by_2) n (fun i env => ∃ xs r x7 x8, env = e_law_fair_by (I c) (I n) (ll true fs) (I r) (I k) (li true xs) (I w) x7 x8 ∧ Asc i xs) (e_law_fair_by (I c) (I n) (ll true fs) (I r) (I k) (li true []) (I w) x7 x8) ⟨[], _, _, _, rfl, ⟨List.Pairwise.nil, fun _ h => by cases h⟩⟩ (by
      rintro i hi env ⟨xs, r, x7, x8, rfl, hxs⟩
      obtain ⟨q, hq0, hq⟩ := mixI c (500 + 61 * k + i) (by omega)
      have xl := hxs.len
      have a1 := asc_up hxs
      have a2 := asc_snoc hxs
      by_cases hc : P ≤ c
      · by_cases h1 : r % 2 = 1
        · exists l_law_fair_by_2, hq, hP, hc, h1
          exact ⟨_, _, _, _, rfl, a2⟩
        · exists l_law_fair_by_2, hq, hP, hc, h1
          exact ⟨_, _, _, _, rfl, a1⟩
      · by_cases h1 : q % 6 < w
        · exists l_law_fair_by_2, hq, hP, hc, h1
          exact ⟨_, _, _, _, rfl, a2⟩
        · exists l_law_fair_by_2, hq, hP, hc, h1
          exact ⟨_, _, _, _, rfl, a1⟩)
    obtain ⟨q2, hq20, hq2⟩ := mixI c (450 + k) (by omega)
    obtain ⟨q3, hq30, hq3⟩ := mixI c (460 + k) (by omega)
    have b0 := Int.emod_nonneg q3 (b := (n : Int)) (by omega)
    have b1 := Int.emod_lt_of_pos q3 (b := (n : Int)) (by omega)
    have fl : fs.length ≤ 1000 := by omega
    have new : ∀ ys : List Int, Asc n ys → ∀ f ∈ fs ++ [ys], Asc n f := fun ys h f hf' => by
      rcases List.mem_append.mp hf' with h' | h'
      · exact hf f h'
      · have : f = ys := by simpa using h'
        rw [this]; exact h
    have one : (.nd true .lst [.lf (.int (q3 % n))] : T) = li true [q3 % n] := rfl
    by_cases a1 : xs = []
    · by_cases a2 : c < P
      · by_cases a3 : 0 < q2 % 8
        · exists l_law_fair_by_1, hq, hw, g1, hq2, hq3, hP, a1, a2, a3, one
          exact ⟨_, _, _, _, _, _, rfl, by simp [hl], new _ (asc_one ⟨b0, b1⟩)⟩
        · exists l_law_fair_by_1, hq, hw, g1, hq2, hq3, hP, a1, a2, a3, one
          exact ⟨_, _, _, _, _, _, rfl, by simp [hl], new _ (by rw [← a1]; exact hxs)⟩
      · exists l_law_fair_by_1, hq, hw, g1, hq2, hq3, hP, a1, a2, one
        exact ⟨_, _, _, _, _, _, rfl, by simp [hl], new _ (by rw [← a1]; exact hxs)⟩
    · exists l_law_fair_by_1, hq, hw, g1, hq2, hq3, hP, a1, one
      exact ⟨_, _, _, _, _, _, rfl, by simp [hl], new _ hxs⟩)
  refine ⟨fs, ⟨fun f h => (hf f h).okl hn, by omega⟩, by omega, hf, ?_⟩
  exists m_law_fair_by, bn_law_fair_by, hm, h1
theorem small_by (c : Int) : ∃ n : Nat, 0 < n ∧ n ≤ 12 ∧ m_law_small_by [.lf (.int c)] = some (.lf (.int (n : Int)), [.lf (.int c)]) := by
  have z0 := Int.emod_nonneg (c / 8) (b := 12) (by omega)
  have z1 := Int.emod_lt_of_pos (c / 8) (b := 12) (by omega)
  have y0 := Int.emod_nonneg (c / 8) (b := 8) (by omega)
  have y1 := Int.emod_lt_of_pos (c / 8) (b := 8) (by omega)
  by_cases h : c % 8 = 5
  · refine ⟨(1 + c / 8 % 12).toNat, by omega, by omega, ?_⟩
    have e : ((1 + c / 8 % 12).toNat : Int) = 1 + c / 8 % 12 := by omega
    exists m_law_small_by, bn_law_small_by, h, e
  · refine ⟨(1 + c / 8 % 8).toNat, by omega, by omega, ?_⟩
    have e : ((1 + c / 8 % 8).toNat : Int) = 1 + c / 8 % 8 := by omega
    exists m_law_small_by, bn_law_small_by, h, e
end Pm


set_option Elab.async false
set_option linter.all false
set_option maxRecDepth 100000
set_option maxHeartbeats 4000000
/-! WB: names of marks by a cell (_law_word_by). -/
namespace Pm
open PySem PySem.Spec PyProof.Rows L2 Tr Wk
local macro_rules | `(tactic| exists $es,*) => do { let ls ← es.getElems.mapM fun e => `(Lean.Parser.Tactic.simpLemma| $e:term); `(tactic| simp -implicitDefEqProofs (disch := (first | assumption | omega | decide | (simp only [List.length_cons, List.length_nil, List.length_append, List.length_map, Tr.rgI_len]; omega) | (simp only [List.length_cons, List.length_nil, List.length_append, List.length_map, Int.toNat_natCast] at *; omega))) only [Tr.okT_lf, Tr.okT_nd, Tr.okT_li, Tr.okT_ll, Tr.okT_dk, Tr.okT_mks, Tr.okT_mk1, Tr.okT_mch, Tr.okT_scr, Tr.okT_tp, Tr.okO_some, Tr.gV_ev, Tr.gC_ev, Tr.gG_ev, Tr.fM_ev, Tr.fS_ev, Tr.gM_ev, Tr.gS_ev, Tr.fP_ev, Tr.fQ_ev, Tr.vr_ev, Tr.fRe_ev, Tr.re_ev, Tr.fO1_ev, Tr.o1V_ev, Tr.o1_ev, Tr.fO2V_ev, Tr.o2V_ev, Tr.fO2v'_ev, Tr.fO2v_ev, Tr.o2v_ev, Tr.fO2o'_ev, Tr.fO2o_ev, Tr.o2o_ev, Tr.fO2c'_ev, Tr.fO2c_ev, Tr.o2c_ev, Tr.fO2n''_ev, Tr.fO2n'_ev, Tr.fO2n_ev, Tr.o2n_ev, Tr.fAnd_ev, Tr.fOr_ev, Tr.dAnd_ev, Tr.dOr_ev, Tr.ite_BB, Tr.ite_decF, Tr.ite_Tdec, Tr.z_cast, Tr.z_ndec, Tr.ite_TF, Tr.ite_FT, Tr.bind_ite, Tr.aNil_ev, Tr.fCons'_ev, Tr.fCons_ev, Tr.aCons_ev, Tr.fCall'_ev, Tr.fCall_ev, Tr.dCall_ev, Tr.wb_nil, Tr.wb_none, Tr.fWb_ev, Tr.wb_some, Tr.fMeth'_ev, Tr.fMeth_ev, Tr.dMeth_ev, Tr.fMake'_ev, Tr.fMake_ev, Tr.dMake_ev, Tr.fSeq_nx, Tr.fSeq_rt, Tr.fSeq_bk, Tr.fSeq_ct, Tr.dSeq_ev, Tr.fIf_ev, Tr.dIf_ev, Tr.fSet_ev, Tr.dSet_ev, Tr.fRet_ev, Tr.dRet_ev, Tr.fEx_ev, Tr.dEx_ev, Tr.dRetN_ev, Tr.dNx_ev, Tr.dBk_ev, Tr.dCt_ev, Tr.dFail_ev, Tr.fPut''_ev, Tr.fPut'_ev, Tr.fPut1_ev, Tr.fPut_ev, Tr.dPut_ev, Tr.fMut3_ev, Tr.fMut2_ev, Tr.fMut1_ev, Tr.fMut_ev, Tr.dMut_ev, Tr.fLst_ev, Tr.fTup_ev, Tr.dLst_ev, Tr.dTup_ev, Tr.dDic_ev, Tr.fBw_ev, Tr.bw_ev, Tr.fFz_ev, Tr.fz_ev, Tr.fAug''_ev, Tr.fAug'_ev, Tr.fAug_ev, Tr.dAug_ev, Tr.z_ex, Tr.z_exT, Tr.fRng_nat, Tr.dRng_ev, Tr.fIt'_ev, Tr.fIt_ev, Tr.dIt_ev, Tr.fFor_ev, Tr.dFor_ev, Tr.gN_ev, Tr.fG_ev, Tr.gT2_ev, Tr.gT2_mk1, Tr.dFr_nil, Tr.turn_ev, Tr.fFr_nx, Tr.fFr_ct, Tr.fFr_bk, Tr.fFr_rt, Tr.dFr_cons, Tr.fLc'_ev, Tr.fLc_ev, Tr.dLc_ev, Tr.dLr_nil, Tr.wipeT_nil, Tr.wipeT_cons, Tr.backT_nil, Tr.backT_cons, Tr.cleanAt_nil, Tr.cleanAt_cons, Tr.fFun_rt, Tr.fFun_nx, Tr.dFun_ev, Tr.outs_cons, Tr.outs_nil, Tr.frzs_nil, Tr.frzs_cons, Tr.z_frz1, Tr.z_frz2, Tr.z_frz3, Tr.z_frz4, Tr.z_frz5, Tr.z_frz6, Tr.z_frz7, Tr.z_frz8, Tr.z_frz9, Tr.z_frz10, Tr.z_frz11, Tr.z_cln1, Tr.z_cln2, Tr.z_cln3, Tr.z_cln4, Tr.z_cln5, Tr.z_cln6, Tr.z_cln7, Tr.z_cln8, Tr.z_cln9, Tr.z_cln10, Tr.z_clns1, Tr.z_clns2, Tr.z_clns3, Tr.z_pure1, Tr.z_pure2, Tr.z_pure3, Tr.z_pure4, Tr.z_pure5, Tr.z_pure6, Tr.z_pure7, Tr.z_lfI, Tr.z_li, Tr.z_add, Tr.z_sub, Tr.z_mulr, Tr.z_mod, Tr.z_div, Tr.z_lt, Tr.z_le, Tr.z_gt, Tr.z_ge, Tr.z_eq, Tr.z_ne, Tr.z_neg, Tr.z_eqli, Tr.z_neli, Tr.z_eqnil, Tr.z_nenil, Tr.z_inli, Tr.z_ninli, Tr.z_indk, Tr.z_nindk, Tr.z_ll, Tr.z_mks, Tr.z_nil, Tr.z_appll, Tr.z_int1, Tr.z_int2, Tr.z_len1, Tr.z_len2, Tr.z_len3, Tr.z_len4, Tr.z_len5, Tr.z_len6, Tr.z_len7, Tr.z_not, Tr.z_isi1, Tr.z_isi2, Tr.z_isi3, Tr.z_isi4, Tr.z_isi5, Tr.z_isi6, Tr.z_list1, Tr.z_sort1, Tr.z_sort2, Tr.z_app1, Tr.z_app2, Tr.z_pop1, Tr.z_clr1, Tr.z_clr2, Tr.z_rev1, Tr.z_ext1, Tr.z_cat1, Tr.z_it1, Tr.z_it2, Tr.z_it3, Tr.z_it4, Tr.z_ty1, Tr.z_ty2, Tr.z_ty3, Tr.z_ty4, Tr.z_fst, Tr.z_fma, Tr.z_ffa, Tr.z_ins1, Tr.z_ins2, Tr.z_ins3, Tr.z_ins4, Tr.z_ins5, Tr.z_ixli, Tr.z_ixll, Tr.z_ixlast, Tr.z_setdk, Tr.fDic1_ev, Tr.fDic1'_ev, Tr.dDic1_ev, Tr.fLRg_nat, Tr.dLRg_ev, Tr.z_len8, Tr.z_bind_some, Tr.z_get0, Tr.z_gets, Tr.z_getD0, Tr.z_getDs, Tr.z_set0, Tr.z_sets, Tr.z_app, Tr.z_nil_app, Tr.z_app_nil, Tr.z_map0, Tr.z_mapc, Tr.z_rep0, Tr.z_reps, Tr.z_lenc, Tr.z_lenn, Tr.z_c0, Tr.z_c1, Tr.z_c2, Tr.z_c3, Tr.z_okoV, Tr.z_okrk, Tr.z_okrl, Tr.z_frzoV, Tr.z_clnoV, Tr.z_pureoV, Tr.z_frzrk, Tr.z_clnrk, Tr.z_frzrl, Tr.z_clnrl, Tr.z_ixrl, Tr.z_lenrl, Tr.z_isirl, Tr.z_tyrl, Tr.z_clrrl, Tr.z_oVs, Tr.z_oVn, Tr.z_rks, Tr.z_rkn, Tr.z_ixt0, Tr.z_ixt1, Tr.z_isN1, Tr.z_isN2, Tr.z_isN3, Tr.z_notN1, Tr.z_notN2, Tr.z_notN3, Tr.z_isN4, Tr.z_notN4, Tr.z_isN5, Tr.z_notN5, Tr.fCh3_ev, Tr.fCh2_ev, Tr.fCh1_ev, Tr.z_ch, Tr.z_okdls, Tr.z_frzdls, Tr.z_clndls, Tr.z_ixdls, Tr.z_indls, Tr.z_okdds, Tr.z_frzdds, Tr.z_clndds, Tr.z_ixdds, Tr.fAsg'_ev, Tr.fAsg_ev, Tr.dAsg_ev, Tr.fBwS_ev, Tr.bwS_ev, Tr.fPt_ev, Tr.ptT_no, Tr.ptT_so, Tr.fSl2_ev, Tr.fSl1_ev, Tr.fSl_ev, Tr.dSl_ev, Tr.z_slli, Tr.z_cutTail, Tr.z_cutInit, Tr.z_okst, Tr.z_frzst, Tr.z_clnst, Tr.z_purest, Tr.z_addst, Tr.z_lenst, Tr.z_inst1, Tr.z_ninst1, Tr.z_ixst, Tr.eqL_self, Tr.eqL_nn, Tr.eqL_nc, Tr.eqL_cn, Tr.eqL_cc, Tr.z_eqst, Tr.z_nest, Tr.z_insl, Tr.z_ninsl, Tr.z_sq1, Tr.z_sq2, Tr.z_sq3, Tr.z_itst, Tr.z_isist, Tr.z_slst, Tr.z_cutOne, Tr.lit_all, Tr.lit_not, Tr.lit_both, Tr.lit_either, Tr.lit_somenext, Tr.lit_eachnext, Tr.lit_sometill, Tr.lit_eachtill, Tr.lit_someever, Tr.lit_eachever, Tr.lit_somealways, Tr.lit_eachalways, Tr.lit_mark, Tr.lit_loop, Tr.lit_rank, Tr.lit_walk, Tr.lit_shut, Tr.lit_out, Tr.lit_here, Tr.lit_dead, Tr.lit_plain, Tr.lit_step, Tr.lit_none, Tr.lit_fair, Tr.lit_answer, Tr.lit_p, Tr.lit_wet, Tr.lit_darkness, Tr.lit_x, Tr.lit_q, Tr.lit_empty, Tr.lit_in, Tr.lit_letters, Tr.z_kept, Tr.z_catX12, Tr.z_catT12, Tr.z_ixt2, ↓reduceIte, ite_true, ite_false, Nat.reduceAdd, Nat.reduceSub, Nat.reduceLT, Nat.reduceLeDiff, Nat.zero_add, Nat.lt_add_one, Nat.zero_lt_succ, decide_true, decide_false, decide_eq_true_eq, decide_eq_false_iff_not, Bool.not_eq_true, Bool.not_eq_false, Bool.not_true, Bool.not_false, Bool.not_eq_true', Bool.and_true, Bool.true_and, Bool.and_self, Bool.and_eq_true, Bool.or_eq_true, not_true_eq_false, not_false_eq_true, eq_self, and_self, and_true, true_and, false_and, and_false, or_true, true_or, or_false, false_or, reduceCtorEq, Bool.false_eq_true, Int.toNat_natCast, Int.reduceToNat, Int.reduceEq, Int.reduceLT, Int.reduceLE, Int.reduceNeg, Int.reduceAdd, Int.reduceSub, Int.reduceMul, List.length_map, Bool.not_not, Bool.not_eq_eq_eq_not, Decidable.not_not, Nat.reduceEqDiff, Bool.false_and, Bool.and_false, Option.isSome_some, Option.isSome_none, Option.isNone_some, Option.isNone_none, $ls,*]) }

/-- a name that a mark may have -/
structure Nm (w : List Nat) : Prop where
  ne : 0 < w.length
  le : w.length ≤ 8
  off : w ∉ KW
  lt : ∀ c ∈ w, c ∈ ABC
theorem Nm.okc {w : List Nat} (h : Nm w) : Okc w = true := by
  unfold Okc
  rw [List.all_eq_true]
  intro c hc
  have := h.lt c hc
  have : ∀ c ∈ ABC, c < 1114112 := by decide
  exact decide_eq_true (this c (h.lt c hc))
theorem is_mark_ok (w : List Nat) (h : Nm w) : m_is_mark [tx w] = some (.lf (.bl true), [tx w]) := by
  have kl : k_LETTERS = tx ABC := lit_letters
  have kk : k_KEPT = sl false .rot KW := lit_kept false .rot
  have kn : k_LONGEST = .lf (.int 8) := rfl
  have hw := h.off
  have wl := h.le
  have w0 := h.ne
  have n1 : ¬ (w.length : Int) < 1 := by omega
  have n2 : ¬ (8 : Int) < w.length := by omega
  obtain ⟨env', h1, x1, rfl⟩ := lp (dg := gN 1) (d := l_is_mark_1) (w.map fun c => tx [c]) (fun _ env => ∃ x1, env = e_is_mark (tx w) x1) (e_is_mark (tx w) .no) ⟨_, rfl⟩ (by
    rintro i t env hi ⟨x1, rfl⟩
    rw [List.getElem?_map] at hi
    obtain ⟨c, hc, rfl⟩ := Option.map_eq_some_iff.mp hi
    have hl := h.lt c (List.mem_of_getElem? hc)
    refine ⟨e_is_mark (tx w) (tx [c]), .inl ?_, _, rfl⟩
    exists l_is_mark_1, kl, hl)
  exists m_is_mark, bn_is_mark, kk, kn, hw, n1, n2, h1
/-- the word as it is first drawn -/
def wsz (c : Int) : Nat := (1 + c % 8).toNat
def wsp (c : Int) : Int := c / 8 % (wsz c : Int)
def wlt (c k : Int) (p : Nat) : Nat := ABC.getD (((c / 64 + (p : Int) * p) + if (p : Int) = wsp c then k else 0) % 26).toNat 0
def wdr (c k : Int) : List Nat := (List.range (wsz c)).map (wlt c k)
def wfx (w : List Nat) : List Nat := if w ∈ KW then w.take 1 ++ [113] else w
def wdy (c k : Int) : List Nat := wfx (wdr c k)
theorem wsz_ok (c : Int) : 1 ≤ wsz c ∧ wsz c ≤ 8 ∧ 1 + c % 8 = (wsz c : Int) := by
  have := Int.emod_nonneg c (b := 8) (by omega)
  have := Int.emod_lt_of_pos c (b := 8) (by omega)
  unfold wsz; omega
theorem abc_mem (i : Nat) (h : i < 26) : ABC.getD i 0 ∈ ABC := by
  have : i < ABC.length := h
  rw [List.getD_eq_getElem?_getD, List.getElem?_eq_getElem this]
  exact List.getElem_mem this
theorem wlt_mem (c k : Int) (p : Nat) : wlt c k p ∈ ABC := by
  unfold wlt
  refine abc_mem _ ?_
  have := Int.emod_nonneg ((c / 64 + (p : Int) * p) + if (p : Int) = wsp c then k else 0) (b := 26) (by omega)
  have := Int.emod_lt_of_pos ((c / 64 + (p : Int) * p) + if (p : Int) = wsp c then k else 0) (b := 26) (by omega)
  omega
theorem wdr_len (c k) : (wdr c k).length = wsz c := by unfold wdr; simp
theorem wdr_abc (c k) : ∀ x ∈ wdr c k, x ∈ ABC := by
  intro x hx
  obtain ⟨p, _, rfl⟩ := List.mem_map.mp hx
  exact wlt_mem c k p
theorem kw_len : ∀ w ∈ KW, 3 ≤ w.length ∧ w.length ≤ 8 := by decide
theorem wdy_nm (c k) : Nm (wdy c k) := by
  have s := wsz_ok c
  have l := wdr_len c k
  unfold wdy wfx
  split
  · rename_i h
    have hl := kw_len _ h
    have lt : ((wdr c k).take 1 ++ [113]).length = 2 := by simp; omega
    refine ⟨by omega, by omega, fun z => ?_, fun x hx => ?_⟩
    · have := kw_len _ z; omega
    · rcases List.mem_append.mp hx with hx | hx
      · exact wdr_abc c k x (List.mem_of_mem_take hx)
      · rw [show x = 113 by simpa using hx]; decide
  · rename_i h
    exact ⟨by omega, by omega, h, wdr_abc c k⟩
theorem abc_inj : ∀ i < 26, ∀ j < 26, ABC.getD i 0 = ABC.getD j 0 → i = j := by decide
/-- two kept words of one length differ at two places -/
theorem kw_apart : ∀ v ∈ KW, ∀ w ∈ KW, v ≠ w → v.length = w.length → ∃ i < 8, ∃ j < 8, i < j ∧ j < v.length ∧ v.getD i 0 ≠ w.getD i 0 ∧ v.getD j 0 ≠ w.getD j 0 := by decide
theorem wdr_at (c k) (p : Nat) (h : p < wsz c) : (wdr c k).getD p 0 = wlt c k p := by
  unfold wdr
  rw [List.getD_eq_getElem?_getD, List.getElem?_map, List.getElem?_range h]; rfl
theorem wdr_ne (c j k : Int) (hj : 0 ≤ j ∧ j < 3) (hk : 0 ≤ k ∧ k < 3) (h : j ≠ k) : wdr c j ≠ wdr c k := by
  intro e
  have s := wsz_ok c
  have p0 := Int.emod_nonneg (c / 8) (b := (wsz c : Int)) (by omega)
  have p1 := Int.emod_lt_of_pos (c / 8) (b := (wsz c : Int)) (by omega)
  have hp : (wsp c).toNat < wsz c := by unfold wsp; omega
  have hpc : ((wsp c).toNat : Int) = wsp c := by unfold wsp; omega
  have := congrArg (fun w : List Nat => w.getD (wsp c).toNat 0) e
  simp only [wdr_at c _ _ hp] at this
  unfold wlt at this
  rw [if_pos hpc, if_pos hpc] at this
  generalize c / 64 + ((wsp c).toNat : Int) * ((wsp c).toNat : Int) = a at this
  have a0 := Int.emod_nonneg (a + j) (b := 26) (by omega)
  have a1 := Int.emod_lt_of_pos (a + j) (b := 26) (by omega)
  have b0 := Int.emod_nonneg (a + k) (b := 26) (by omega)
  have b1 := Int.emod_lt_of_pos (a + k) (b := 26) (by omega)
  have := abc_inj _ (by omega) _ (by omega) this
  omega
theorem wlt_same (c j k : Int) (p : Nat) (h : (p : Int) ≠ wsp c) : wlt c j p = wlt c k p := by unfold wlt; rw [if_neg h, if_neg h]
theorem wdy_ne (c j k : Int) (hj : 0 ≤ j ∧ j < 3) (hk : 0 ≤ k ∧ k < 3) (h : j ≠ k) : wdy c j ≠ wdy c k := by
  have ne := wdr_ne c j k hj hk h
  have l1 := wdr_len c j
  have l2 := wdr_len c k
  have s := wsz_ok c
  unfold wdy wfx
  by_cases h1 : wdr c j ∈ KW
  · have k1 := kw_len _ h1
    have t1 : ((wdr c j).take 1 ++ [113]).length = 2 := by simp; omega
    by_cases h2 : wdr c k ∈ KW
    · obtain ⟨a, ha, b, hb, hab, hbl, d1, d2⟩ := kw_apart _ h1 _ h2 ne (by omega)
      rw [wdr_at c _ _ (by omega), wdr_at c _ _ (by omega)] at d1 d2
      have e1 : (a : Int) = wsp c := Decidable.byContradiction fun z => d1 (wlt_same c j k a z)
      have e2 : (b : Int) = wsp c := Decidable.byContradiction fun z => d2 (wlt_same c j k b z)
      omega
    · rw [if_pos h1, if_neg h2]
      intro e
      have := congrArg List.length e
      omega
  · by_cases h2 : wdr c k ∈ KW
    · have k2 := kw_len _ h2
      have t2 : ((wdr c k).take 1 ++ [113]).length = 2 := by simp; omega
      rw [if_neg h1, if_pos h2]
      intro e
      have := congrArg List.length e
      omega
    · rw [if_neg h1, if_neg h2]
      exact ne
theorem word_by (c k : Int) : m_law_word_by [.lf (.int c), .lf (.int k)] = some (tx (wdy c k), [.lf (.int c), .lf (.int k)]) := by
  have s := wsz_ok c
  have al : ABC.length = 26 := rfl
  obtain ⟨env', h1, x5, x6, rfl⟩ := lp_rng (dg := gN 5) (d := l_law_word_by_1) (wsz c) (fun i env => ∃ x5 x6, env = e_law_word_by (.lf (.int c)) (.lf (.int k)) (tx ABC) (.lf (.int (wsz c))) (tx ((List.range i).map (wlt c k))) x5 x6) (e_law_word_by (.lf (.int c)) (.lf (.int k)) (tx ABC) (.lf (.int (wsz c))) (tx []) .no .no) ⟨_, _, rfl⟩ (by
    rintro i hi env ⟨x5, x6, rfl⟩
    have hs : c / 8 % (wsz c : Int) = wsp c := rfl
    have rl : ((List.range i).map (wlt c k)).length = i := by simp
    have sc : (List.range (i + 1)).map (wlt c k) = (List.range i).map (wlt c k) ++ [wlt c k i] := by rw [List.range_succ, List.map_append]; rfl
    by_cases h : (i : Int) = wsp c
    · have a0 := Int.emod_nonneg (c / 64 + (i : Int) * i + k) (b := 26) (by omega)
      have a1 := Int.emod_lt_of_pos (c / 64 + (i : Int) * i + k) (b := 26) (by omega)
      have w : ABC.getD ((c / 64 + (i : Int) * i + k) % 26).toNat 0 = wlt c k i := by unfold wlt; rw [if_pos h]
      generalize hv : (c / 64 + (i : Int) * i + k) % 26 = v at a0 a1 w
      have h' : ((i : Int) = wsp c) = True := eq_true h
      exists l_law_word_by_1, hs, h', hv, w, al
      exact ⟨_, _, by rw [sc]⟩
    · have a0 := Int.emod_nonneg (c / 64 + (i : Int) * i) (b := 26) (by omega)
      have a1 := Int.emod_lt_of_pos (c / 64 + (i : Int) * i) (b := 26) (by omega)
      have w : ABC.getD ((c / 64 + (i : Int) * i) % 26).toNat 0 = wlt c k i := by unfold wlt; rw [if_neg h, Int.add_zero]
      generalize hv : (c / 64 + (i : Int) * i) % 26 = v at a0 a1 w
      exists l_law_word_by_1, hs, h, hv, w, al
      exact ⟨_, _, by rw [sc]⟩)
  have s2 := s.2.2
  have h1' : dFr (gN 5) l_law_word_by_1 (rngT (wsz c)) [.lf (.int c), .lf (.int k), tx ABC, .lf (.int (wsz c)), tx [], .no, .no] = some (.nx, [.lf (.int c), .lf (.int k), tx ABC, .lf (.int (wsz c)), tx (wdr c k), x5, x6]) := h1
  have l := wdr_len c k
  unfold wdy wfx
  by_cases h : wdr c k ∈ KW
  · rw [if_pos h]
    have tl : ((wdr c k).take 1).length ≤ 8 := by simp; omega
    exists m_law_word_by, bn_law_word_by, s2, h1', h
  · rw [if_neg h]
    exists m_law_word_by, bn_law_word_by, s2, h1', h
end Pm


set_option Elab.async false
set_option linter.all false
set_option autoImplicit false
set_option maxRecDepth 100000
set_option maxHeartbeats 4000000
/-! EQ: things that are alike; comprehensions of any things; places within things. -/
namespace Tr
open PySem PySem.Spec PyProof.Rows L2 Pm

/-- data, nested so deep at most -/
inductive Dt : Nat → T → Prop
  | non {n : Nat} : Dt n (.lf .non)
  | bl {n : Nat} (b : Bool) : Dt n (.lf (.bl b))
  | int {n : Nat} (i : Int) : Dt n (.lf (.int i))
  | str {n : Nat} {x : Str} (h : PyData.strOk x = true) : Dt n (.lf (.str x))
  | lst {n : Nat} {o : Bool} {xs : List T} (h : ∀ x ∈ xs, Dt n x) : Dt (n + 1) (.nd o .lst xs)
  | tup {n : Nat} {o : Bool} {xs : List T} (h : ∀ x ∈ xs, Dt n x) : Dt (n + 1) (.nd o .tup xs)
theorem Dt.all {n : Nat} : ∀ {xs : List T}, (∀ x ∈ xs, ∃ d, toD x = some d ∧ d.canLay0 = true ∧ d.depth ≤ n ∧ PyData.eqv d d = true) → ∃ ds, toDs xs = some ds ∧ PyData.canLayAll0 ds = true ∧ PyData.depthAll ds ≤ n ∧ PyData.eqvAll ds ds = true
  | [], _ => ⟨[], rfl, by simp [PyData.canLayAll0], by simp [PyData.depthAll], by simp [PyData.eqvAll]⟩
  | x :: xs, h => by
    obtain ⟨d, h1, h2, h3, h4⟩ := h x (List.mem_cons_self ..)
    obtain ⟨ds, g1, g2, g3, g4⟩ := Dt.all fun y hy => h y (List.mem_cons_of_mem _ hy)
    refine ⟨d :: ds, by rw [toDs, h1, g1]; rfl, by rw [PyData.canLayAll0, h2, g2]; rfl, ?_, by rw [PyData.eqvAll, h4, g4]; rfl⟩
    rw [PyData.depthAll]
    omega
theorem Dt.dat {n : Nat} {t : T} (h : Dt n t) : ∃ d, toD t = some d ∧ d.canLay0 = true ∧ d.depth ≤ n ∧ PyData.eqv d d = true := by
  induction h with
  | non => exact ⟨.none, rfl, by simp [PyData.canLay0], by simp [PyData.depth], by simp [PyData.eqv]⟩
  | bl b => exact ⟨.bool b, rfl, by simp [PyData.canLay0], by simp [PyData.depth], by simp [PyData.eqv]⟩
  | int i => exact ⟨.int i, rfl, by simp [PyData.canLay0], by simp [PyData.depth], by simp [PyData.eqv]⟩
  | str h => exact ⟨.str _, rfl, by simpa [PyData.canLay0] using h, by simp [PyData.depth], by simp [PyData.eqv]⟩
  | lst _ ih =>
    obtain ⟨ds, g1, g2, g3, g4⟩ := Dt.all ih
    exact ⟨.list ds, by rw [toD, g1]; rfl, by rw [PyData.canLay0]; exact g2, by rw [PyData.depth]; omega, by rw [PyData.eqv]; exact g4⟩
  | tup _ ih =>
    obtain ⟨ds, g1, g2, g3, g4⟩ := Dt.all ih
    exact ⟨.tuple ds, by rw [toD, g1]; rfl, by rw [PyData.canLay0]; exact g2, by rw [PyData.depth]; omega, by rw [PyData.eqv]; exact g4⟩
mutual
theorem toD_frz : ∀ t : T, toD (frz t) = toD t
  | .no => rfl
  | .lf v => by rw [frz]
  | .nd o k xs => by rw [frz]; cases k <;> simp only [toD, toDs_frz xs]
theorem toDs_frz : ∀ ts : List T, toDs (frzs ts) = toDs ts
  | [] => rfl
  | t :: ts => by rw [frzs, toDs, toDs, toD_frz t, toDs_frz ts]
end
theorem oEq_alike {n : Nat} {a b : T} (hn : n ≤ 64) (h : Dt n a) (e : frz a = frz b) : oEq a b = some (.lf (.bl true)) := by
  obtain ⟨d, h1, h2, h3, h4⟩ := h.dat
  have h5 : toD b = some d := by rw [← toD_frz, ← e, toD_frz, h1]
  have sh : SeqAt.shaped d = true := by unfold SeqAt.shaped; rw [h2, decide_eq_true (by omega)]; rfl
  unfold oEq
  simp only [h1, h5, Option.bind_some, sh, and_self, if_true, h4]
theorem oNe_alike {n : Nat} {a b : T} (hn : n ≤ 64) (h : Dt n a) (e : frz a = frz b) : oNe a b = some (.lf (.bl false)) := by
  obtain ⟨d, h1, h2, h3, h4⟩ := h.dat
  have h5 : toD b = some d := by rw [← toD_frz, ← e, toD_frz, h1]
  have sh : SeqAt.shaped d = true := by unfold SeqAt.shaped; rw [h2, decide_eq_true (by omega)]; rfl
  unfold oNe
  simp only [h1, h5, Option.bind_some, sh, and_self, if_true, h4, Bool.not_true]
theorem Dt.li {n : Nat} (o : Bool) (xs : List Int) : Dt (n + 1) (li o xs) := .lst fun x hx => by
  obtain ⟨i, _, rfl⟩ := List.mem_map.mp hx
  exact .int i
theorem Dt.ll {n : Nat} (o : Bool) (xs : List (List Int)) : Dt (n + 2) (ll o xs) := .lst fun x hx => by
  obtain ⟨i, _, rfl⟩ := List.mem_map.mp hx
  exact .li o i
theorem Dt.st {n : Nat} {l : List Nat} (h : Okc l = true) : Dt n (tx l) := .str (strOk_st h)
theorem Dt.up {n m : Nat} {t : T} (h : Dt n t) (k : n ≤ m) : Dt m t := by
  induction h generalizing m with
  | non => exact .non
  | bl b => exact .bl b
  | int i => exact .int i
  | str h => exact .str h
  | lst _ ih =>
    obtain ⟨m, rfl⟩ : ∃ j, m = j + 1 := ⟨m - 1, by omega⟩
    exact .lst fun x hx => ih x hx (by omega)
  | tup _ ih =>
    obtain ⟨m, rfl⟩ : ∃ j, m = j + 1 := ⟨m - 1, by omega⟩
    exact .tup fun x hx => ih x hx (by omega)
/-! ### comprehensions -/
theorem lc_acc {α : Type} {dg : DG} {dc de : DE} {vs : List Nat} (env : List T) (c g : α → T) (p : α → Bool) : ∀ (xs : List α) (acc : List T), acc.length + xs.length ≤ 1000 →
    (∀ x ∈ xs, ∃ e e1, dg (c x) env = some e ∧ dc e = some (.lf (.bl (p x)), e1) ∧ (p x = true → ∃ e2, de e1 = some (g x, e2) ∧ wipeT e2 vs = env) ∧ (p x = false → wipeT e1 vs = env)) →
    dLr dg dc de vs (xs.map c) acc env = some (acc ++ (xs.filter p).map g, env)
  | [], acc, _, _ => by simp [dLr]
  | x :: xs, acc, hl, hs => by
    obtain ⟨e, e1, h1, h2, h3, h4⟩ := hs x (List.mem_cons_self ..)
    have hl' : acc.length + (xs.length + 1) ≤ 1000 := by simpa using hl
    rw [List.map_cons, dLr, h1, Option.bind_some]
    cases hp : p x with
    | true =>
      obtain ⟨e2, h5, h6⟩ := h3 hp
      rw [hp] at h2
      have hlt : acc.length < sizeLine := small (by omega)
      simp only [h2, h5, Option.bind_some, hlt, if_true, h6]
      rw [lc_acc env c g p xs (acc ++ [g x]) (by simp; omega) fun u hu => hs u (List.mem_cons_of_mem _ hu)]
      simp [hp]
    | false =>
      rw [hp] at h2
      simp only [h2, h4 hp]
      rw [lc_acc env c g p xs acc (by omega) fun u hu => hs u (List.mem_cons_of_mem _ hu)]
      simp [hp]
theorem lc_gen {α : Type} {dg : DG} {dc de : DE} {vs : List Nat} (env : List T) (xs : List α) (c g : α → T) (p : α → Bool) (hl : xs.length ≤ 1000)
    (hs : ∀ x ∈ xs, ∃ e e1, dg (c x) env = some e ∧ dc e = some (.lf (.bl (p x)), e1) ∧ (p x = true → ∃ e2, de e1 = some (g x, e2) ∧ wipeT e2 vs = env) ∧ (p x = false → wipeT e1 vs = env)) :
    dLr dg dc de vs (xs.map c) [] env = some ((xs.filter p).map g, env) := by
  rw [lc_acc env c g p xs [] (by simpa using hl) hs]; rfl
theorem lc_all {α : Type} {dg : DG} {de : DE} {vs : List Nat} (env : List T) (xs : List α) (c g : α → T) (hl : xs.length ≤ 1000)
    (hs : ∀ x ∈ xs, ∃ e e2, dg (c x) env = some e ∧ de e = some (g x, e2) ∧ wipeT e2 vs = env) :
    dLr dg dYes de vs (xs.map c) [] env = some (xs.map g, env) := by
  rw [lc_gen env xs c g (fun _ => true) hl fun x hx => by
    obtain ⟨e, e2, h1, h2, h3⟩ := hs x hx
    exact ⟨e, e, h1, rfl, fun _ => ⟨e2, h2, h3⟩, fun h => by cases h⟩]
  simp [List.filter_eq_self.mpr]
theorem lc_inv {α : Type} {dg : DG} {dc de : DE} {vs : List Nat} (Iv : List T → Prop) (c g : α → T) (p : α → Bool) : ∀ (xs : List α) (acc : List T) (env : List T), acc.length + xs.length ≤ 1000 → Iv env →
    (∀ x ∈ xs, ∀ env, Iv env → ∃ e e1, dg (c x) env = some e ∧ dc e = some (.lf (.bl (p x)), e1) ∧ (p x = true → ∃ e2, de e1 = some (g x, e2) ∧ Iv (wipeT e2 vs)) ∧ (p x = false → Iv (wipeT e1 vs))) →
    ∃ env', dLr dg dc de vs (xs.map c) acc env = some (acc ++ (xs.filter p).map g, env') ∧ Iv env'
  | [], acc, env, _, h0, _ => ⟨env, by simp [dLr], h0⟩
  | x :: xs, acc, env, hl, h0, hs => by
    obtain ⟨e, e1, h1, h2, h3, h4⟩ := hs x (List.mem_cons_self ..) env h0
    have hl' : acc.length + (xs.length + 1) ≤ 1000 := by simpa using hl
    rw [List.map_cons, dLr, h1, Option.bind_some]
    cases hp : p x with
    | true =>
      obtain ⟨e2, h5, h6⟩ := h3 hp
      rw [hp] at h2
      have hlt : acc.length < sizeLine := small (by omega)
      simp only [h2, h5, Option.bind_some, hlt, if_true]
      obtain ⟨env', g1, g2⟩ := lc_inv Iv c g p xs (acc ++ [g x]) _ (by simp; omega) h6 fun u hu => hs u (List.mem_cons_of_mem _ hu)
      exact ⟨env', by rw [g1]; simp [hp], g2⟩
    | false =>
      rw [hp] at h2
      simp only [h2]
      obtain ⟨env', g1, g2⟩ := lc_inv Iv c g p xs acc _ (by omega) (h4 hp) fun u hu => hs u (List.mem_cons_of_mem _ hu)
      exact ⟨env', by rw [g1]; simp [hp], g2⟩
theorem lc_allI {α : Type} {dg : DG} {de : DE} {vs : List Nat} (Iv : List T → Prop) (c g : α → T) (xs : List α) (env : List T) (hl : xs.length ≤ 1000) (h0 : Iv env)
    (hs : ∀ x ∈ xs, ∀ env, Iv env → ∃ e e2, dg (c x) env = some e ∧ de e = some (g x, e2) ∧ Iv (wipeT e2 vs)) :
    ∃ env', dLr dg dYes de vs (xs.map c) [] env = some (xs.map g, env') ∧ Iv env' := by
  obtain ⟨env', h1, h2⟩ := lc_inv (dg := dg) (dc := dYes) (de := de) (vs := vs) Iv c g (fun _ => true) xs [] env (by simpa using hl) h0 fun x hx env he => by
    obtain ⟨e, e2, h1, h2, h3⟩ := hs x hx env he
    exact ⟨e, e, h1, rfl, fun _ => ⟨e2, h2, h3⟩, fun h => by cases h⟩
  exact ⟨env', by rw [h1]; simp [List.filter_eq_self.mpr], h2⟩
theorem map_set {n : Nat} (f : Int → T) (i : Int) (t : T) (h0 : 0 ≤ i) : ((rgI n).map f).set i.toNat t = (rgI n).map fun y => if y = i then t else f y := by
  refine List.ext_getElem (by simp) fun j h1 h2 => ?_
  rw [List.getElem_set]
  simp only [List.getElem_map]
  have hj : (rgI n)[j]'(by simpa using h2) = (j : Int) := by
    have := rgI_get (n := n) (i := j) (by simpa [rgI_len] using h2)
    rw [List.getElem?_eq_getElem (by simpa using h2)] at this
    exact Option.some.inj this
  rw [hj]
  by_cases hi : i.toNat = j
  · rw [if_pos hi, if_pos (by omega)]
  · rw [if_neg hi, if_neg (by omega)]
theorem map_at {n : Nat} (f : Int → T) (i : Int) (h0 : 0 ≤ i) (h1 : i < n) : ((rgI n).map f)[i.toNat]? = some (f i) := by
  rw [List.getElem?_map, rgI_get (by omega), Option.map_some, show ((i.toNat : Nat) : Int) = i by omega]
/-! ### places within things -/
/-- a[b][j] of a list of tuples -/
theorem dp_tup {env : List T} {a b : Nat} {xs ys : List T} {k : Int} {j : Nat} {o : Bool} {t : T} (ha : gV a env = some (.nd true .lst xs)) (hb : gV b env = some (.lf (.int k))) (h0 : 0 ≤ k) (hk : xs[k.toNat]? = some (.nd o .tup ys)) (hj : ys[j]? = some t) :
    dpIx (dpIx (dpV a) (gV b)) (gC (.int (j : Int))) env = some (t, fun t' => env.set a (.nd true .lst (xs.set k.toNat (.nd o .tup (ys.set j t'))))) := by
  have l1 := (List.getElem?_eq_some_iff.mp hk).1
  have l2 := (List.getElem?_eq_some_iff.mp hj).1
  have e1 : ixN xs.length k = some k.toNat := by unfold ixN; rw [if_pos h0, if_pos (by omega)]
  have e2 : ixN ys.length (j : Int) = some j := by unfold ixN; rw [if_pos (by omega), if_pos (by omega)]; simp
  unfold dpIx dpV
  simp only [ha, hb, Option.map_some, e1, Option.bind_some, hk, gC, e2, hj]
theorem rngT_eq (n : Nat) : rngT n = (rgI n).map lfI := by simp [rngT, rgI, lfI]
end Tr


set_option Elab.async false
set_option linter.all false
set_option autoImplicit false
set_option maxRecDepth 100000
set_option maxHeartbeats 4000000
/-! MK: the marks of a law's machine: two, by drawn names and sets. -/
namespace Pm
open PySem PySem.Spec PyProof.Rows L2 Tr Wk
local macro_rules | `(tactic| exists $es,*) => do { let ls ← es.getElems.mapM fun e => `(Lean.Parser.Tactic.simpLemma| $e:term); `(tactic| simp -implicitDefEqProofs (disch := (first | assumption | omega | decide | (simp only [List.length_cons, List.length_nil, List.length_append, List.length_map, Tr.rgI_len]; omega) | (simp only [List.length_cons, List.length_nil, List.length_append, List.length_map, Int.toNat_natCast] at *; omega))) only [Tr.okT_lf, Tr.okT_nd, Tr.okT_li, Tr.okT_ll, Tr.okT_dk, Tr.okT_mks, Tr.okT_mk1, Tr.okT_mch, Tr.okT_scr, Tr.okT_tp, Tr.okO_some, Tr.gV_ev, Tr.gC_ev, Tr.gG_ev, Tr.fM_ev, Tr.fS_ev, Tr.gM_ev, Tr.gS_ev, Tr.fP_ev, Tr.fQ_ev, Tr.vr_ev, Tr.fRe_ev, Tr.re_ev, Tr.fO1_ev, Tr.o1V_ev, Tr.o1_ev, Tr.fO2V_ev, Tr.o2V_ev, Tr.fO2v'_ev, Tr.fO2v_ev, Tr.o2v_ev, Tr.fO2o'_ev, Tr.fO2o_ev, Tr.o2o_ev, Tr.fO2c'_ev, Tr.fO2c_ev, Tr.o2c_ev, Tr.fO2n''_ev, Tr.fO2n'_ev, Tr.fO2n_ev, Tr.o2n_ev, Tr.fAnd_ev, Tr.fOr_ev, Tr.dAnd_ev, Tr.dOr_ev, Tr.ite_BB, Tr.ite_decF, Tr.ite_Tdec, Tr.z_cast, Tr.z_ndec, Tr.ite_TF, Tr.ite_FT, Tr.bind_ite, Tr.aNil_ev, Tr.fCons'_ev, Tr.fCons_ev, Tr.aCons_ev, Tr.fCall'_ev, Tr.fCall_ev, Tr.dCall_ev, Tr.wb_nil, Tr.wb_none, Tr.fWb_ev, Tr.wb_some, Tr.fMeth'_ev, Tr.fMeth_ev, Tr.dMeth_ev, Tr.fMake'_ev, Tr.fMake_ev, Tr.dMake_ev, Tr.fSeq_nx, Tr.fSeq_rt, Tr.fSeq_bk, Tr.fSeq_ct, Tr.dSeq_ev, Tr.fIf_ev, Tr.dIf_ev, Tr.fSet_ev, Tr.dSet_ev, Tr.fRet_ev, Tr.dRet_ev, Tr.fEx_ev, Tr.dEx_ev, Tr.dRetN_ev, Tr.dNx_ev, Tr.dBk_ev, Tr.dCt_ev, Tr.dFail_ev, Tr.fPut''_ev, Tr.fPut'_ev, Tr.fPut1_ev, Tr.fPut_ev, Tr.dPut_ev, Tr.fMut3_ev, Tr.fMut2_ev, Tr.fMut1_ev, Tr.fMut_ev, Tr.dMut_ev, Tr.fLst_ev, Tr.fTup_ev, Tr.dLst_ev, Tr.dTup_ev, Tr.dDic_ev, Tr.fBw_ev, Tr.bw_ev, Tr.fFz_ev, Tr.fz_ev, Tr.fAug''_ev, Tr.fAug'_ev, Tr.fAug_ev, Tr.dAug_ev, Tr.z_ex, Tr.z_exT, Tr.fRng_nat, Tr.dRng_ev, Tr.fIt'_ev, Tr.fIt_ev, Tr.dIt_ev, Tr.fFor_ev, Tr.dFor_ev, Tr.gN_ev, Tr.fG_ev, Tr.gT2_ev, Tr.gT2_mk1, Tr.dFr_nil, Tr.turn_ev, Tr.fFr_nx, Tr.fFr_ct, Tr.fFr_bk, Tr.fFr_rt, Tr.dFr_cons, Tr.fLc'_ev, Tr.fLc_ev, Tr.dLc_ev, Tr.dLr_nil, Tr.wipeT_nil, Tr.wipeT_cons, Tr.backT_nil, Tr.backT_cons, Tr.cleanAt_nil, Tr.cleanAt_cons, Tr.fFun_rt, Tr.fFun_nx, Tr.dFun_ev, Tr.outs_cons, Tr.outs_nil, Tr.frzs_nil, Tr.frzs_cons, Tr.z_frz1, Tr.z_frz2, Tr.z_frz3, Tr.z_frz4, Tr.z_frz5, Tr.z_frz6, Tr.z_frz7, Tr.z_frz8, Tr.z_frz9, Tr.z_frz10, Tr.z_frz11, Tr.z_cln1, Tr.z_cln2, Tr.z_cln3, Tr.z_cln4, Tr.z_cln5, Tr.z_cln6, Tr.z_cln7, Tr.z_cln8, Tr.z_cln9, Tr.z_cln10, Tr.z_clns1, Tr.z_clns2, Tr.z_clns3, Tr.z_pure1, Tr.z_pure2, Tr.z_pure3, Tr.z_pure4, Tr.z_pure5, Tr.z_pure6, Tr.z_pure7, Tr.z_lfI, Tr.z_li, Tr.z_add, Tr.z_sub, Tr.z_mulr, Tr.z_mod, Tr.z_div, Tr.z_lt, Tr.z_le, Tr.z_gt, Tr.z_ge, Tr.z_eq, Tr.z_ne, Tr.z_neg, Tr.z_eqli, Tr.z_neli, Tr.z_eqnil, Tr.z_nenil, Tr.z_inli, Tr.z_ninli, Tr.z_indk, Tr.z_nindk, Tr.z_ll, Tr.z_mks, Tr.z_nil, Tr.z_appll, Tr.z_int1, Tr.z_int2, Tr.z_len1, Tr.z_len2, Tr.z_len3, Tr.z_len4, Tr.z_len5, Tr.z_len6, Tr.z_len7, Tr.z_not, Tr.z_isi1, Tr.z_isi2, Tr.z_isi3, Tr.z_isi4, Tr.z_isi5, Tr.z_isi6, Tr.z_list1, Tr.z_sort1, Tr.z_sort2, Tr.z_app1, Tr.z_app2, Tr.z_pop1, Tr.z_clr1, Tr.z_clr2, Tr.z_rev1, Tr.z_ext1, Tr.z_cat1, Tr.z_it1, Tr.z_it2, Tr.z_it3, Tr.z_it4, Tr.z_ty1, Tr.z_ty2, Tr.z_ty3, Tr.z_ty4, Tr.z_fst, Tr.z_fma, Tr.z_ffa, Tr.z_ins1, Tr.z_ins2, Tr.z_ins3, Tr.z_ins4, Tr.z_ins5, Tr.z_ixli, Tr.z_ixll, Tr.z_ixlast, Tr.z_setdk, Tr.fDic1_ev, Tr.fDic1'_ev, Tr.dDic1_ev, Tr.fLRg_nat, Tr.dLRg_ev, Tr.z_len8, Tr.z_bind_some, Tr.z_get0, Tr.z_gets, Tr.z_getD0, Tr.z_getDs, Tr.z_set0, Tr.z_sets, Tr.z_app, Tr.z_nil_app, Tr.z_app_nil, Tr.z_map0, Tr.z_mapc, Tr.z_rep0, Tr.z_reps, Tr.z_lenc, Tr.z_lenn, Tr.z_c0, Tr.z_c1, Tr.z_c2, Tr.z_c3, Tr.z_okoV, Tr.z_okrk, Tr.z_okrl, Tr.z_frzoV, Tr.z_clnoV, Tr.z_pureoV, Tr.z_frzrk, Tr.z_clnrk, Tr.z_frzrl, Tr.z_clnrl, Tr.z_ixrl, Tr.z_lenrl, Tr.z_isirl, Tr.z_tyrl, Tr.z_clrrl, Tr.z_oVs, Tr.z_oVn, Tr.z_rks, Tr.z_rkn, Tr.z_ixt0, Tr.z_ixt1, Tr.z_isN1, Tr.z_isN2, Tr.z_isN3, Tr.z_notN1, Tr.z_notN2, Tr.z_notN3, Tr.z_isN4, Tr.z_notN4, Tr.z_isN5, Tr.z_notN5, Tr.fCh3_ev, Tr.fCh2_ev, Tr.fCh1_ev, Tr.z_ch, Tr.z_okdls, Tr.z_frzdls, Tr.z_clndls, Tr.z_ixdls, Tr.z_indls, Tr.z_okdds, Tr.z_frzdds, Tr.z_clndds, Tr.z_ixdds, Tr.fAsg'_ev, Tr.fAsg_ev, Tr.dAsg_ev, Tr.fBwS_ev, Tr.bwS_ev, Tr.fPt_ev, Tr.ptT_no, Tr.ptT_so, Tr.fSl2_ev, Tr.fSl1_ev, Tr.fSl_ev, Tr.dSl_ev, Tr.z_slli, Tr.z_cutTail, Tr.z_cutInit, Tr.z_okst, Tr.z_frzst, Tr.z_clnst, Tr.z_purest, Tr.z_addst, Tr.z_lenst, Tr.z_inst1, Tr.z_ninst1, Tr.z_ixst, Tr.eqL_self, Tr.eqL_nn, Tr.eqL_nc, Tr.eqL_cn, Tr.eqL_cc, Tr.z_eqst, Tr.z_nest, Tr.z_insl, Tr.z_ninsl, Tr.z_sq1, Tr.z_sq2, Tr.z_sq3, Tr.z_itst, Tr.z_isist, Tr.z_slst, Tr.z_cutOne, Tr.lit_all, Tr.lit_not, Tr.lit_both, Tr.lit_either, Tr.lit_somenext, Tr.lit_eachnext, Tr.lit_sometill, Tr.lit_eachtill, Tr.lit_someever, Tr.lit_eachever, Tr.lit_somealways, Tr.lit_eachalways, Tr.lit_mark, Tr.lit_loop, Tr.lit_rank, Tr.lit_walk, Tr.lit_shut, Tr.lit_out, Tr.lit_here, Tr.lit_dead, Tr.lit_plain, Tr.lit_step, Tr.lit_none, Tr.lit_fair, Tr.lit_answer, Tr.lit_p, Tr.lit_wet, Tr.lit_darkness, Tr.lit_x, Tr.lit_q, Tr.lit_empty, Tr.lit_in, Tr.lit_letters, Tr.z_kept, Tr.z_catX12, Tr.z_catT12, Tr.z_ixt2, ↓reduceIte, ite_true, ite_false, Nat.reduceAdd, Nat.reduceSub, Nat.reduceLT, Nat.reduceLeDiff, Nat.zero_add, Nat.lt_add_one, Nat.zero_lt_succ, decide_true, decide_false, decide_eq_true_eq, decide_eq_false_iff_not, Bool.not_eq_true, Bool.not_eq_false, Bool.not_true, Bool.not_false, Bool.not_eq_true', Bool.and_true, Bool.true_and, Bool.and_self, Bool.and_eq_true, Bool.or_eq_true, not_true_eq_false, not_false_eq_true, eq_self, and_self, and_true, true_and, false_and, and_false, or_true, true_or, or_false, false_or, reduceCtorEq, Bool.false_eq_true, Int.toNat_natCast, Int.reduceToNat, Int.reduceEq, Int.reduceLT, Int.reduceLE, Int.reduceNeg, Int.reduceAdd, Int.reduceSub, Int.reduceMul, List.length_map, Bool.not_not, Bool.not_eq_eq_eq_not, Decidable.not_not, Nat.reduceEqDiff, Bool.false_and, Bool.and_false, Option.isSome_some, Option.isSome_none, Option.isNone_some, Option.isNone_none, $ls,*]) }

def nmS (c k : Int) : Str := ⟨(wdy c k).toArray⟩
def msF (c : Int) (W : Int → List Int) : List (Str × List Int) := (rgI 2).map fun k => (nmS c k, W k)
theorem rgI2 : rgI 2 = [0, 1] := rfl
theorem nmS_inj {c i j : Int} (h : nmS c i = nmS c j) : wdy c i = wdy c j := str_inj.mp h
theorem mks_ok {n : Nat} {c : Int} {W : Int → List Int} (hW : ∀ k, Asc n (W k)) (hn : n ≤ 60) : Mks n (msF c W) := by
  refine ⟨fun m hm => ?_, ?_, fun m hm => ?_, by simp [msF, rgI2]⟩
  · obtain ⟨k, _, rfl⟩ := List.mem_map.mp hm
    exact is_mark_ok _ (wdy_nm c k)
  · have : (msF c W).map (·.1) = [nmS c 0, nmS c 1] := rfl
    rw [this]
    have ne : nmS c 0 ≠ nmS c 1 := fun e => wdy_ne c 0 1 (by omega) (by omega) (by omega) (nmS_inj e)
    simp [ne]
  · obtain ⟨k, _, rfl⟩ := List.mem_map.mp hm
    exact (hW k).okl hn
def wyF (c k : Int) : Int := ([3, 5, 1, 4, 2, 6] : List Int).getD ((c / 6 + k) % 6).toNat 0
theorem sets_ex (c : Int) (n : Nat) (hn : n ≤ 60) : ∃ W : Int → List Int, (∀ k, Asc n (W k)) ∧ ∀ k, m_law_set_by [.lf (.int (c + k)), .lf (.int (n : Int)), .lf (.int (wyF c k))] = some (li true (W k), [.lf (.int (c + k)), .lf (.int (n : Int)), .lf (.int (wyF c k))]) := by
  obtain ⟨W, h⟩ := Classical.axiomOfChoice fun k : Int => set_by (c + k) n hn (wyF c k)
  exact ⟨W, fun k => (h k).1, fun k => (h k).2⟩
theorem way_ix (c k : Int) : oIx (.nd true .lst [.lf (.int 3), .lf (.int 5), .lf (.int 1), .lf (.int 4), .lf (.int 2), .lf (.int 6)]) (.lf (.int ((c / 6 + k) % 6))) = some (.lf (.int (wyF c k))) := by
  have z0 := Int.emod_nonneg (c / 6 + k) (b := 6) (by omega)
  have z1 := Int.emod_lt_of_pos (c / 6 + k) (b := 6) (by omega)
  exact z_ixli true [3, 5, 1, 4, 2, 6] ((c / 6 + k) % 6) z0 (by simp; omega)
theorem ok_tl (o n f) : okT (tl o n f) = some (tl o n f) := rfl
theorem mks_tl (o : Bool) (c : Int) (W : Int → List Int) : (.nd o .lst ((rgI 2).map fun k => mk1 o (nmS c k, W k)) : T) = mks o (msF c W) := by
  unfold mks msF; rw [List.map_map]; rfl
theorem mk1_of (o : Bool) (c k : Int) (xs : List Int) : (.nd false .tup [tx (wdy c k), li o xs] : T) = mk1 o (nmS c k, xs) := rfl
end Pm


set_option Elab.async false
set_option linter.all false
set_option autoImplicit false
set_option maxRecDepth 100000
set_option maxHeartbeats 4000000
namespace Ma
open PySem PySem.Spec PyProof.Rows L2 Tr Wk Pm
local macro_rules | `(tactic| exists $es,*) => do { let ls ← es.getElems.mapM fun e => `(Lean.Parser.Tactic.simpLemma| $e:term); `(tactic| simp -implicitDefEqProofs (disch := (first | assumption | omega | decide | (simp only [List.length_cons, List.length_nil, List.length_append, List.length_map, Tr.rgI_len]; omega) | (simp only [List.length_cons, List.length_nil, List.length_append, List.length_map, Int.toNat_natCast] at *; omega))) only [Tr.okT_lf, Tr.okT_nd, Tr.okT_li, Tr.okT_ll, Tr.okT_dk, Tr.okT_mks, Tr.okT_mk1, Tr.okT_mch, Tr.okT_scr, Tr.okT_tp, Tr.okO_some, Tr.gV_ev, Tr.gC_ev, Tr.gG_ev, Tr.fM_ev, Tr.fS_ev, Tr.gM_ev, Tr.gS_ev, Tr.fP_ev, Tr.fQ_ev, Tr.vr_ev, Tr.fRe_ev, Tr.re_ev, Tr.fO1_ev, Tr.o1V_ev, Tr.o1_ev, Tr.fO2V_ev, Tr.o2V_ev, Tr.fO2v'_ev, Tr.fO2v_ev, Tr.o2v_ev, Tr.fO2o'_ev, Tr.fO2o_ev, Tr.o2o_ev, Tr.fO2c'_ev, Tr.fO2c_ev, Tr.o2c_ev, Tr.fO2n''_ev, Tr.fO2n'_ev, Tr.fO2n_ev, Tr.o2n_ev, Tr.fAnd_ev, Tr.fOr_ev, Tr.dAnd_ev, Tr.dOr_ev, Tr.ite_BB, Tr.ite_decF, Tr.ite_Tdec, Tr.z_cast, Tr.z_ndec, Tr.ite_TF, Tr.ite_FT, Tr.bind_ite, Tr.aNil_ev, Tr.fCons'_ev, Tr.fCons_ev, Tr.aCons_ev, Tr.fCall'_ev, Tr.fCall_ev, Tr.dCall_ev, Tr.wb_nil, Tr.wb_none, Tr.fWb_ev, Tr.wb_some, Tr.fMeth'_ev, Tr.fMeth_ev, Tr.dMeth_ev, Tr.fMake'_ev, Tr.fMake_ev, Tr.dMake_ev, Tr.fSeq_nx, Tr.fSeq_rt, Tr.fSeq_bk, Tr.fSeq_ct, Tr.dSeq_ev, Tr.fIf_ev, Tr.dIf_ev, Tr.fSet_ev, Tr.dSet_ev, Tr.fRet_ev, Tr.dRet_ev, Tr.fEx_ev, Tr.dEx_ev, Tr.dRetN_ev, Tr.dNx_ev, Tr.dBk_ev, Tr.dCt_ev, Tr.dFail_ev, Tr.fPut''_ev, Tr.fPut'_ev, Tr.fPut1_ev, Tr.fPut_ev, Tr.dPut_ev, Tr.fMut3_ev, Tr.fMut2_ev, Tr.fMut1_ev, Tr.fMut_ev, Tr.dMut_ev, Tr.fLst_ev, Tr.fTup_ev, Tr.dLst_ev, Tr.dTup_ev, Tr.dDic_ev, Tr.fBw_ev, Tr.bw_ev, Tr.fFz_ev, Tr.fz_ev, Tr.fAug''_ev, Tr.fAug'_ev, Tr.fAug_ev, Tr.dAug_ev, Tr.z_ex, Tr.z_exT, Tr.fRng_nat, Tr.dRng_ev, Tr.fIt'_ev, Tr.fIt_ev, Tr.dIt_ev, Tr.fFor_ev, Tr.dFor_ev, Tr.gN_ev, Tr.fG_ev, Tr.gT2_ev, Tr.gT2_mk1, Tr.dFr_nil, Tr.turn_ev, Tr.fFr_nx, Tr.fFr_ct, Tr.fFr_bk, Tr.fFr_rt, Tr.dFr_cons, Tr.fLc'_ev, Tr.fLc_ev, Tr.dLc_ev, Tr.dLr_nil, Tr.wipeT_nil, Tr.wipeT_cons, Tr.backT_nil, Tr.backT_cons, Tr.cleanAt_nil, Tr.cleanAt_cons, Tr.fFun_rt, Tr.fFun_nx, Tr.dFun_ev, Tr.outs_cons, Tr.outs_nil, Tr.frzs_nil, Tr.frzs_cons, Tr.z_frz1, Tr.z_frz2, Tr.z_frz3, Tr.z_frz4, Tr.z_frz5, Tr.z_frz6, Tr.z_frz7, Tr.z_frz8, Tr.z_frz9, Tr.z_frz10, Tr.z_frz11, Tr.z_cln1, Tr.z_cln2, Tr.z_cln3, Tr.z_cln4, Tr.z_cln5, Tr.z_cln6, Tr.z_cln7, Tr.z_cln8, Tr.z_cln9, Tr.z_cln10, Tr.z_clns1, Tr.z_clns2, Tr.z_clns3, Tr.z_pure1, Tr.z_pure2, Tr.z_pure3, Tr.z_pure4, Tr.z_pure5, Tr.z_pure6, Tr.z_pure7, Tr.z_lfI, Tr.z_li, Tr.z_add, Tr.z_sub, Tr.z_mulr, Tr.z_mod, Tr.z_div, Tr.z_lt, Tr.z_le, Tr.z_gt, Tr.z_ge, Tr.z_eq, Tr.z_ne, Tr.z_neg, Tr.z_eqli, Tr.z_neli, Tr.z_eqnil, Tr.z_nenil, Tr.z_inli, Tr.z_ninli, Tr.z_indk, Tr.z_nindk, Tr.z_ll, Tr.z_mks, Tr.z_nil, Tr.z_appll, Tr.z_int1, Tr.z_int2, Tr.z_len1, Tr.z_len2, Tr.z_len3, Tr.z_len4, Tr.z_len5, Tr.z_len6, Tr.z_len7, Tr.z_not, Tr.z_isi1, Tr.z_isi2, Tr.z_isi3, Tr.z_isi4, Tr.z_isi5, Tr.z_isi6, Tr.z_list1, Tr.z_sort1, Tr.z_sort2, Tr.z_app1, Tr.z_app2, Tr.z_pop1, Tr.z_clr1, Tr.z_clr2, Tr.z_rev1, Tr.z_ext1, Tr.z_cat1, Tr.z_it1, Tr.z_it2, Tr.z_it3, Tr.z_it4, Tr.z_ty1, Tr.z_ty2, Tr.z_ty3, Tr.z_ty4, Tr.z_fst, Tr.z_fma, Tr.z_ffa, Tr.z_ins1, Tr.z_ins2, Tr.z_ins3, Tr.z_ins4, Tr.z_ins5, Tr.z_ixli, Tr.z_ixll, Tr.z_ixlast, Tr.z_setdk, Tr.fDic1_ev, Tr.fDic1'_ev, Tr.dDic1_ev, Tr.fLRg_nat, Tr.dLRg_ev, Tr.z_len8, Tr.z_bind_some, Tr.z_get0, Tr.z_gets, Tr.z_getD0, Tr.z_getDs, Tr.z_set0, Tr.z_sets, Tr.z_app, Tr.z_nil_app, Tr.z_app_nil, Tr.z_map0, Tr.z_mapc, Tr.z_rep0, Tr.z_reps, Tr.z_lenc, Tr.z_lenn, Tr.z_c0, Tr.z_c1, Tr.z_c2, Tr.z_c3, Tr.z_okoV, Tr.z_okrk, Tr.z_okrl, Tr.z_frzoV, Tr.z_clnoV, Tr.z_pureoV, Tr.z_frzrk, Tr.z_clnrk, Tr.z_frzrl, Tr.z_clnrl, Tr.z_ixrl, Tr.z_lenrl, Tr.z_isirl, Tr.z_tyrl, Tr.z_clrrl, Tr.z_oVs, Tr.z_oVn, Tr.z_rks, Tr.z_rkn, Tr.z_ixt0, Tr.z_ixt1, Tr.z_isN1, Tr.z_isN2, Tr.z_isN3, Tr.z_notN1, Tr.z_notN2, Tr.z_notN3, Tr.z_isN4, Tr.z_notN4, Tr.z_isN5, Tr.z_notN5, Tr.fCh3_ev, Tr.fCh2_ev, Tr.fCh1_ev, Tr.z_ch, Tr.z_okdls, Tr.z_frzdls, Tr.z_clndls, Tr.z_ixdls, Tr.z_indls, Tr.z_okdds, Tr.z_frzdds, Tr.z_clndds, Tr.z_ixdds, Tr.fAsg'_ev, Tr.fAsg_ev, Tr.dAsg_ev, Tr.fBwS_ev, Tr.bwS_ev, Tr.fPt_ev, Tr.ptT_no, Tr.ptT_so, Tr.fSl2_ev, Tr.fSl1_ev, Tr.fSl_ev, Tr.dSl_ev, Tr.z_slli, Tr.z_cutTail, Tr.z_cutInit, Tr.z_okst, Tr.z_frzst, Tr.z_clnst, Tr.z_purest, Tr.z_addst, Tr.z_lenst, Tr.z_inst1, Tr.z_ninst1, Tr.z_ixst, Tr.eqL_self, Tr.eqL_nn, Tr.eqL_nc, Tr.eqL_cn, Tr.eqL_cc, Tr.z_eqst, Tr.z_nest, Tr.z_insl, Tr.z_ninsl, Tr.z_sq1, Tr.z_sq2, Tr.z_sq3, Tr.z_itst, Tr.z_isist, Tr.z_slst, Tr.z_cutOne, Tr.lit_all, Tr.lit_not, Tr.lit_both, Tr.lit_either, Tr.lit_somenext, Tr.lit_eachnext, Tr.lit_sometill, Tr.lit_eachtill, Tr.lit_someever, Tr.lit_eachever, Tr.lit_somealways, Tr.lit_eachalways, Tr.lit_mark, Tr.lit_loop, Tr.lit_rank, Tr.lit_walk, Tr.lit_shut, Tr.lit_out, Tr.lit_here, Tr.lit_dead, Tr.lit_plain, Tr.lit_step, Tr.lit_none, Tr.lit_fair, Tr.lit_answer, Tr.lit_p, Tr.lit_wet, Tr.lit_darkness, Tr.lit_x, Tr.lit_q, Tr.lit_empty, Tr.lit_in, Tr.lit_letters, Tr.z_kept, Tr.z_catX12, Tr.z_catT12, Tr.z_ixt2, ↓reduceIte, ite_true, ite_false, Nat.reduceAdd, Nat.reduceSub, Nat.reduceLT, Nat.reduceLeDiff, Nat.zero_add, Nat.lt_add_one, Nat.zero_lt_succ, decide_true, decide_false, decide_eq_true_eq, decide_eq_false_iff_not, Bool.not_eq_true, Bool.not_eq_false, Bool.not_true, Bool.not_false, Bool.not_eq_true', Bool.and_true, Bool.true_and, Bool.and_self, Bool.and_eq_true, Bool.or_eq_true, not_true_eq_false, not_false_eq_true, eq_self, and_self, and_true, true_and, false_and, and_false, or_true, true_or, or_false, false_or, reduceCtorEq, Bool.false_eq_true, Int.toNat_natCast, Int.reduceToNat, Int.reduceEq, Int.reduceLT, Int.reduceLE, Int.reduceNeg, Int.reduceAdd, Int.reduceSub, Int.reduceMul, List.length_map, Bool.not_not, Bool.not_eq_eq_eq_not, Decidable.not_not, Nat.reduceEqDiff, Bool.false_and, Bool.and_false, Option.isSome_some, Option.isSome_none, Option.isNone_some, Option.isNone_none, $ls,*]) }

theorem loop_ok {n : Nat} (rs fs : List (List Int)) (hrs : Stps n rs) (hfs : Frs n fs) {V P L : List Int} (hV : ∀ x ∈ V, 0 ≤ x ∧ x < (n : Int)) (s c : Int) (w : Wlk rs P s c) (hP : ∀ z ∈ P, z ∈ V) (hL : Lp rs fs V L c) (h1 : P.length ≤ 60) (h2 : L.length ≤ 500) :
    m_law_loop [.nd false .tup [tx [108, 111, 111, 112], li false P, li false L], ll false rs, ll false fs, li false (rgI n), .lf (.int s)] = some (.lf (.bl true), [.nd false .tup [tx [108, 111, 111, 112], li false P, li false L], ll false rs, .no, li false (rgI n), .lf (.int s)]) := by
  have nP := head_ne w.hd
  have nL := head_ne hL.hd
  have lP := List.length_pos_iff.mpr nP
  have lL := List.length_pos_iff.mpr nL
  have n60 := hrs.le
  have w1 := law_walk_ok rs hrs w.hd (by omega) (fun z hz => hV z (hP z hz)) w.ch
  have w2 := law_walk_ok rs hrs hL.hd (by omega) (fun z hz => hV z (hL.inn z hz)) hL.ch
  obtain ⟨a, ha, hca⟩ := hL.ls
  have e2 := getD_lst w.ls
  have e3 := getD0 hL.hd
  have e4 := getD_lst ha
  have ba := hV a (hL.inn a (List.mem_of_getLast? ha))
  have ba0 := ba.1
  have al : a.toNat < rs.length := by rw [hrs.len]; omega
  obtain ⟨env', g0, x5, rfl, cx5⟩ := lp_li (dg := gN 5) (d := l_law_loop_1) (P ++ L) (fun _ env => ∃ x5, env = e_law_loop (.nd false .tup [tx [108, 111, 111, 112], li false P, li false L]) (ll false rs) (ll false fs) (li false (rgI n)) (.lf (.int s)) x5 .no ∧ cln x5 = true) (e_law_loop (.nd false .tup [tx [108, 111, 111, 112], li false P, li false L]) (ll false rs) (ll false fs) (li false (rgI n)) (.lf (.int s)) .no .no) ⟨_, rfl, cln_no⟩ (by
    rintro i hi env ⟨x5, rfl, cx⟩
    have hx : (P ++ L)[i] ∈ P ++ L := List.getElem_mem hi
    have hr : (P ++ L)[i] ∈ rgI n := by
      rcases List.mem_append.mp hx with h | h
      · exact mem_rgI.mpr (hV _ (hP _ h))
      · exact mem_rgI.mpr (hV _ (hL.inn _ h))
    exists l_law_loop_1, hr
    exact ⟨_, rfl, cln_lf _⟩)
  obtain ⟨env', g1, x6, rfl⟩ := lp_ll (dg := gN 6) (d := l_law_loop_2) fs (fun _ env => ∃ x6, env = e_law_loop (.nd false .tup [tx [108, 111, 111, 112], li false P, li false L]) (ll false rs) .no (li false (rgI n)) (.lf (.int s)) x5 x6) (e_law_loop (.nd false .tup [tx [108, 111, 111, 112], li false P, li false L]) (ll false rs) .no (li false (rgI n)) (.lf (.int s)) x5 .no) ⟨_, rfl⟩ (by
    rintro i hi env ⟨x6, rfl⟩
    obtain ⟨z, hz, hf⟩ := hL.mt fs[i] (List.getElem_mem hi)
    generalize fs[i] = f at hf
    have hne : (L.filter fun x => decide (x ∈ f)) ≠ [] := fun e => by
      have : z ∈ L.filter fun x => decide (x ∈ f) := List.mem_filter.mpr ⟨hz, by simpa using hf⟩
      rw [e] at this; cases this
    have hpos : ¬ ((L.filter fun x => decide (x ∈ f)).length : Int) = 0 := by have := List.length_pos_iff.mpr hne; omega
    have lc : dLr (gN 5) y_law_loop_1 x_law_loop_1 [5] (L.map lfI) [] (e_law_loop (.nd false .tup [tx [108, 111, 111, 112], li false P, li false L]) (ll false rs) .no (li false (rgI n)) (.lf (.int s)) .no (li false f)) = some ((L.filter fun x => decide (x ∈ f)).map lfI, e_law_loop (.nd false .tup [tx [108, 111, 111, 112], li false P, li false L]) (ll false rs) .no (li false (rgI n)) (.lf (.int s)) .no (li false f)) := by
      refine lc_filter _ _ _ (by omega) fun x hx => ?_
      refine ⟨e_law_loop (.nd false .tup [tx [108, 111, 111, 112], li false P, li false L]) (ll false rs) .no (li false (rgI n)) (.lf (.int s)) (.lf (.int x)) (li false f), e_law_loop (.nd false .tup [tx [108, 111, 111, 112], li false P, li false L]) (ll false rs) .no (li false (rgI n)) (.lf (.int s)) (.lf (.int x)) (li false f), rfl, ?_, fun _ => ⟨e_law_loop (.nd false .tup [tx [108, 111, 111, 112], li false P, li false L]) (ll false rs) .no (li false (rgI n)) (.lf (.int s)) .no (li false f), ?_, rfl⟩, fun _ => rfl⟩
      · exists y_law_loop_1
      · exists x_law_loop_1
    exists l_law_loop_2, lc, hpos, cx5
    exact ⟨_, rfl⟩)
  have sm : (P.length : Int) + L.length ≤ 600 := by omega
  exists m_law_loop, bn_law_loop, w1, w2, e2, e3, e4, hca, g0, g1, sm
theorem is_rank_ok (d : Int) (m : Option Int) (fs : List (List Int)) (h0 : 0 ≤ d) (hm : ∀ k, m = some k → 0 ≤ k ∧ k < fs.length) : m_law_is_rank [.nd false .tup [tx [114, 97, 110, 107], .lf (.int d), oV m], ll false fs] = some (.lf (.bl true), [.nd false .tup [tx [114, 97, 110, 107], .lf (.int d), oV m], ll false fs]) := by
  have w := whole1 d
  have hd : ¬ d < 0 := by omega
  cases m with
  | none => exists m_law_is_rank, bn_law_is_rank, w, hd
  | some k =>
    have w2 := whole1 k
    have hk := hm k rfl
    have hk1 := hk.1
    have hk2 := hk.2
    exists m_law_is_rank, bn_law_is_rank, w, w2, hd, hk1, hk2
theorem falls_ok {n : Nat} (rs fs : List (List Int)) {K : List Int} (c : CoreOf n rs fs (rgI n) K) {x y : Int} (hx : x ∈ rgI n) (hk : x ∉ K) (hy : y ∈ rs.getD x.toNat []) (hyW : y ∈ rgI n) (a1 b1 : Int) (a2 b2 : Option Int) (ea : RK n rs fs (rgI n) x = (a1, a2)) (eb : RK n rs fs (rgI n) y = (b1, b2)) :
    y ∉ K ∧ m_law_falls [.nd false .tup [tx [114, 97, 110, 107], .lf (.int a1), oV a2], .nd false .tup [tx [114, 97, 110, 107], .lf (.int b1), oV b2], ll false fs, .lf (.int x), .lf (.int y)] = some (.lf (.bl true), [.nd false .tup [tx [114, 97, 110, 107], .lf (.int a1), oV a2], .nd false .tup [tx [114, 97, 110, 107], .lf (.int b1), oV b2], ll false fs, .lf (.int x), .lf (.int y)]) := by
  obtain ⟨hky, h⟩ := rank_falls (rgI_asc n) c hx hk hy hyW
  refine ⟨hky, ?_⟩
  have ra := is_rank_ok (RK n rs fs (rgI n) x).1 (RK n rs fs (rgI n) x).2 fs rank_pos fun k hk => rank_miss hk
  have rb := is_rank_ok (RK n rs fs (rgI n) y).1 (RK n rs fs (rgI n) y).2 fs rank_pos fun k hk => rank_miss hk
  rw [ea, eb] at h
  rw [ea] at ra
  rw [eb] at rb
  rcases h with h | ⟨h1, h2, m, h3, h4, h5, h6⟩
  · have h' : b1 < a1 := h
    have ra' : m_law_is_rank [.nd false .tup [tx [114, 97, 110, 107], .lf (.int a1), oV a2], ll false fs] = _ := ra
    have rb' : m_law_is_rank [.nd false .tup [tx [114, 97, 110, 107], .lf (.int b1), oV b2], ll false fs] = _ := rb
    exists m_law_falls, bn_law_falls, ra', rb', h'
  · have h1' : b1 = a1 := h1
    have h2' : b2 = a2 := h2
    have h3' : a2 = some m := h3
    subst h1' h2' h3'
    have m0 := h4.1
    have m1 : m.toNat < fs.length := by omega
    have nl : ¬ b1 < b1 := by omega
    have ra' : m_law_is_rank [.nd false .tup [tx [114, 97, 110, 107], .lf (.int b1), .lf (.int m)], ll false fs] = _ := ra
    exists m_law_falls, bn_law_falls, ra', nl, h5, h6
section
variable {n : Nat} {rs fs : List (List Int)} {V : List Int} {PF LF : Int → List Int}
theorem ix_out (o : Bool) (RF : Int → Int × Option Int) {x : Int} (hx : x ∉ V) (h0 : 0 ≤ x) (h1 : x.toNat < n) : oIx (lv o n V PF LF RF) (.lf (.int x)) = some (.nd false .tup [tx [114, 97, 110, 107], .lf (.int (RF x).1), oV (RF x).2]) := by
  rw [ix_lv o n V PF LF RF x h0 h1, lvT_out hx]
theorem ix_in (o : Bool) (RF : Int → Int × Option Int) {x : Int} (hx : x ∈ V) (h0 : 0 ≤ x) (h1 : x.toNat < n) : oIx (lv o n V PF LF RF) (.lf (.int x)) = some (.nd false .tup [tx [108, 111, 111, 112], li o (PF x), li o (LF x)]) := by
  rw [ix_lv o n V PF LF RF x h0 h1, lvT_in hx]
theorem ranked_ok (hrs : Stps n rs) (c : CoreOf n rs fs (rgI n) V) {x : Int} (hx : x ∈ rgI n) (hk : x ∉ V) :
    m_law_ranked [lv false n V PF LF (RK n rs fs (rgI n)), ll false rs, ll false fs, .lf (.int x)] = some (.lf (.bl true), [lv false n V PF LF (RK n rs fs (rgI n)), ll false rs, ll false fs, .lf (.int x)]) := by
  have n60 := hrs.le
  have bx := mem_rgI.mp hx
  have x0 := bx.1
  have x1 : x.toNat < n := by omega
  have ex := ix_out (PF := PF) (LF := LF) false (RK n rs fs (rgI n)) hk x0 x1
  have rl := row_len hrs bx
  have rl' := rl.2
  have ir := is_rank_ok (RK n rs fs (rgI n) x).1 (RK n rs fs (rgI n) x).2 fs rank_pos fun k hk => rank_miss hk
  have okl := ok_lv false n V PF LF (RK n rs fs (rgI n))
  have frl := frz_lv false n V PF LF (RK n rs fs (rgI n))
  have cll := cln_lv n V PF LF (RK n rs fs (rgI n))
  obtain ⟨env', h1, x4, rfl⟩ := lp_li (dg := gN 4) (d := l_law_ranked_1) (rs.getD x.toNat []) (fun _ env => ∃ x4, env = e_law_ranked (lv false n V PF LF (RK n rs fs (rgI n))) (ll false rs) (ll false fs) (.lf (.int x)) x4) (e_law_ranked (lv false n V PF LF (RK n rs fs (rgI n))) (ll false rs) (ll false fs) (.lf (.int x)) .no) ⟨_, rfl⟩ (by
    rintro j hj env ⟨x4, rfl⟩
    have hy : (rs.getD x.toNat [])[j] ∈ rs.getD x.toNat [] := List.getElem_mem hj
    generalize (rs.getD x.toNat [])[j] = y at hy
    have by' : 0 ≤ y ∧ y < (n : Int) := by
      have e : rs.getD x.toNat [] = rs[x.toNat] := by simp [rl']
      rw [e] at hy
      exact (hrs.okl _ (List.getElem_mem rl')).bd y hy
    have hyW := mem_rgI.mpr by'
    have y0 := by'.1
    have y1 : y.toNat < n := by omega
    obtain ⟨hky, fa⟩ := falls_ok rs fs c hx hk hy hyW (RK n rs fs (rgI n) x).1 (RK n rs fs (rgI n) y).1 (RK n rs fs (rgI n) x).2 (RK n rs fs (rgI n) y).2 rfl rfl
    have ey := ix_out (PF := PF) (LF := LF) false (RK n rs fs (rgI n)) hky y0 y1
    generalize RK n rs fs (rgI n) = RF at *
    exists l_law_ranked_1, ex, ey, fa, okl, frl, cll
    exact ⟨_, rfl⟩)
  generalize RK n rs fs (rgI n) = RF at *
  exists m_law_ranked, bn_law_ranked, ex, ir, h1, okl, frl, cll
theorem told_ok (hrs : Stps n rs) (hfs : Frs n fs) (f6 : fs.length ≤ 6) (c : CoreOf n rs fs (rgI n) V) (hl : ∀ x ∈ V, ∃ c, Wlk rs (PF x) x c ∧ (∀ z ∈ PF x, z ∈ V) ∧ Lp rs fs V (LF x) c ∧ (PF x).length ≤ 60 ∧ (LF x).length ≤ 61 + 60 * fs.length) :
    m_law_told [lv false n V PF LF (RK n rs fs (rgI n)), ll false rs, ll false fs] = some (.lf (.bl true), [lv false n V PF LF (RK n rs fs (rgI n)), ll false rs, ll false fs]) := by
  have n60 := hrs.le
  have hn := hrs.len
  have okl := ok_lv false n V PF LF (RK n rs fs (rgI n))
  have frl := frz_lv false n V PF LF (RK n rs fs (rgI n))
  have cll := cln_lv n V PF LF (RK n rs fs (rgI n))
  have lnl := len_lv false n V PF LF (RK n rs fs (rgI n))
  have isl := isi_lv false n V PF LF (RK n rs fs (rgI n))
  have itl := it_lv false n V PF LF (RK n rs fs (rgI n))
  have rk := fun {x : Int} (hx : x ∈ rgI n) (hk : x ∉ V) => ranked_ok (PF := PF) (LF := LF) hrs c hx hk
  have lo : ∀ x ∈ V, m_law_loop [.nd false .tup [tx [108, 111, 111, 112], li false (PF x), li false (LF x)], ll false rs, ll false fs, li false (rgI n), .lf (.int x)] = some (.lf (.bl true), [.nd false .tup [tx [108, 111, 111, 112], li false (PF x), li false (LF x)], ll false rs, .no, li false (rgI n), .lf (.int x)]) := fun x hx => by
    obtain ⟨cc, w, hP, hL, h1, h2⟩ := hl x hx
    exact loop_ok rs fs hrs hfs (fun z hz => mem_rgI.mp (c.sub z hz)) x cc w hP hL h1 (by omega)
  generalize RK n rs fs (rgI n) = RF at *
  obtain ⟨env', h1, x3, rfl⟩ := lp (dg := gN 3) (d := l_law_told_1) ((rgI n).map (lvT false V PF LF RF)) (fun _ env => ∃ x3, env = e_law_told (lv false n V PF LF RF) (ll false rs) (ll false fs) x3 .no .no) (e_law_told (lv false n V PF LF RF) (ll false rs) (ll false fs) .no .no .no) ⟨_, rfl⟩ (by
    rintro i t env hi ⟨x3, rfl⟩
    rw [List.getElem?_map] at hi
    obtain ⟨x, hx, rfl⟩ := Option.map_eq_some_iff.mp hi
    refine ⟨e_law_told (lv false n V PF LF RF) (ll false rs) (ll false fs) (lvT false V PF LF RF x) .no .no, .inl ?_, _, rfl⟩
    by_cases h : x ∈ V
    · rw [lvT_in h]
      exists l_law_told_1
    · rw [lvT_out h]
      exists l_law_told_1)
  obtain ⟨env', h2, x5, rfl⟩ := lp_li (dg := gN 5) (d := l_law_told_2) (rgI n) (fun _ env => ∃ x5, env = e_law_told (lv false n V PF LF RF) (ll false rs) (ll false fs) x3 (li false (rgI n)) x5) (e_law_told (lv false n V PF LF RF) (ll false rs) (ll false fs) x3 (li false (rgI n)) .no) ⟨_, rfl⟩ (by
    rintro i hi env ⟨x5, rfl⟩
    have hx : (rgI n)[i] ∈ rgI n := List.getElem_mem hi
    generalize (rgI n)[i] = x at hx
    have bx := mem_rgI.mp hx
    have x0 := bx.1
    have x1 : x.toNat < n := by omega
    by_cases h : x ∈ V
    · have ex := ix_in (PF := PF) (LF := LF) false RF h x0 x1
      have l := lo x h
      exists l_law_told_2, ex, l, okl, frl, cll
      exact ⟨_, rfl⟩
    · have ex := ix_out (PF := PF) (LF := LF) false RF h x0 x1
      have r := rk hx h
      exists l_law_told_2, ex, r, okl, frl, cll
      exact ⟨_, rfl⟩)
  exists m_law_told, bn_law_told, lnl, isl, itl, hn, h1, h2, okl, frl, cll
def updF (F : Int → List Int) (a : Int) (xs : List Int) (y : Int) : List Int := if y = a then xs else F y
theorem set_lv (RF : Int → Int × Option Int) (a : Int) (xs ys : List Int) (ha : a ∈ V) (h0 : 0 ≤ a) :
    (.nd true .lst (((rgI n).map (lvT true V PF LF RF)).set a.toNat (.nd false .tup [tx [108, 111, 111, 112], li true xs, li true ys])) : T) = lv true n V (updF PF a xs) (updF LF a ys) RF := by
  rw [map_set _ _ _ h0]
  unfold lv tl
  congr 1
  refine List.map_congr_left fun y _ => ?_
  by_cases e : y = a
  · subst e
    rw [if_pos rfl, lvT_in ha, updF, updF, if_pos rfl, if_pos rfl]
  · rw [if_neg e]
    by_cases h : y ∈ V
    · rw [lvT_in h, lvT_in h, updF, updF, if_neg e, if_neg e]
    · rw [lvT_out h, lvT_out h]
theorem upd_self (F : Int → List Int) (a : Int) : updF F a (F a) = F := funext fun y => by
  unfold updF; by_cases h : y = a
  · rw [if_pos h, h]
  · rw [if_neg h]
theorem clear_ok (RF : Int → Int × Option Int) (env : List T) (a : Int) (ha : a ∈ V) (h0 : 0 ≤ a) (h1 : a < n) (e1 : gV 10 env = some (lv true n V PF LF RF)) (e2 : gV 13 env = some (.lf (.int a))) :
    dMutP0 "list" (dpIx (dpIx (dpV 10) (gV 13)) (gC (.int 1))) mClear env = some (.lf .non, env.set 10 (lv true n V (updF PF a []) LF RF)) := by
  have h := dp_tup (j := 1) (t := li true (PF a)) e1 e2 h0 (by rw [map_at _ _ h0 h1, lvT_in ha]) rfl
  unfold dMutP0
  have h' : dpIx (dpIx (dpV 10) (gV 13)) (gC (.int 1)) env = _ := h
  rw [h', Option.bind_some]
  have e := set_lv (n := n) (V := V) (PF := PF) (LF := LF) RF a [] (LF a) ha h0
  rw [upd_self] at e
  show some (_, env.set 10 _) = _
  rw [← e]; rfl
theorem app_ok (RF : Int → Int × Option Int) (env : List T) (a m : Int) (ha : a ∈ V) (h0 : 0 ≤ a) (h1 : a < n) (e1 : gV 10 env = some (lv true n V PF LF RF)) (e2 : gV 13 env = some (.lf (.int a))) (e3 : gV 1 env = some (.lf (.int m))) (hl : (LF a).length ≤ 1000) :
    dMutP "list" (dpIx (dpIx (dpV 10) (gV 13)) (gC (.int 2))) mAppend (gV 1) env = some (.lf .non, env.set 10 (lv true n V PF (updF LF a (LF a ++ [m])) RF)) := by
  have h := dp_tup (j := 2) (t := li true (LF a)) e1 e2 h0 (by rw [map_at _ _ h0 h1, lvT_in ha]) rfl
  unfold dMutP
  have h' : dpIx (dpIx (dpV 10) (gV 13)) (gC (.int 2)) env = _ := h
  rw [h', Option.bind_some, e3, Option.bind_some, if_pos ⟨rfl, cln_lf _⟩]
  have ap : mAppend (li true (LF a)) [.lf (.int m)] = some (.lf .non, li true (LF a ++ [m])) := by
    have := small hl
    show (if ((LF a).map lfI).length < sizeLine then some (T.lf .non, T.nd true .lst ((LF a).map lfI ++ [lfI m])) else none) = _
    rw [List.length_map, if_pos this]
    unfold li; rw [List.map_append]; rfl
  rw [ap]
  have e := set_lv (n := n) (V := V) (PF := PF) (LF := LF) RF a (PF a) (LF a ++ [m]) ha h0
  rw [upd_self] at e
  show some (_, env.set 10 _) = _
  rw [← e]; rfl
end
theorem turn_ok {n : Nat} (rs fs : List (List Int)) (ms : List (Str × List Int)) (c : Int) {V : List Int} {PF LF : Int → List Int} (hrs : Stps n rs) (hfs : Frs n fs) (f6 : fs.length ≤ 6) (hV : CoreOf n rs fs (rgI n) V)
    (hl : ∀ x ∈ V, ∃ c, Wlk rs (PF x) x c ∧ (∀ z ∈ PF x, z ∈ V) ∧ Lp rs fs V (LF x) c ∧ (PF x).length ≤ 60 ∧ (LF x).length ≤ 61 + 60 * fs.length)
    (e1 : m_lives [mch false rs ms fs] = some (lv true n V PF LF (RK n rs fs (rgI n)), [mch false rs ms fs])) (A B : T) (o2 o3 o8 : Bool) (x9 x10 x11 x13 x14 x15 x16 : T) :
    ∃ y10 y11 y13 y14, l_law_1 (e_law .no (.lf (.int (n : Int))) (ll o2 rs) (ll o3 fs) (.lf (.int c)) A B .no (mch o8 rs ms fs) x9 x10 x11 .no x13 x14 x15 x16) = some (.nx, e_law .no (.lf (.int (n : Int))) (ll o2 rs) (ll o3 fs) (.lf (.int c)) A B .no (mch false rs ms fs) x9 y10 y11 .no y13 y14 x15 x16) := by
  have n60 := hrs.le
  have t1 := told_ok hrs hfs f6 hV hl
  have okl := fun PF LF => ok_lv true n V PF LF (RK n rs fs (rgI n))
  have okf := fun PF LF => ok_lv false n V PF LF (RK n rs fs (rgI n))
  have frl := fun o PF LF => frz_lv o n V PF LF (RK n rs fs (rgI n))
  have clf := fun PF LF => cln_lv n V PF LF (RK n rs fs (rgI n))
  have tyl := fun PF LF => ty_lv true n V PF LF (RK n rs fs (rgI n))
  have clr := fun PF LF => clr_lv n V PF LF (RK n rs fs (rgI n))
  have io := fun (o : Bool) (PF LF : Int → List Int) {x : Int} (hx : x ∉ V) (h0 : 0 ≤ x) (h1 : x.toNat < n) => ix_out (PF := PF) (LF := LF) o (RK n rs fs (rgI n)) hx h0 h1
  have ii := fun (o : Bool) (PF LF : Int → List Int) {x : Int} (hx : x ∈ V) (h0 : 0 ≤ x) (h1 : x.toNat < n) => ix_in (PF := PF) (LF := LF) o (RK n rs fs (rgI n)) hx h0 h1
  have cl := fun (PF LF : Int → List Int) (env : List T) (a : Int) => clear_ok (PF := PF) (LF := LF) (V := V) (n := n) (RK n rs fs (rgI n)) env a
  have ap := fun (PF LF : Int → List Int) (env : List T) (a m : Int) => app_ok (PF := PF) (LF := LF) (V := V) (n := n) (RK n rs fs (rgI n)) env a m
  generalize RK n rs fs (rgI n) = RF at *
  have l1 : ∀ A1 A2 A3 A4 A5 A6 A7 A8 A9 B1 B2 B3 B4 B5, dLr (gN 12) y_law_6 x_law_6 [12] (rngT n) [] [A1, A2, A3, A4, A5, A6, A7, A8, A9, B1, lv true n V PF LF RF, B2, .no, B3, B4, B5, x16] = some (((rgI n).filter fun x => decide (x ∈ V)).map lfI, [A1, A2, A3, A4, A5, A6, A7, A8, A9, B1, lv true n V PF LF RF, B2, .no, B3, B4, B5, x16]) := fun A1 A2 A3 A4 A5 A6 A7 A8 A9 B1 B2 B3 B4 B5 => by
    rw [rngT_eq]
    refine lc_filter _ _ _ (by rw [rgI_len]; omega) fun x hx => ?_
    have bx := mem_rgI.mp hx
    have x0 := bx.1
    have x1 : x.toNat < n := by omega
    refine ⟨[A1, A2, A3, A4, A5, A6, A7, A8, A9, B1, lv true n V PF LF RF, B2, .lf (.int x), B3, B4, B5, x16], [A1, A2, A3, A4, A5, A6, A7, A8, A9, B1, lv true n V PF LF RF, B2, .lf (.int x), B3, B4, B5, x16], rfl, ?_, fun _ => ⟨[A1, A2, A3, A4, A5, A6, A7, A8, A9, B1, lv true n V PF LF RF, B2, .no, B3, B4, B5, x16], ?_, rfl⟩, fun _ => rfl⟩
    · by_cases h : x ∈ V
      · have e := ii true PF LF h x0 x1
        exists y_law_6, e, okl, h
      · have e := io true PF LF h x0 x1
        exists y_law_6, e, okl, h
    · exists x_law_6
  generalize hL : ((rgI n).filter fun x => decide (x ∈ V)) = L at l1
  have mL : ∀ x, x ∈ L ↔ x ∈ rgI n ∧ x ∈ V := fun x => by rw [← hL, List.mem_filter, decide_eq_true_eq]
  have lL : L.length ≤ n := by rw [← hL]; exact Nat.le_trans (List.length_filter_le _ _) (by rw [rgI_len]; omega)
  by_cases hne : L = []
  · subst hne
    exists l_law_1, e1, t1, l1, okl, okf, frl, tyl, clf, clr
    exact ⟨_, _, _, _, rfl⟩
  · have bL : 0 < (L.length : Int) := by have := List.length_pos_iff.mpr hne; omega
    have d0 := Int.emod_nonneg c (b := (L.length : Int)) (by omega)
    have d1 := Int.emod_lt_of_pos c (b := (L.length : Int)) (by omega)
    obtain ⟨a, ha⟩ : ∃ a, L.getD (c % (L.length : Int)).toNat 0 = a := ⟨_, rfl⟩
    have aL : a ∈ L := by
      have hlt : (c % (L.length : Int)).toNat < L.length := by omega
      have : L.getD (c % (L.length : Int)).toNat 0 = L[(c % (L.length : Int)).toNat] := by simp [hlt]
      rw [← ha, this]; exact List.getElem_mem hlt
    have aV := ((mL a).mp aL).2
    have ba := mem_rgI.mp ((mL a).mp aL).1
    have l2 : ∀ A1 A2 A3 A4 A5 A6 A7 A8 A9 B1 B2 B4 B5, dLr (gN 12) y_law_7 x_law_7 [12] (L.map lfI) [] [A1, A2, A3, A4, A5, A6, A7, A8, A9, B1, lv true n V PF LF RF, B2, .no, .lf (.int a), B4, B5, x16] = some ((L.filter fun x => decide (¬ x = a)).map (fun x => tp true (PF x) (LF x)), [A1, A2, A3, A4, A5, A6, A7, A8, A9, B1, lv true n V PF LF RF, B2, .no, .lf (.int a), B4, B5, x16]) := fun A1 A2 A3 A4 A5 A6 A7 A8 A9 B1 B2 B4 B5 => by
      refine lc_gen _ _ _ _ _ (by omega) fun x hx => ?_
      have bx := mem_rgI.mp ((mL x).mp hx).1
      have x0 := bx.1
      have x1 : x.toNat < n := by omega
      have xV := ((mL x).mp hx).2
      have e := ii true PF LF xV x0 x1
      refine ⟨[A1, A2, A3, A4, A5, A6, A7, A8, A9, B1, lv true n V PF LF RF, B2, .lf (.int x), .lf (.int a), B4, B5, x16], [A1, A2, A3, A4, A5, A6, A7, A8, A9, B1, lv true n V PF LF RF, B2, .lf (.int x), .lf (.int a), B4, B5, x16], rfl, ?_, fun _ => ⟨[A1, A2, A3, A4, A5, A6, A7, A8, A9, B1, lv true n V PF LF RF, B2, .lf (.int x), .lf (.int a), B4, B5, x16], ?_, rfl⟩, fun _ => rfl⟩
      · exists y_law_7
      · exists x_law_7, e, okl
        rfl
    obtain ⟨PF', hPF⟩ : ∃ F, updF PF a [] = F := ⟨_, rfl⟩
    obtain ⟨LF', hLF⟩ : ∃ F, updF LF a (LF a ++ [(n : Int)]) = F := ⟨_, rfl⟩
    have c1 : ∀ A1 A2 A3 A4 A5 A6 A7 A8 A9 B1 B2 B3 B4 B5, dMutP0 "list" (dpIx (dpIx (dpV 10) (gV 13)) (gC (.int 1))) mClear [A1, A2, A3, A4, A5, A6, A7, A8, A9, B1, lv true n V PF LF RF, B2, B3, .lf (.int a), B4, B5, x16] = some (.lf .non, [A1, A2, A3, A4, A5, A6, A7, A8, A9, B1, lv true n V PF' LF RF, B2, B3, .lf (.int a), B4, B5, x16]) := fun A1 A2 A3 A4 A5 A6 A7 A8 A9 B1 B2 B3 B4 B5 => by
      rw [cl PF LF _ a aV ba.1 ba.2 rfl rfl, hPF]; rfl
    have lLa : (LF a).length ≤ 1000 := by
      obtain ⟨_, _, _, _, _, h⟩ := hl a aV
      omega
    have c2 : ∀ A1 A3 A4 A5 A6 A7 A8 A9 B1 B2 B3 B4 B5, dMutP "list" (dpIx (dpIx (dpV 10) (gV 13)) (gC (.int 2))) mAppend (gV 1) [A1, .lf (.int (n : Int)), A3, A4, A5, A6, A7, A8, A9, B1, lv true n V PF' LF RF, B2, B3, .lf (.int a), B4, B5, x16] = some (.lf .non, [A1, .lf (.int (n : Int)), A3, A4, A5, A6, A7, A8, A9, B1, lv true n V PF' LF' RF, B2, B3, .lf (.int a), B4, B5, x16]) := fun A1 A3 A4 A5 A6 A7 A8 A9 B1 B2 B3 B4 B5 => by
      rw [ap PF' LF _ a n aV ba.1 ba.2 rfl rfl rfl lLa, hLF]; rfl
    have l3 : ∀ A1 A2 A3 A4 A5 A6 A7 A8 A9 B1 B2 B4 B5 B6, dLr (gN 12) y_law_8 x_law_8 [12] (L.map lfI) [] [A1, A2, A3, A4, A5, A6, A7, A8, A9, B1, lv false n V PF' LF' RF, B2, .no, .lf (.int a), B4, B5, B6] = some ((L.filter fun x => decide (¬ x = a)).map (fun x => tp false (PF x) (LF x)), [A1, A2, A3, A4, A5, A6, A7, A8, A9, B1, lv false n V PF' LF' RF, B2, .no, .lf (.int a), B4, B5, B6]) := fun A1 A2 A3 A4 A5 A6 A7 A8 A9 B1 B2 B4 B5 B6 => by
      refine lc_gen _ _ _ _ _ (by omega) fun x hx => ?_
      have bx := mem_rgI.mp ((mL x).mp hx).1
      have x0 := bx.1
      have x1 : x.toNat < n := by omega
      have xV := ((mL x).mp hx).2
      have e := ii false PF' LF' xV x0 x1
      refine ⟨[A1, A2, A3, A4, A5, A6, A7, A8, A9, B1, lv false n V PF' LF' RF, B2, .lf (.int x), .lf (.int a), B4, B5, B6], [A1, A2, A3, A4, A5, A6, A7, A8, A9, B1, lv false n V PF' LF' RF, B2, .lf (.int x), .lf (.int a), B4, B5, B6], rfl, ?_, fun hxa => ⟨[A1, A2, A3, A4, A5, A6, A7, A8, A9, B1, lv false n V PF' LF' RF, B2, .lf (.int x), .lf (.int a), B4, B5, B6], ?_, rfl⟩, fun _ => rfl⟩
      · exists y_law_8
      · have ne : ¬ x = a := by simpa using hxa
        have e1 : PF' x = PF x := by rw [← hPF, updF, if_neg ne]
        have e2 : LF' x = LF x := by rw [← hLF, updF, if_neg ne]
        rw [e1, e2] at e
        exists x_law_8, e, okf
        rfl
    have fk : frzs ((L.filter fun x => decide (¬ x = a)).map fun x => tp true (PF x) (LF x)) = (L.filter fun x => decide (¬ x = a)).map fun x => tp false (PF x) (LF x) := by
      rw [frzs_map, List.map_map]
      refine List.map_congr_left fun x _ => ?_
      exact frz_tp true _ _
    have fk2 : frzs ((L.filter fun x => decide (¬ x = a)).map fun x => tp false (PF x) (LF x)) = (L.filter fun x => decide (¬ x = a)).map fun x => tp false (PF x) (LF x) := by
      rw [frzs_map, List.map_map]
      refine List.map_congr_left fun x _ => ?_
      exact frz_tp false _ _
    have ne1 : oNe (.nd false .lst ((L.filter fun x => decide (¬ x = a)).map fun x => tp false (PF x) (LF x))) (.nd true .lst ((L.filter fun x => decide (¬ x = a)).map fun x => tp false (PF x) (LF x))) = some (.lf (.bl false)) := by
      refine oNe_alike (n := 3) (by omega) (.lst fun x hx => ?_) rfl
      obtain ⟨y, _, rfl⟩ := List.mem_map.mp hx
      refine .tup fun z hz => ?_
      rcases List.mem_cons.mp hz with rfl | hz
      · exact .li _ _
      · rw [show z = li false (LF y) by simpa using hz]; exact .li _ _
    have okk : ∀ o, okT (.nd o .lst ((L.filter fun x => decide (¬ x = a)).map fun x => tp false (PF x) (LF x))) = some (.nd o .lst ((L.filter fun x => decide (¬ x = a)).map fun x => tp false (PF x) (LF x))) := fun _ => rfl
    exists l_law_1, e1, t1, l1, okl, okf, frl, tyl, clf, clr, hne, ha, l2, c1, c2, l3, fk, fk2, ne1, okk
    exact ⟨_, _, _, _, rfl⟩
theorem law_true : ∀ ns : List Int, ns.length ≤ 63 → ∃ ts, m_law [scrT ns] = some (.lf (.bl true), ts) := by
  intro ns hns
  obtain ⟨n, n0, n12, e1⟩ := small_by (cell ns 0)
  obtain ⟨rs, hrs, e2⟩ := steps_by ns n n0 (by omega) hns
  obtain ⟨fs, hfs, f3, fA, e3⟩ := fair_by (cell ns 1) n n0 (by omega)
  have c0 : m_law_cell_at [scrT ns, .lf (.int 0)] = _ := cell_at ns 0
  have c1 : m_law_cell_at [scrT ns, .lf (.int 1)] = _ := cell_at ns 1
  have c2 : m_law_cell_at [scrT ns, .lf (.int 2)] = some (.lf (.int (cell ns 2)), [scrT ns, .lf (.int 2)]) := cell_at ns 2
  generalize cell ns 2 = c at *
  obtain ⟨W, hW, eW⟩ := sets_ex c n (by omega)
  have hm := mks_ok (c := c / 36) hW (by omega)
  obtain ⟨V, PF, LF, hV, hl, lv⟩ := lives_ok false rs (msF (c / 36) W) fs hrs hfs (by omega)
  have rl := hrs.len
  have n1 : ∀ A B C D : T, dLr (gN 12) dYes x_law_1 [12] (rngT 3) [] [A, B, C, D, .lf (.int c), .no, .no, .no, .no, .no, .no, .no, .no, .no, .no, .no, .no] = some ((rgI 3).map fun k => tx (wdy (c / 36) k), [A, B, C, D, .lf (.int c), .no, .no, .no, .no, .no, .no, .no, .no, .no, .no, .no, .no]) := fun A B C D => by
    rw [rngT_eq]
    refine lc_all _ _ _ _ (by simp [rgI_len]) fun k hk => ?_
    have w := word_by (c / 36) k
    refine ⟨[A, B, C, D, .lf (.int c), .no, .no, .no, .no, .no, .no, .no, .lf (.int k), .no, .no, .no, .no], [A, B, C, D, .lf (.int c), .no, .no, .no, .no, .no, .no, .no, .no, .no, .no, .no, .no], rfl, ?_, rfl⟩
    exists x_law_1, w
  have n2 : ∀ A C D F : T, dLr (gN 12) dYes x_law_2 [12] (rngT 2) [] [A, .lf (.int n), C, D, .lf (.int c), F, .no, .no, .no, .no, .no, .no, .no, .no, .no, .no, .no] = some ((rgI 2).map fun k => li true (W k), [A, .lf (.int n), C, D, .lf (.int c), F, .no, .no, .no, .no, .no, .no, .no, .no, .no, .no, .no]) := fun A C D F => by
    rw [rngT_eq]
    refine lc_all _ _ _ _ (by simp [rgI_len]) fun k hk => ?_
    have w := eW k
    have v := way_ix c k
    refine ⟨[A, .lf (.int n), C, D, .lf (.int c), F, .no, .no, .no, .no, .no, .no, .lf (.int k), .no, .no, .no, .no], [A, .lf (.int n), C, D, .lf (.int c), F, .no, .no, .no, .no, .no, .no, .lf (.int k), .no, .no, .no, .no], rfl, ?_, rfl⟩
    exists x_law_2, v, w
  have n3 := fun (A C D F : T) => lc_allI (dg := gN 12) (de := x_law_3) (vs := [12]) (fun env => ∃ o, env = [A, .lf (.int n), C, D, F, tl o 3 fun k => tx (wdy (c / 36) k), tl true 2 fun k => li true (W k), .no, .no, .no, .no, .no, .no, .no, .no, .no, .no]) lfI (fun k => mk1 true (nmS (c / 36) k, W k)) (rgI 2) [A, .lf (.int n), C, D, F, tl true 3 fun k => tx (wdy (c / 36) k), tl true 2 fun k => li true (W k), .no, .no, .no, .no, .no, .no, .no, .no, .no, .no] (by simp [rgI_len]) ⟨_, rfl⟩ fun k hk env he => by
    obtain ⟨o, rfl⟩ := he
    have bk := mem_rgI.mp hk
    have k0 := bk.1
    have i1 := ix_tl false 3 (fun k => tx (wdy (c / 36) k)) k k0 (by omega)
    have i2 := ix_tl true 2 (fun k => li true (W k)) k k0 (by omega)
    have f1 : frz (tl o 3 fun k => tx (wdy (c / 36) k)) = tl false 3 fun k => tx (wdy (c / 36) k) := by rw [frz_tl]; congr 1
    refine ⟨[A, .lf (.int n), C, D, F, tl o 3 fun k => tx (wdy (c / 36) k), tl true 2 fun k => li true (W k), .no, .no, .no, .no, .no, .lf (.int k), .no, .no, .no, .no], [A, .lf (.int n), C, D, F, tl false 3 fun k => tx (wdy (c / 36) k), tl true 2 fun k => li true (W k), .no, .no, .no, .no, .no, .lf (.int k), .no, .no, .no, .no], rfl, ?_, _, rfl⟩
    exists x_law_3, ok_tl, f1, i1, i2
    rfl
  have cp1 : ∀ a b c d e f g h i j k l m : T, dLr (gN 15) dYes x_law_5 [15] (rs.map (li false)) [] [a, b, c, d, e, f, g, h, i, j, k, l, m, .no, .no, .no, .no] = some (rs.map (li true), [a, b, c, d, e, f, g, h, i, j, k, l, m, .no, .no, .no, .no]) := fun a b c d e f g h i j k l m => copies [a, b, c, d, e, f, g, h, i, j, k, l, m, .no, .no, .no, .no] 15 rfl rs (by omega)
  have cp2 : ∀ a b c d e f g h i j k l m : T, dLr (gN 16) dYes x_law_4 [16] (fs.map (li false)) [] [a, b, c, d, e, f, g, h, i, j, k, l, m, .no, .no, .no, .no] = some (fs.map (li true), [a, b, c, d, e, f, g, h, i, j, k, l, m, .no, .no, .no, .no]) := fun a b c d e f g h i j k l m => copies [a, b, c, d, e, f, g, h, i, j, k, l, m, .no, .no, .no, .no] 16 rfl fs (by omega)
  have mk : m_Machine_init [.nd true (.ins "Machine" []) [], ll true rs, mks true (msF (c / 36) W), ll true fs] = _ := init_ok rs fs (msF (c / 36) W) hrs hm hfs (mks true (msF (c / 36) W)) (ll true fs) (.inr rfl) (.inr rfl)
  have two : ∀ e : List T, fRng ((.lf (.int 2) : T), e) = some (rngT 2, e) := fun e => fRng_int 2 _ (by omega)
  have three : ∀ e : List T, fRng ((.lf (.int 3) : T), e) = some (rngT 3, e) := fun e => fRng_int 3 _ (by omega)
  obtain ⟨e3', l3, o3, rfl⟩ := n3 .no (ll true rs) (ll true fs) (.lf (.int c))
  rw [← rngT_eq] at l3
  have hN : (.nd true .lst ((rgI 3).map fun k => tx (wdy (c / 36) k)) : T) = tl true 3 fun k => tx (wdy (c / 36) k) := rfl
  have hS : (.nd true .lst ((rgI 2).map fun k => li true (W k)) : T) = tl true 2 fun k => li true (W k) := rfl
  have hM := mks_tl true (c / 36) W
  obtain ⟨env', h1, x10, x11, x13, x14, x15, x16, o8, x9, rfl⟩ := lp_rng (dg := gN 9) (d := l_law_1) 2 (fun _ env => ∃ x10 x11 x13 x14 x15 x16 o8 x9, env = e_law .no (.lf (.int (n : Int))) (ll false rs) (ll false fs) (.lf (.int c)) (tl o3 3 fun k => tx (wdy (c / 36) k)) (tl true 2 fun k => li true (W k)) .no (mch o8 rs (msF (c / 36) W) fs) x9 x10 x11 .no x13 x14 x15 x16) (e_law .no (.lf (.int (n : Int))) (ll false rs) (ll false fs) (.lf (.int c)) (tl o3 3 fun k => tx (wdy (c / 36) k)) (tl true 2 fun k => li true (W k)) .no (mch true rs (msF (c / 36) W) fs) .no .no .no .no .no .no .no .no) ⟨_, _, _, _, _, _, _, _, rfl⟩ (by
    rintro i hi env ⟨x10, x11, x13, x14, x15, x16, o8, x9, rfl⟩
    obtain ⟨y10, y11, y13, y14, t⟩ := turn_ok rs fs (msF (c / 36) W) c hrs hfs (by omega) hV hl lv (tl o3 3 fun k => tx (wdy (c / 36) k)) (tl true 2 fun k => li true (W k)) false false o8 (I i) x10 x11 x13 x14 x15 x16
    exists t
    exact ⟨_, _, _, _, _, _, _, _, rfl⟩)
  exists m_law, bn_law, c0, c1, c2, e1, e2, e3, n1, n2, l3, hN, hS, hM, ok_tl, cp1, cp2, mk, two, three, h1
  exact ⟨_, rfl⟩
end Ma


open PySem PySem.W PyProof.Rows
set_option maxRecDepth 100000 in
set_option maxHeartbeats 0 in
theorem PySem.Challenge.cw_treesay_k55_lives_told_holds : PySem.Challenge.rw_treesay_k55_lives_told.Holds := by
  w_on; o_law; k_head; (case hw => w_witness2)
  k_fill
  refine L2.walk_of (l := PySem.Challenge.rw_treesay_k55_lives_told) (n := 63) (k := 8) (x := "_law_script") (CX := fun _ => L2.CX0) (sp := fun w => Tr.spLaw _) rfl (by decide) rfl ⟨rfl, by decide, by decide⟩ (fun w h Y => PySem.W.kIn_of Y) ?F (fun w H a ns hl _ hS => ⟨a, ns, rfl, hS, hl, fun _ => rfl⟩) (fun _ _ _ _ _ h => h)
  case F =>
    intro w mg fa h KX G hmg
    refine' Wk.all_mk KX G hmg ?h_Machine ?pg_Machine ?hd_Machine ?po_Machine ?sa_Machine ?mi_Machine ?kc_Machine ?na_Machine_fair ?na_Machine_marks ?na_Machine_steps ?h_law_small_by ?l_law_small_by ?c_law_small_by ?k_law_small_by ?h_law_cell_at ?l_law_cell_at ?c_law_cell_at ?k_law_cell_at ?h_law_mix ?l_law_mix ?c_law_mix ?k_law_mix ?h_law_steps_by ?l_law_steps_by ?c_law_steps_by ?k_law_steps_by ?h_law_fair_by ?l_law_fair_by ?c_law_fair_by ?k_law_fair_by ?h_look_stands ?l_look_stands ?c_look_stands ?k_look_stands ?h_is_mark ?l_is_mark ?c_is_mark ?k_is_mark ?h_look_machine ?l_look_machine ?c_look_machine ?k_look_machine ?h_Machine_init ?i_Machine_init ?l_Machine_init ?c_Machine_init ?k_Machine_init ?td_l_Machine_init ?h_law_word_by ?l_law_word_by ?c_law_word_by ?k_law_word_by ?h_law_set_by ?l_law_set_by ?c_law_set_by ?k_law_set_by ?h_keyed ?l_keyed ?c_keyed ?k_keyed ?h_Machine_next_of ?i_Machine_next_of ?l_Machine_next_of ?c_Machine_next_of ?k_Machine_next_of ?h_touches ?l_touches ?c_touches ?k_touches ?h_shrinking ?l_shrinking ?c_shrinking ?k_shrinking ?h_Machine_fair_at ?i_Machine_fair_at ?l_Machine_fair_at ?c_Machine_fair_at ?k_Machine_fair_at ?h_Machine_many ?i_Machine_many ?l_Machine_many ?c_Machine_many ?k_Machine_many ?h_growing ?l_growing ?c_growing ?k_growing ?h_core ?l_core ?c_core ?k_core ?h_reach ?l_reach ?c_reach ?k_reach ?h_missed_of ?l_missed_of ?c_missed_of ?k_missed_of ?h_ranks ?l_ranks ?c_ranks ?k_ranks ?h_alive ?l_alive ?c_alive ?k_alive ?h_bottom_of ?l_bottom_of ?c_bottom_of ?k_bottom_of ?h_distances ?l_distances ?c_distances ?k_distances ?h_short_walk ?l_short_walk ?c_short_walk ?k_short_walk ?h_loop_within ?l_loop_within ?c_loop_within ?k_loop_within ?h_lives ?l_lives ?c_lives ?k_lives ?h_law_whole ?l_law_whole ?c_law_whole ?k_law_whole ?h_law_walk ?l_law_walk ?c_law_walk ?k_law_walk ?h_law_loop ?l_law_loop ?c_law_loop ?k_law_loop ?h_law_is_rank ?l_law_is_rank ?c_law_is_rank ?k_law_is_rank ?h_law_falls ?l_law_falls ?c_law_falls ?k_law_falls ?h_law_ranked ?l_law_ranked ?c_law_ranked ?k_law_ranked ?h_law_told ?l_law_told ?c_law_told ?k_law_told ?h_law ?l_law ?c_law ?k_law ?z_bool ?z_enumerate ?z_int ?z_isinstance ?z_len ?z_list ?z_max ?z_min ?z_range ?z_sorted ?z_str ?z_tuple ?h_KEPT ?l_KEPT ?d_KEPT ?t_KEPT ?v_KEPT ?h_LETTERS ?h_LONGEST ?h_MOST_STANDS Ma.law_true
    (case h_Machine => k_is)
    (case pg_Machine => k_is)
    (case hd_Machine => k_is)
    (case po_Machine => k_is)
    (case sa_Machine => k_is)
    (case mi_Machine => k_is)
    (case kc_Machine => k_is)
    (case na_Machine_fair => k_is)
    (case na_Machine_marks => k_is)
    (case na_Machine_steps => k_is)
    (case h_law_small_by => k_is)
    (case l_law_small_by => k_is)
    (case c_law_small_by => k_is)
    (case k_law_small_by => k_is)
    (case h_law_cell_at => k_is)
    (case l_law_cell_at => k_is)
    (case c_law_cell_at => k_is)
    (case k_law_cell_at => k_is)
    (case h_law_mix => k_is)
    (case l_law_mix => k_is)
    (case c_law_mix => k_is)
    (case k_law_mix => k_is)
    (case h_law_steps_by => k_is)
    (case l_law_steps_by => k_is)
    (case c_law_steps_by => k_is)
    (case k_law_steps_by => k_is)
    (case h_law_fair_by => k_is)
    (case l_law_fair_by => k_is)
    (case c_law_fair_by => k_is)
    (case k_law_fair_by => k_is)
    (case h_look_stands => k_is)
    (case l_look_stands => k_is)
    (case c_look_stands => k_is)
    (case k_look_stands => k_is)
    (case h_is_mark => k_is)
    (case l_is_mark => k_is)
    (case c_is_mark => k_is)
    (case k_is_mark => k_is)
    (case h_look_machine => k_is)
    (case l_look_machine => k_is)
    (case c_look_machine => k_is)
    (case k_look_machine => k_is)
    (case h_Machine_init => k_is)
    (case i_Machine_init => k_is)
    (case l_Machine_init => k_is)
    (case c_Machine_init => k_is)
    (case k_Machine_init => k_is)
    (case td_l_Machine_init => k_is)
    (case h_law_word_by => k_is)
    (case l_law_word_by => k_is)
    (case c_law_word_by => k_is)
    (case k_law_word_by => k_is)
    (case h_law_set_by => k_is)
    (case l_law_set_by => k_is)
    (case c_law_set_by => k_is)
    (case k_law_set_by => k_is)
    (case h_keyed => k_is)
    (case l_keyed => k_is)
    (case c_keyed => k_is)
    (case k_keyed => k_is)
    (case h_Machine_next_of => k_is)
    (case i_Machine_next_of => k_is)
    (case l_Machine_next_of => k_is)
    (case c_Machine_next_of => k_is)
    (case k_Machine_next_of => k_is)
    (case h_touches => k_is)
    (case l_touches => k_is)
    (case c_touches => k_is)
    (case k_touches => k_is)
    (case h_shrinking => k_is)
    (case l_shrinking => k_is)
    (case c_shrinking => k_is)
    (case k_shrinking => k_is)
    (case h_Machine_fair_at => k_is)
    (case i_Machine_fair_at => k_is)
    (case l_Machine_fair_at => k_is)
    (case c_Machine_fair_at => k_is)
    (case k_Machine_fair_at => k_is)
    (case h_Machine_many => k_is)
    (case i_Machine_many => k_is)
    (case l_Machine_many => k_is)
    (case c_Machine_many => k_is)
    (case k_Machine_many => k_is)
    (case h_growing => k_is)
    (case l_growing => k_is)
    (case c_growing => k_is)
    (case k_growing => k_is)
    (case h_core => k_is)
    (case l_core => k_is)
    (case c_core => k_is)
    (case k_core => k_is)
    (case h_reach => k_is)
    (case l_reach => k_is)
    (case c_reach => k_is)
    (case k_reach => k_is)
    (case h_missed_of => k_is)
    (case l_missed_of => k_is)
    (case c_missed_of => k_is)
    (case k_missed_of => k_is)
    (case h_ranks => k_is)
    (case l_ranks => k_is)
    (case c_ranks => k_is)
    (case k_ranks => k_is)
    (case h_alive => k_is)
    (case l_alive => k_is)
    (case c_alive => k_is)
    (case k_alive => k_is)
    (case h_bottom_of => k_is)
    (case l_bottom_of => k_is)
    (case c_bottom_of => k_is)
    (case k_bottom_of => k_is)
    (case h_distances => k_is)
    (case l_distances => k_is)
    (case c_distances => k_is)
    (case k_distances => k_is)
    (case h_short_walk => k_is)
    (case l_short_walk => k_is)
    (case c_short_walk => k_is)
    (case k_short_walk => k_is)
    (case h_loop_within => k_is)
    (case l_loop_within => k_is)
    (case c_loop_within => k_is)
    (case k_loop_within => k_is)
    (case h_lives => k_is)
    (case l_lives => k_is)
    (case c_lives => k_is)
    (case k_lives => k_is)
    (case h_law_whole => k_is)
    (case l_law_whole => k_is)
    (case c_law_whole => k_is)
    (case k_law_whole => k_is)
    (case h_law_walk => k_is)
    (case l_law_walk => k_is)
    (case c_law_walk => k_is)
    (case k_law_walk => k_is)
    (case h_law_loop => k_is)
    (case l_law_loop => k_is)
    (case c_law_loop => k_is)
    (case k_law_loop => k_is)
    (case h_law_is_rank => k_is)
    (case l_law_is_rank => k_is)
    (case c_law_is_rank => k_is)
    (case k_law_is_rank => k_is)
    (case h_law_falls => k_is)
    (case l_law_falls => k_is)
    (case c_law_falls => k_is)
    (case k_law_falls => k_is)
    (case h_law_ranked => k_is)
    (case l_law_ranked => k_is)
    (case c_law_ranked => k_is)
    (case k_law_ranked => k_is)
    (case h_law_told => k_is)
    (case l_law_told => k_is)
    (case c_law_told => k_is)
    (case k_law_told => k_is)
    (case h_law => k_is)
    (case l_law => k_is)
    (case c_law => k_is)
    (case k_law => k_is)
    (case z_bool => k_is)
    (case z_enumerate => k_is)
    (case z_int => k_is)
    (case z_isinstance => k_is)
    (case z_len => k_is)
    (case z_list => k_is)
    (case z_max => k_is)
    (case z_min => k_is)
    (case z_range => k_is)
    (case z_sorted => k_is)
    (case z_str => k_is)
    (case z_tuple => k_is)
    (case h_KEPT => k_is)
    (case l_KEPT => k_is)
    (case d_KEPT => rfl)
    (case t_KEPT => rfl)
    (case v_KEPT => exact (.cons ⟨_, rfl⟩ (.cons ⟨_, rfl⟩ (.cons ⟨_, rfl⟩ (.cons ⟨_, rfl⟩ (.cons ⟨_, rfl⟩ (.cons ⟨_, rfl⟩ (.cons ⟨_, rfl⟩ (.cons ⟨_, rfl⟩ (.cons ⟨_, rfl⟩ (.cons ⟨_, rfl⟩ .nil)))))))))))
    (case h_LETTERS => k_is)
    (case h_LONGEST => k_is)
    (case h_MOST_STANDS => k_is)


