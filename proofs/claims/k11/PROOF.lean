import PyProof.Rows.All
import Wide.All
import OpenK.AllK
import Wide.FinOn
import HandS.ForMost
import HandS.Codes
import HandS.NoneIn
import HandS.More
import HandS.SetFor
import HandS.SortInts
import HandS.IsInst
import HandS.Defaults
import HandS.Conv
import HandS.Zip
import HandS.RevRange
import KE.KStateDown
import HandS.Head0
import HandS.Head1
import HandS.Head2
import HandS.HeadEnd
import HandS.HeadHook1
import HandS.HeadHook2
import PySem.Challenge.RW_treesay_k11_words_of_sayings
set_option Elab.async false
set_option linter.all false
set_option maxRecDepth 100000
set_option maxHeartbeats 4000000
/-! D1: trees, how a heap holds them, who owns what. -/
namespace Tr
open PySem PySem.Spec PyProof.Rows L2

/-- the kind of a node -/
inductive Kd where
  | lst | tup | rol | rot | dK (ks : List Key) | dL (ks : List Key) | ins (c : Str) (ns : List Str)
/-- a value as a tree; o: owned by the one place where it stands -/
inductive T where
  | no | lf (v : V) | nd (o : Bool) (k : Kd) (xs : List T)

def sc : V → Bool
  | .ref _ => false
  | _ => true

mutual
def frz : T → T
  | .no => .no
  | .lf v => .lf v
  | .nd _ k xs => .nd false k (frzs xs)
def frzs : List T → List T
  | [] => []
  | t :: ts => frz t :: frzs ts
end
mutual
/-- nothing owned in it -/
def cln : T → Bool
  | .no => true
  | .lf _ => true
  | .nd o _ xs => !o && clns xs
def clns : List T → Bool
  | [] => true
  | t :: ts => cln t && clns ts
end
theorem frzs_map : ∀ ts : List T, frzs ts = ts.map frz
  | [] => rfl
  | t :: ts => by rw [frzs, frzs_map ts]; rfl
theorem clns_all : ∀ ts : List T, clns ts = ts.all cln
  | [] => rfl
  | t :: ts => by rw [clns, clns_all ts]; rfl

abbrev AS := Addr → Prop
def Dj (A B : AS) : Prop := ∀ x, A x → ¬ B x
def Cup (A B : AS) : AS := fun x => A x ∨ B x
def Emp : AS := fun _ => False
abbrev Mg := Str → Option Value

/-- what stands at an address is a node of kind k with these parts -/
def Cont (mg : Mg) : Kd → HO → List V → Prop
  | .lst, o, vs => o = .lst vs
  | .tup, o, vs => o = .tup vs
  | .dK ks, o, vs => ks.length = vs.length ∧ o = .dK (ks.zip vs)
  | .dL ks, o, vs => ks.length = vs.length ∧ ∃ od, o = .frz od (.dK (ks.zip vs))
  | .ins c ns, o, vs => ns.length = vs.length ∧ ∃ C dx, o = .ins C dx (ns.zip vs) ∧ mg c = some (.ref C)
  | _, _, _ => False

section
variable (K : PySem.W.Frag) (mg : Mg) (F H : Hp)
mutual
inductive Rep : V → T → AS → Prop
  | no {v : V} {S : AS} : (∀ x, ¬ S x) → Rep v .no S
  | lf {v : V} {S : AS} : sc v = true → (∀ x, ¬ S x) → Rep v (.lf v) S
  | own {a : Addr} {k : Kd} {o : HO} {vs : List V} {xs : List T} {S S0 : AS} : H a = some o → F a = none → Cont mg k o vs → Reps vs xs S0 → ¬ S0 a → (∀ x, S x ↔ x = a ∨ S0 x) → Rep (.ref a) (.nd true k xs) S
  | frz {a : Addr} {k : Kd} {o : HO} {vs : List V} {xs : List T} {S : AS} : F a = some o → Cont mg k o vs → Reps vs xs S → Rep (.ref a) (.nd false k xs) S
  | rol {a : Addr} {vs : List V} {xs : List T} {S : AS} : SqL K F a vs → Reps vs xs S → Rep (.ref a) (.nd false .rol xs) S
  | rot {a : Addr} {vs : List V} {xs : List T} {S : AS} : SqT K F a vs → Reps vs xs S → Rep (.ref a) (.nd false .rot xs) S
inductive Reps : List V → List T → AS → Prop
  | nil {S : AS} : (∀ x, ¬ S x) → Reps [] [] S
  | cons {v : V} {t : T} {vs : List V} {ts : List T} {S S1 S2 : AS} : Rep v t S1 → Reps vs ts S2 → Dj S1 S2 → (∀ x, S x ↔ S1 x ∨ S2 x) → Reps (v :: vs) (t :: ts) S
end
end

/-- every fact of F stands in H -/
def Le (F H : Hp) : Prop := ∀ a o, F a = some o → H a = some o
theorem Le.refl (F : Hp) : Le F F := fun _ _ h => h
theorem Le.trans {A B C : Hp} (h : Le A B) (k : Le B C) : Le A C := fun a o q => k a o (h a o q)
theorem Le.sqL {K : PySem.W.Frag} {F H : Hp} {a : Addr} {xs : List V} (e : Le F H) (h : SqL K F a xs) : SqL K H a xs := Same.seq e h
theorem Le.sqT {K : PySem.W.Frag} {F H : Hp} {a : Addr} {xs : List V} (e : Le F H) (h : SqT K F a xs) : SqT K H a xs := by
  rcases h with (h | ⟨o, h⟩) | h
  · exact .inl (.inl (e _ _ h))
  · exact .inl (.inr ⟨o, e _ _ h⟩)
  · exact .inr h
theorem Le.nn {F H : Hp} (e : Le F H) {a : Addr} (h : H a = none) : F a = none := by
  cases q : F a with
  | none => rfl
  | some o => rw [e a o q] at h; cases h

section
variable {K : PySem.W.Frag} {mg : Mg} {F H F' H' : Hp}
mutual
theorem Rep.frame (ff : Le F F') : ∀ {v : V} {t : T} {S : AS}, Rep K mg F H v t S → (∀ x, S x → H' x = H x ∧ F' x = none) → Rep K mg F' H' v t S
  | _, _, _, .no h, _ => .no h
  | _, _, _, .lf h h2, _ => .lf h h2
  | _, _, _, .own h1 h2 c r na hS, k => .own ((k _ ((hS _).mpr (.inl rfl))).1.trans h1) (k _ ((hS _).mpr (.inl rfl))).2 c (Reps.frame ff r fun x hx => k x ((hS x).mpr (.inr hx))) na hS
  | _, _, _, .frz h c r, k => .frz (ff _ _ h) c (Reps.frame ff r k)
  | _, _, _, .rol h r, k => .rol (ff.sqL h) (Reps.frame ff r k)
  | _, _, _, .rot h r, k => .rot (ff.sqT h) (Reps.frame ff r k)
theorem Reps.frame (ff : Le F F') : ∀ {vs : List V} {ts : List T} {S : AS}, Reps K mg F H vs ts S → (∀ x, S x → H' x = H x ∧ F' x = none) → Reps K mg F' H' vs ts S
  | _, _, _, .nil h, _ => .nil h
  | _, _, _, .cons r q d hS, k => .cons (Rep.frame ff r fun x hx => k x ((hS x).mpr (.inl hx))) (Reps.frame ff q fun x hx => k x ((hS x).mpr (.inr hx))) d hS
end
mutual
/-- the owned addresses stand, and are not frozen -/
theorem Rep.dom : ∀ {v : V} {t : T} {S : AS}, Rep K mg F H v t S → ∀ x, S x → (∃ o, H x = some o) ∧ F x = none
  | _, _, _, .no h, x, hx => (h x hx).elim
  | _, _, _, .lf _ h, x, hx => (h x hx).elim
  | _, _, _, .own h1 h2 _ r _ hS, x, hx => ((hS x).mp hx).elim (fun e => by subst e; exact ⟨⟨_, h1⟩, h2⟩) fun q => Reps.dom r x q
  | _, _, _, .frz _ _ r, x, hx => Reps.dom r x hx
  | _, _, _, .rol _ r, x, hx => Reps.dom r x hx
  | _, _, _, .rot _ r, x, hx => Reps.dom r x hx
theorem Reps.dom : ∀ {vs : List V} {ts : List T} {S : AS}, Reps K mg F H vs ts S → ∀ x, S x → (∃ o, H x = some o) ∧ F x = none
  | _, _, _, .nil h, x, hx => (h x hx).elim
  | _, _, _, .cons r q _ hS, x, hx => ((hS x).mp hx).elim (fun z => Rep.dom r x z) fun z => Reps.dom q x z
end
mutual
theorem Rep.clean : ∀ {v : V} {t : T} {S : AS}, Rep K mg F H v t S → cln t = true → ∀ x, ¬ S x
  | _, _, _, .no h, _ => h
  | _, _, _, .lf _ h, _ => h
  | _, _, _, .own .., c => by simp [cln] at c
  | _, _, _, .frz _ _ r, c => Reps.clean r (by simpa [cln] using c)
  | _, _, _, .rol _ r, c => Reps.clean r (by simpa [cln] using c)
  | _, _, _, .rot _ r, c => Reps.clean r (by simpa [cln] using c)
theorem Reps.clean : ∀ {vs : List V} {ts : List T} {S : AS}, Reps K mg F H vs ts S → clns ts = true → ∀ x, ¬ S x
  | _, _, _, .nil h, _ => h
  | _, _, _, .cons r q _ hS, c => by
    simp only [clns, Bool.and_eq_true] at c
    intro x hx
    exact ((hS x).mp hx).elim (Rep.clean r c.1 x) (Reps.clean q c.2 x)
end
mutual
/-- sharing: the owned addresses become frozen -/
theorem Rep.freeze (ff : Le F F') : ∀ {v : V} {t : T} {S S' : AS}, Rep K mg F H v t S → (∀ x, S x → F' x = H x) → (∀ x, ¬ S' x) → Rep K mg F' H' v (frz t) S'
  | _, _, _, _, .no _, _, e => by rw [frz]; exact .no e
  | _, _, _, _, .lf h _, _, e => by rw [frz]; exact .lf h e
  | _, _, _, _, .own h1 h2 c r _ hS, k, e => by
    rw [frz]
    exact .frz ((k _ ((hS _).mpr (.inl rfl))).trans h1) c (Reps.freeze ff r (fun x hx => k x ((hS x).mpr (.inr hx))) e)
  | _, _, _, _, .frz h c r, k, e => by rw [frz]; exact .frz (ff _ _ h) c (Reps.freeze ff r k e)
  | _, _, _, _, .rol h r, k, e => by rw [frz]; exact .rol (ff.sqL h) (Reps.freeze ff r k e)
  | _, _, _, _, .rot h r, k, e => by rw [frz]; exact .rot (ff.sqT h) (Reps.freeze ff r k e)
theorem Reps.freeze (ff : Le F F') : ∀ {vs : List V} {ts : List T} {S S' : AS}, Reps K mg F H vs ts S → (∀ x, S x → F' x = H x) → (∀ x, ¬ S' x) → Reps K mg F' H' vs (frzs ts) S'
  | _, _, _, _, .nil _, _, e => by rw [frzs]; exact .nil e
  | _, _, _, S', .cons r q _ hS, k, e => by
    rw [frzs]
    exact .cons (S1 := S') (S2 := S') (Rep.freeze ff r (fun x hx => k x ((hS x).mpr (.inl hx))) e) (Reps.freeze ff q (fun x hx => k x ((hS x).mpr (.inr hx))) e) (fun x hx => (e x hx).elim) (fun x => ⟨fun h => .inl h, fun h => h.elim id id⟩)
end
theorem Rep.iff {v : V} {t : T} {S S' : AS} (r : Rep K mg F H v t S) (h : ∀ x, S' x ↔ S x) : Rep K mg F H v t S' := by
  have e : S' = S := funext fun x => propext (h x)
  rw [e]; exact r
theorem Reps.iff {vs : List V} {ts : List T} {S S' : AS} (r : Reps K mg F H vs ts S) (h : ∀ x, S' x ↔ S x) : Reps K mg F H vs ts S' := by
  have e : S' = S := funext fun x => propext (h x)
  rw [e]; exact r
theorem Rep.clean0 {v : V} {t : T} {S : AS} (r : Rep K mg F H v t S) (c : cln t = true) : Rep K mg F H v t Emp :=
  r.iff fun x => ⟨fun z => z.elim, fun z => r.clean c x z⟩
theorem Reps.clean0 {vs : List V} {ts : List T} {S : AS} (r : Reps K mg F H vs ts S) (c : clns ts = true) : Reps K mg F H vs ts Emp :=
  r.iff fun x => ⟨fun z => z.elim, fun z => r.clean c x z⟩
/-- a clean tree outlives all -/
theorem Rep.stay {v : V} {t : T} {S : AS} (ff : Le F F') (r : Rep K mg F H v t S) (c : cln t = true) : Rep K mg F' H' v t Emp :=
  (r.clean0 c).frame ff fun _ z => z.elim
theorem Reps.stay {vs : List V} {ts : List T} {S : AS} (ff : Le F F') (r : Reps K mg F H vs ts S) (c : clns ts = true) : Reps K mg F' H' vs ts Emp :=
  (r.clean0 c).frame ff fun _ z => z.elim
theorem Reps.length {S : AS} : ∀ {vs : List V} {ts : List T} {S : AS}, Reps K mg F H vs ts S → vs.length = ts.length
  | _, _, _, .nil _ => rfl
  | _, _, _, .cons _ q _ _ => congrArg (· + 1) (Reps.length (S := S) q)
theorem Reps.get {vs : List V} {ts : List T} {S : AS} (r : Reps K mg F H vs ts S) : ∀ {i : Nat} {t : T}, ts[i]? = some t → ∃ v R, vs[i]? = some v ∧ Rep K mg F H v t R ∧ ∀ x, R x → S x := by
  intro i
  induction i generalizing vs ts S with
  | zero =>
    intro t h
    cases r with
    | nil _ => simp at h
    | cons r q d hS => simp at h; subst h; exact ⟨_, _, by simp, r, fun x z => (hS x).mpr (.inl z)⟩
  | succ i ih =>
    intro t h
    cases r with
    | nil _ => simp at h
    | cons r q d hS =>
      obtain ⟨v, R, h1, h2, h3⟩ := ih q (by simpa using h)
      exact ⟨v, R, by simpa using h1, h2, fun x z => (hS x).mpr (.inr (h3 x z))⟩
end

/-! ### a step of the heap -/
/-- from custody S to custody S' -/
structure Stp (F H : Hp) (S : AS) (F' H' : Hp) (S' : AS) : Prop where
  ff : Le F F'
  kp : ∀ a o, H a = some o → ¬ S a → H' a = some o
  nf : ∀ a o, F' a = some o → F a = some o ∨ S a ∨ H a = none
  no : ∀ a, S' a → S a ∨ H a = none
section
variable {F H F1 H1 F2 H2 : Hp} {S S1 S2 R : AS}
theorem Stp.refl : Stp F H S F H S := ⟨Le.refl _, fun _ _ h _ => h, fun _ _ h => .inl h, fun _ h => .inl h⟩
theorem Stp.weak (h : Stp F H S F1 H1 S1) (k : ∀ a, S2 a → S1 a) : Stp F H S F1 H1 S2 := ⟨h.ff, h.kp, h.nf, fun a z => h.no a (k a z)⟩
theorem Stp.nn (h : Stp F H S F1 H1 S1) {a : Addr} (hn : H1 a = none) : S a ∨ H a = none := by
  cases q : H a with
  | none => exact .inr rfl
  | some o =>
    refine Classical.byContradiction fun z => ?_
    have := h.kp a o q fun s => z (.inl s)
    rw [hn] at this; cases this
theorem Stp.trans (a : Stp F H S F1 H1 S1) (b : Stp F1 H1 S1 F2 H2 S2) : Stp F H S F2 H2 S2 where
  ff := a.ff.trans b.ff
  kp := fun x o h n => b.kp x o (a.kp x o h n) fun s => (a.no x s).elim n fun z => by rw [h] at z; cases z
  nf := fun x o h => by
    rcases b.nf x o h with h | h | h
    · exact a.nf x o h
    · exact .inr (a.no x h)
    · exact .inr (a.nn h)
  no := fun x h => by
    rcases b.no x h with h | h
    · exact a.no x h
    · exact a.nn h
/-- others' custody beside -/
theorem Stp.frame (a : Stp F H S F1 H1 S1) (R : AS) : Stp F H (Cup S R) F1 H1 (Cup S1 R) :=
  ⟨a.ff, fun x o h n => a.kp x o h fun s => n (.inl s), fun x o h => (a.nf x o h).elim .inl fun z => .inr (z.elim (fun s => .inl (.inl s)) .inr), fun x h => h.elim (fun z => (a.no x z).elim (fun s => .inl (.inl s)) .inr) fun z => .inl (.inr z)⟩
theorem Stp.frameL (a : Stp F H S F1 H1 S1) (R : AS) : Stp F H (Cup R S) F1 H1 (Cup R S1) :=
  ⟨a.ff, fun x o h n => a.kp x o h fun s => n (.inr s), fun x o h => (a.nf x o h).elim .inl fun z => .inr (z.elim (fun s => .inl (.inr s)) .inr), fun x h => h.elim (fun z => .inl (.inl z)) fun z => (a.no x z).elim (fun s => .inl (.inr s)) .inr⟩
theorem Stp.big (a : Stp F H S F1 H1 S1) {R : AS} (h : ∀ x, S x → R x) : Stp F H R F1 H1 S1 :=
  ⟨a.ff, fun x o q n => a.kp x o q fun s => n (h x s), fun x o q => (a.nf x o q).elim .inl fun z => .inr (z.elim (fun s => .inl (h x s)) .inr), fun x q => (a.no x q).elim (fun s => .inl (h x s)) .inr⟩
/-- what stands outside of the custody stays as it is -/
theorem Stp.keeps (a : Stp F H S F1 H1 S1) (hR : ∀ x, R x → (∃ o, H x = some o) ∧ F x = none) (d : Dj S R) : ∀ x, R x → H1 x = H x ∧ F1 x = none := fun x hx => by
  obtain ⟨⟨o, e⟩, f⟩ := hR x hx
  refine ⟨(a.kp x o e fun s => d x s hx).trans e.symm, ?_⟩
  cases q : F1 x with
  | none => rfl
  | some u =>
    rcases a.nf x u q with z | z | z
    · rw [f] at z; cases z
    · exact (d x z hx).elim
    · rw [e] at z; cases z
theorem Stp.dj (a : Stp F H S F1 H1 S1) (hR : ∀ x, R x → (∃ o, H x = some o)) (d : Dj S R) : Dj S1 R := fun x s r => by
  obtain ⟨o, e⟩ := hR x r
  rcases a.no x s with z | z
  · exact d x z r
  · rw [e] at z; cases z
end
theorem Rep.keep {K : PySem.W.Frag} {mg : Mg} {F H F1 H1 : Hp} {S S1 R : AS} {v : V} {t : T} (r : Rep K mg F H v t R) (a : Stp F H S F1 H1 S1) (d : Dj S R) : Rep K mg F1 H1 v t R :=
  r.frame a.ff (a.keeps r.dom d)
theorem Reps.keep {K : PySem.W.Frag} {mg : Mg} {F H F1 H1 : Hp} {S S1 R : AS} {vs : List V} {ts : List T} (r : Reps K mg F H vs ts R) (a : Stp F H S F1 H1 S1) (d : Dj S R) : Reps K mg F1 H1 vs ts R :=
  r.frame a.ff (a.keeps r.dom d)

/-! ### the slots -/
section
variable (K : PySem.W.Frag) (mg : Mg) (F H : Hp)
def RepO : Option V → T → AS → Prop
  | none, t, S => t = .no ∧ ∀ x, ¬ S x
  | some v, t, S => Rep K mg F H v t S
inductive StR : L2.St → List T → AS → Prop
  | nil {S : AS} : (∀ x, ¬ S x) → StR [] [] S
  | cons {s : Option V} {t : T} {σ : L2.St} {env : List T} {S S1 S2 : AS} : RepO K mg F H s t S1 → StR σ env S2 → Dj S1 S2 → (∀ x, S x ↔ S1 x ∨ S2 x) → StR (s :: σ) (t :: env) S
structure Ok (σ : L2.St) (env : List T) (S : AS) : Prop where
  le : Le F H
  st : StR K mg F H σ env S
end
section
variable {K : PySem.W.Frag} {mg : Mg} {F H F' H' : Hp} {σ : L2.St} {env : List T} {S S' R : AS}
theorem RepO.frame (ff : Le F F') {s : Option V} {t : T} (r : RepO K mg F H s t S) (k : ∀ x, S x → H' x = H x ∧ F' x = none) : RepO K mg F' H' s t S := by
  cases s with
  | none => exact r
  | some v => exact Rep.frame ff r k
theorem RepO.dom {s : Option V} {t : T} (r : RepO K mg F H s t S) : ∀ x, S x → (∃ o, H x = some o) ∧ F x = none := by
  cases s with
  | none => exact fun x h => (r.2 x h).elim
  | some v => exact Rep.dom r
theorem StR.dom (r : StR K mg F H σ env S) : ∀ x, S x → (∃ o, H x = some o) ∧ F x = none := by
  induction r with
  | nil h => exact fun x z => (h x z).elim
  | cons r _ _ hS ih => exact fun x z => ((hS x).mp z).elim (r.dom x) (ih x)
theorem StR.frame (ff : Le F F') (r : StR K mg F H σ env S) (k : ∀ x, S x → H' x = H x ∧ F' x = none) : StR K mg F' H' σ env S := by
  induction r with
  | nil h => exact .nil h
  | cons r _ d hS ih => exact .cons (r.frame ff fun x z => k x ((hS x).mpr (.inl z))) (ih fun x z => k x ((hS x).mpr (.inr z))) d hS
theorem StR.length (r : StR K mg F H σ env S) : σ.length = env.length := by
  induction r with
  | nil h => rfl
  | cons _ _ _ _ ih => simp [ih]
theorem StR.iff (r : StR K mg F H σ env S) (h : ∀ x, S' x ↔ S x) : StR K mg F H σ env S' := by
  have e : S' = S := funext fun x => propext (h x)
  rw [e]; exact r
/-- one slot taken out, and another thing put in -/
theorem StR.split (r : StR K mg F H σ env S) : ∀ {i : Nat} {t : T}, env[i]? = some t → ∃ s A B, σ[i]? = some s ∧ RepO K mg F H s t A ∧ Dj A B ∧ (∀ x, S x ↔ A x ∨ B x) ∧
    ∀ (F' H' : Hp) (s' : Option V) (t' : T) (A' : AS), Le F F' → (∀ x, B x → H' x = H x ∧ F' x = none) → RepO K mg F' H' s' t' A' → Dj A' B → StR K mg F' H' (σ.set i s') (env.set i t') (Cup A' B) := by
  induction r with
  | nil h => intro i t e; simp at e
  | @cons s0 t0 σ0 env0 S S1 S2 r q d hS ih =>
    intro i t e
    cases i with
    | zero =>
      simp at e
      subst e
      refine ⟨s0, S1, S2, rfl, r, d, hS, fun F' H' s' t' A' ff k r' d' => ?_⟩
      exact .cons r' (q.frame ff k) d' fun x => Iff.rfl
    | succ i =>
      obtain ⟨s, A, B, e1, e2, e3, e4, e5⟩ := ih (i := i) (t := t) (by simpa using e)
      refine ⟨s, A, Cup S1 B, by simpa using e1, e2, fun x ha hb => ?_, fun x => ?_, fun F' H' s' t' A' ff k r' d' => ?_⟩
      · exact hb.elim (fun z => d x z ((e4 x).mpr (.inl ha))) (e3 x ha)
      · rw [hS x, e4 x]; unfold Cup; constructor
        · rintro (h | h | h)
          · exact .inr (.inl h)
          · exact .inl h
          · exact .inr (.inr h)
        · rintro (h | h | h)
          · exact .inr (.inl h)
          · exact .inl h
          · exact .inr (.inr h)
      · refine .cons (S1 := S1) (S2 := Cup A' B) (r.frame ff fun x z => k x (.inl z)) (e5 F' H' s' t' A' ff (fun x z => k x (.inr z)) r' fun x a b => d' x a (.inr b)) (fun x a b => ?_) fun x => ?_
        · exact b.elim (fun z => d' x z (.inl a)) fun z => d x a ((e4 x).mpr (.inr z))
        · unfold Cup; constructor
          · rintro (h | h | h)
            · exact .inr (.inl h)
            · exact .inl h
            · exact .inr (.inr h)
          · rintro (h | h | h)
            · exact .inr (.inl h)
            · exact .inl h
            · exact .inr (.inr h)
theorem Ok.keep {S1 S2 : AS} {F1 H1 : Hp} (o : Ok K mg F H σ env S) (a : Stp F H S1 F1 H1 S2) (d : Dj S1 S) (le : Le F1 H1) : Ok K mg F1 H1 σ env S :=
  ⟨le, o.st.frame a.ff (a.keeps o.st.dom d)⟩
theorem set_self' {α : Type} : ∀ {l : List α} {i : Nat} {a : α}, l[i]? = some a → l.set i a = l
  | [], _, _, h => by simp at h
  | x :: l, 0, a, h => by simp at h; subst h; rfl
  | x :: l, i + 1, a, h => by
    show x :: l.set i a = x :: l
    rw [set_self' (by simpa using h)]
end
theorem dj_emp {A : AS} : Dj A Emp := fun _ _ h => h
theorem emp_dj {A : AS} : Dj Emp A := fun _ h _ => h
theorem Dj.symm {A B : AS} (h : Dj A B) : Dj B A := fun x b a => h x a b
end Tr


set_option Elab.async false
set_option linter.all false
set_option maxRecDepth 100000
set_option maxHeartbeats 4000000
/-! D2: judgements over trees; names, constants, operators by values. -/
namespace Tr
open PySem PySem.Spec PyProof.Rows L2

abbrev DV := List T → Option T
abbrev DE := List T → Option (T × List T)
section
variable (K : PySem.W.Frag) (mg : Mg)
/-- a view: nothing changes -/
def tV (d : DV) : TE := fun σ H Q => ∃ F env S t, Ok K mg F H σ env S ∧ d env = some t ∧ ∀ v R, Rep K mg F H v t R → Q v H
/-- read only: the value may lean on the slots -/
def tR (d : DE) : TE := fun σ H Q => ∃ F env S t env', Ok K mg F H σ env S ∧ d env = some (t, env') ∧
  ∀ v F' H' S' R, Stp F H S F' H' S' → Ok K mg F' H' σ env' S' → Rep K mg F' H' v t R → Q v H'
/-- a value of one's own -/
def tE (d : DE) : TE := fun σ H Q => ∃ F env S t env', Ok K mg F H σ env S ∧ d env = some (t, env') ∧
  ∀ v F' H' S' R, Stp F H S F' H' (Cup S' R) → Ok K mg F' H' σ env' S' → Rep K mg F' H' v t R → Dj S' R → Q v H'
end
def SV (X : Cx) (e : Expr) (d : DV) : Prop := PE X e (tV X.K X.mg d)
def SR (X : Cx) (e : Expr) (d : DE) : Prop := PE X e (tR X.K X.mg d)
def SE (X : Cx) (e : Expr) (d : DE) : Prop := PE X e (tE X.K X.mg d)
def ST (X : Cx) (e : Expr) (d : DE) : Prop := PT X e (tTest (tR X.K X.mg d))
theorem pew {X : Cx} {e : Expr} {t t' : TE} (h : PE X e t) (i : ∀ σ H Q, t' σ H Q → t σ H Q) : PE X e t' := ⟨fun pins s σ H Q I q => h.run pins s σ H Q I (i σ H Q q)⟩
theorem ptw {X : Cx} {e : Expr} {t t' : TT} (h : PT X e t) (i : ∀ σ H Q, t' σ H Q → t σ H Q) : PT X e t' := ⟨fun pins s σ H Q I q => h.run pins s σ H Q I (i σ H Q q)⟩

def vr (d : DV) : DE := fun env => (d env).map fun t => (t, env)
def re (d : DE) : DE := fun env => match d env with
  | some (t, e) => if cln t = true then some (t, e) else none
  | none => none
section
variable {K : PySem.W.Frag} {mg : Mg} {d : DV} {de : DE} {σ : L2.St} {H : Hp} {Q : VK}
theorem vr_some {env : List T} {t : T} {e : List T} (h : vr d env = some (t, e)) : d env = some t ∧ e = env := by
  unfold vr at h
  cases q : d env with
  | none => rw [q] at h; cases h
  | some u => rw [q] at h; cases h; exact ⟨rfl, rfl⟩
theorem re_some {env : List T} {t : T} {e : List T} (h : re de env = some (t, e)) : de env = some (t, e) ∧ cln t = true := by
  unfold re at h
  cases q : de env with
  | none => rw [q] at h; cases h
  | some u =>
    obtain ⟨u1, u2⟩ := u
    rw [q] at h
    by_cases c : cln u1 = true
    · simp only [c, if_true, Option.some.injEq, Prod.mk.injEq] at h
      obtain ⟨rfl, rfl⟩ := h
      exact ⟨rfl, c⟩
    · simp only [c] at h; cases h
theorem vr_imp (h : tR K mg (vr d) σ H Q) : tV K mg d σ H Q := by
  obtain ⟨F, env, S, t, e, ok, hd, q⟩ := h
  obtain ⟨h1, rfl⟩ := vr_some hd
  exact ⟨F, e, S, t, ok, h1, fun v R r => q v F H S R .refl ok r⟩
theorem er_imp (h : tR K mg de σ H Q) : tE K mg de σ H Q := by
  obtain ⟨F, env, S, t, e, ok, hd, q⟩ := h
  exact ⟨F, env, S, t, e, ok, hd, fun v F' H' S' R st ok' r _ => q v F' H' S' R (st.weak fun _ z => .inl z) ok' r⟩
theorem re_imp (h : tE K mg (re de) σ H Q) : tR K mg de σ H Q := by
  obtain ⟨F, env, S, t, e, ok, hd, q⟩ := h
  obtain ⟨h1, c⟩ := re_some hd
  exact ⟨F, env, S, t, e, ok, h1, fun v F' H' S' R st ok' r => q v F' H' S' Emp (st.weak fun _ z => z.elim id fun z => z.elim) ok' (r.clean0 c) dj_emp⟩
end
theorem SV.r {X : Cx} {e : Expr} {d : DV} (h : SV X e d) : SR X e (vr d) := pew h fun _ _ _ => vr_imp
theorem SE.r {X : Cx} {e : Expr} {d : DE} (h : SE X e d) : SR X e d := pew h fun _ _ _ => er_imp
theorem SR.e {X : Cx} {e : Expr} {d : DE} (h : SR X e d) : SE X e (re d) := pew h fun _ _ _ => re_imp
theorem SV.e {X : Cx} {e : Expr} {d : DV} (h : SV X e d) : SE X e (re (vr d)) := h.r.e
/-- as a test, where the test is by its value -/
theorem ST.val {X : Cx} {e : Expr} {d : DE} (h : SR X e d) (he : ∀ whole, isTrue e X.env whole = (do let v ← whole; standAt e.pos; holding [v] (truthy v)) := by intro _; rfl) : ST X e d :=
  ptw (pt_val h he) fun _ _ _ z => z

/-! ### names, constants -/
def gC (v : V) : DV := fun _ => some (.lf v)
def gG (t : T) : DV := fun _ => some t
def gV (i : Nat) : DV := fun env => match env[i]? with
  | some .no => none
  | some t => some t
  | none => none
def gM (i : Nat) : DE := fun env => match gV i env with
  | some t => some (t, env.set i .no)
  | none => none
def gS (i : Nat) : DE := fun env => match gV i env with
  | some t => some (frz t, env.set i (frz t))
  | none => none
theorem gV_some {i : Nat} {env : List T} {t : T} (h : gV i env = some t) : env[i]? = some t ∧ t ≠ .no := by
  unfold gV at h
  split at h
  · cases h
  · rename_i t' hne e
    cases h
    exact ⟨e, fun z => hne z⟩
  · cases h
section
variable {X : Cx} {i : Nat} {x : Str} {pos : Pos}
theorem sv_int {n : Int} {j : Nat} : SV X (.Constant (.int n) j pos) (gC (.int n)) := pew pe_int fun _ _ _ ⟨_, _, _, _, ok, h, q⟩ => q _ Emp (by cases h; exact .lf rfl fun _ z => z)
theorem sv_bl {n : Bool} {j : Nat} : SV X (.Constant (.bool n) j pos) (gC (.bl n)) := pew pe_bl fun _ _ _ ⟨_, _, _, _, ok, h, q⟩ => q _ Emp (by cases h; exact .lf rfl fun _ z => z)
theorem sv_non {j : Nat} : SV X (.Constant .none j pos) (gC .non) := pew pe_non fun _ _ _ ⟨_, _, _, _, ok, h, q⟩ => q _ Emp (by cases h; exact .lf rfl fun _ z => z)
theorem sv_str {n : Str} {j : Nat} : SV X (.Constant (.str n) j pos) (gC (.str n)) := pew pe_str fun _ _ _ ⟨_, _, _, _, ok, h, q⟩ => q _ Emp (by cases h; exact .lf rfl fun _ z => z)
theorem sv_glob {v : V} {u : Value} {t : T} (hg : Gl X x) (hm : X.mg x = some u) (r : RelV v u) (hr : ∀ F H, Rep X.K X.mg F H v t Emp) (hd : (x == ("__debug__" : Str)) = false := by decide) : SV X (.Name x pos) (gG t) :=
  pew (pe_glob hg hm r hd) fun _ _ _ ⟨_, _, _, _, ok, h, q⟩ => q _ Emp (by cases h; exact hr _ _)
theorem StR.slot {K : PySem.W.Frag} {mg : Mg} {F H : Hp} {σ : L2.St} {env : List T} {S : AS} (r : StR K mg F H σ env S) {t : T} (h : env[i]? = some t) (hn : t ≠ .no) :
    ∃ v A B, σ[i]? = some (some v) ∧ Rep K mg F H v t A ∧ Dj A B ∧ (∀ x, S x ↔ A x ∨ B x) ∧
    ∀ (F' H' : Hp) (s' : Option V) (t' : T) (A' : AS), Le F F' → (∀ x, B x → H' x = H x ∧ F' x = none) → RepO K mg F' H' s' t' A' → Dj A' B → StR K mg F' H' (σ.set i s') (env.set i t') (Cup A' B) := by
  obtain ⟨s, A, B, h1, h2, h3, h4, h5⟩ := r.split h
  cases s with
  | none => exact (hn h2.1).elim
  | some v => exact ⟨v, A, B, h1, h2, h3, h4, h5⟩
theorem sv_name (hN : X.N[i]? = some x := by rfl) (hv : Vis X.env.scope x := by first | exact Or.inl rfl | exact Or.inr (Or.inl rfl) | exact Or.inr (Or.inr rfl)) (hd : (x == ("__debug__" : Str)) = false := by decide)
    (hcd : (x == ("__classdict__" : Str)) = false := by decide) : SV X (.Name x pos) (gV i) := pew (pe_var hN hv hd hcd) fun σ H Q ⟨F, env, S, t, ok, h, q⟩ => by
  obtain ⟨h1, h2⟩ := gV_some h
  obtain ⟨v, A, B, e, r, _⟩ := ok.st.slot h1 h2
  exact ⟨v, e, q v A r⟩
theorem se_move (hN : X.N[i]? = some x := by rfl) (hv : Vis X.env.scope x := by first | exact Or.inl rfl | exact Or.inr (Or.inl rfl) | exact Or.inr (Or.inr rfl)) (hd : (x == ("__debug__" : Str)) = false := by decide)
    (hcd : (x == ("__classdict__" : Str)) = false := by decide) : SE X (.Name x pos) (gM i) := pew (pe_var hN hv hd hcd) fun σ H Q ⟨F, env, S, t, env', ok, h, q⟩ => by
  unfold gM at h
  cases e1 : gV i env with
  | none => rw [e1] at h; cases h
  | some t' =>
    rw [e1] at h; cases h
    obtain ⟨h1, h2⟩ := gV_some e1
    obtain ⟨v, A, B, e, r, d, hS, rest⟩ := ok.st.slot h1 h2
    refine ⟨v, e, q v F H (Cup Emp B) A ⟨Le.refl _, fun _ _ z _ => z, fun _ _ z => .inl z, fun y z => .inl ((hS y).mpr ?_)⟩ ⟨ok.le, ?_⟩ r fun y z a => ?_⟩
    · exact z.elim (fun z => .inr (z.elim (fun z => z.elim) id)) .inl
    · have := rest F H (some v) .no Emp (Le.refl _) (fun y z => ⟨rfl, (ok.st.dom y ((hS y).mpr (.inr z))).2⟩) (.no fun _ z => z) emp_dj
      rwa [set_self' e] at this
    · exact z.elim (fun z => z.elim) fun z => d y a z
open Classical in
/-- the frozen part with more of the heap -/
noncomputable def frF (F H : Hp) (A : AS) : Hp := fun a => if A a then H a else F a
theorem frF_le {F H : Hp} {A : AS} (h : Le F H) : Le F (frF F H A) ∧ Le (frF F H A) H := by
  constructor
  · intro a o e
    unfold frF
    split
    · exact h a o e
    · exact e
  · intro a o e
    unfold frF at e
    split at e
    · exact e
    · exact h a o e
theorem frF_in {F H : Hp} {A : AS} {a : Addr} (h : A a) : frF F H A a = H a := by unfold frF; rw [if_pos h]
theorem frF_out {F H : Hp} {A : AS} {a : Addr} (h : ¬ A a) : frF F H A a = F a := by unfold frF; rw [if_neg h]
theorem frF_stp {F H : Hp} {A S S' : AS} (le : Le F H) (h : ∀ x, A x → S x) (h' : ∀ x, S' x → S x) : Stp F H S (frF F H A) H S' :=
  ⟨(frF_le le).1, fun _ _ z _ => z, fun a o z => by
    by_cases c : A a
    · exact .inr (.inl (h a c))
    · rw [frF_out c] at z; exact .inl z, fun a z => .inl (h' a z)⟩
theorem se_share (hN : X.N[i]? = some x := by rfl) (hv : Vis X.env.scope x := by first | exact Or.inl rfl | exact Or.inr (Or.inl rfl) | exact Or.inr (Or.inr rfl)) (hd : (x == ("__debug__" : Str)) = false := by decide)
    (hcd : (x == ("__classdict__" : Str)) = false := by decide) : SE X (.Name x pos) (gS i) := pew (pe_var hN hv hd hcd) fun σ H Q ⟨F, env, S, t, env', ok, h, q⟩ => by
  unfold gS at h
  cases e1 : gV i env with
  | none => rw [e1] at h; cases h
  | some t' =>
    rw [e1] at h; cases h
    obtain ⟨h1, h2⟩ := gV_some e1
    obtain ⟨v, A, B, e, r, d, hS, rest⟩ := ok.st.slot h1 h2
    have ff := frF_le (A := A) ok.le
    have r' : Rep X.K X.mg (frF F H A) H v (frz t') Emp := r.freeze ff.1 (fun y z => frF_in z) fun _ z => z
    refine ⟨v, e, q v (frF F H A) H (Cup Emp B) Emp (frF_stp ok.le (fun y z => (hS y).mpr (.inl z)) fun y z => (hS y).mpr ?_) ⟨ff.2, ?_⟩ r' dj_emp⟩
    · exact .inr (z.elim (fun z => z.elim (fun z => z.elim) id) fun z => z.elim)
    · have := rest (frF F H A) H (some v) (frz t') Emp ff.1 (fun y z => ⟨rfl, by rw [frF_out fun a => d y a z]; exact (ok.st.dom y ((hS y).mpr (.inr z))).2⟩) r' emp_dj
      rwa [set_self' e] at this
end

/-! ### operators by values -/
section
variable (K : PySem.W.Frag) (mg : Mg)
def Op1V (r : V → Hp → VK → Prop) (o : T → Option T) : Prop := ∀ (F H : Hp) (x : V) (t : T) (R : AS) (u : T) (Q : VK), Le F H → Rep K mg F H x t R → o t = some u → (∀ v R', Rep K mg F H v u R' → Q v H) → r x H Q
def Op2V (r : R2) (o : T → T → Option T) : Prop := ∀ (F H : Hp) (x y : V) (t s : T) (R R2 : AS) (u : T) (Q : VK), Le F H → Rep K mg F H x t R → Rep K mg F H y s R2 → o t s = some u → (∀ v R', Rep K mg F H v u R' → Q v H) → r x y H Q
def Op1E (r : V → Hp → VK → Prop) (o : T → Option T) : Prop := ∀ (F H : Hp) (x : V) (t : T) (R : AS) (u : T) (Q : VK), Le F H → Rep K mg F H x t R → o t = some u →
  (∀ v F' H' R', Stp F H Emp F' H' R' → Le F' H' → Rep K mg F' H' v u R' → Q v H') → r x H Q
def Op2E (r : R2) (o : T → T → Option T) : Prop := ∀ (F H : Hp) (x y : V) (t s : T) (R R2 : AS) (u : T) (Q : VK), Le F H → Rep K mg F H x t R → Rep K mg F H y s R2 → o t s = some u →
  (∀ v F' H' R', Stp F H Emp F' H' R' → Le F' H' → Rep K mg F' H' v u R' → Q v H') → r x y H Q
end
def o1V (o : T → Option T) (d : DV) : DV := fun env => (d env).bind o
def o1 (o : T → Option T) (d : DE) : DE := fun env => (d env).bind fun p => (o p.1).map fun u => (u, p.2)
def o2V (o : T → T → Option T) (da db : DV) : DV := fun env => (da env).bind fun t => (db env).bind fun s => o t s
/-- the second one a view -/
def o2v (o : T → T → Option T) (da : DE) (db : DV) : DE := fun env => (da env).bind fun p => (db p.2).bind fun s => (o p.1 s).map fun u => (u, p.2)
/-- the first one has nothing owned -/
def o2c (o : T → T → Option T) (da db : DE) : DE := fun env => (da env).bind fun p => (db p.2).bind fun q => if cln p.1 = true then (o p.1 q.1).map fun u => (u, q.2) else none
/-- the first one is one's own -/
def o2o (o : T → T → Option T) (da db : DE) : DE := fun env => (da env).bind fun p => (db p.2).bind fun q => (o p.1 q.1).map fun u => (u, q.2)
section
variable {K : PySem.W.Frag} {mg : Mg} {o : T → Option T} {p : T → T → Option T} {d da db : DE} {v va vb : DV} {r1 : V → Hp → VK → Prop} {r : R2} {σ : L2.St} {H : Hp} {Q : VK}
theorem i1V (h : Op1V K mg r1 o) (q : tV K mg (o1V o v) σ H Q) : tV K mg v σ H fun x H1 => r1 x H1 Q := by
  obtain ⟨F, env, S, t, ok, hd, q⟩ := q
  obtain ⟨x, h1, h2⟩ := Option.bind_eq_some_iff.mp hd
  exact ⟨F, env, S, x, ok, h1, fun v R r => h F H v x R t Q ok.le r h2 q⟩
theorem i1R (h : Op1V K mg r1 o) (q : tR K mg (o1 o d) σ H Q) : tR K mg d σ H fun x H1 => r1 x H1 Q := by
  obtain ⟨F, env, S, t, env', ok, hd, q⟩ := q
  obtain ⟨⟨x, e⟩, h1, h2⟩ := Option.bind_eq_some_iff.mp hd
  obtain ⟨u, h3, h4⟩ := Option.map_eq_some_iff.mp h2
  cases h4
  exact ⟨F, env, S, x, _, ok, h1, fun v F' H' S' R st ok' r => h F' H' v x R _ Q ok'.le r h3 fun v' R' r' => q v' F' H' S' R' st ok' r'⟩
/-- behind a read: a new thing beside the slots -/
theorem fin_new {F F1 F2 H1 H2 : Hp} {env : List T} {S S1 R' : AS} (st : Stp F H S F1 H1 S1) (ok : Ok K mg F1 H1 σ env S1) (st2 : Stp F1 H1 Emp F2 H2 R') (le : Le F2 H2) :
    Stp F H S F2 H2 (Cup S1 R') ∧ Ok K mg F2 H2 σ env S1 ∧ Dj S1 R' := by
  refine ⟨st.trans ⟨st2.ff, fun a o h n => st2.kp a o h fun z => z, fun a o h => (st2.nf a o h).elim .inl fun z => z.elim (fun z => z.elim) fun z => .inr (.inr z), fun a h => h.elim (fun z => .inl z) fun z => (st2.no a z).elim (fun z => z.elim) .inr⟩,
    ok.keep st2 emp_dj le, fun a s z => ?_⟩
  obtain ⟨⟨o, e⟩, _⟩ := ok.st.dom a s
  exact (st2.no a z).elim (fun z => z.elim) fun z => by rw [e] at z; cases z
theorem i1E (h : Op1E K mg r1 o) (q : tE K mg (o1 o d) σ H Q) : tR K mg d σ H fun x H1 => r1 x H1 Q := by
  obtain ⟨F, env, S, t, env', ok, hd, q⟩ := q
  obtain ⟨⟨x, e⟩, h1, h2⟩ := Option.bind_eq_some_iff.mp hd
  obtain ⟨u, h3, h4⟩ := Option.map_eq_some_iff.mp h2
  cases h4
  refine ⟨F, env, S, x, _, ok, h1, fun v F' H' S' R st ok' r => h F' H' v x R _ Q ok'.le r h3 fun v' F2 H2 R' st2 le2 r' => ?_⟩
  obtain ⟨a, b, c⟩ := fin_new st ok' st2 le2
  exact q v' F2 H2 S' R' a b r' c
theorem i2V (h : Op2V K mg r p) (q : tV K mg (o2V p va vb) σ H Q) : tOp r (tV K mg va) (tV K mg vb) σ H Q := by
  obtain ⟨F, env, S, t, ok, hd, q⟩ := q
  obtain ⟨x, h1, h2⟩ := Option.bind_eq_some_iff.mp hd
  obtain ⟨y, h3, h4⟩ := Option.bind_eq_some_iff.mp h2
  exact ⟨F, env, S, x, ok, h1, fun v R r => ⟨F, env, S, y, ok, h3, fun w R' r' => h F H v w x y R R' t Q ok.le r r' h4 q⟩⟩
theorem o2v_some {env : List T} {t : T} {e : List T} (h : o2v p da vb env = some (t, e)) : ∃ x y, da env = some (x, e) ∧ vb e = some y ∧ p x y = some t := by
  obtain ⟨⟨x, e1⟩, h1, h2⟩ := Option.bind_eq_some_iff.mp h
  obtain ⟨y, h3, h4⟩ := Option.bind_eq_some_iff.mp h2
  obtain ⟨u, h5, h6⟩ := Option.map_eq_some_iff.mp h4
  cases h6
  exact ⟨x, y, h1, h3, h5⟩
theorem o2o_some {env : List T} {t : T} {e : List T} (h : o2o p da db env = some (t, e)) : ∃ x e1 y, da env = some (x, e1) ∧ db e1 = some (y, e) ∧ p x y = some t := by
  obtain ⟨⟨x, e1⟩, h1, h2⟩ := Option.bind_eq_some_iff.mp h
  obtain ⟨⟨y, e2⟩, h3, h4⟩ := Option.bind_eq_some_iff.mp h2
  obtain ⟨u, h5, h6⟩ := Option.map_eq_some_iff.mp h4
  cases h6
  exact ⟨x, e1, y, h1, h3, h5⟩
theorem o2c_some {env : List T} {t : T} {e : List T} (h : o2c p da db env = some (t, e)) : ∃ x e1 y, da env = some (x, e1) ∧ db e1 = some (y, e) ∧ cln x = true ∧ p x y = some t := by
  obtain ⟨⟨x, e1⟩, h1, h2⟩ := Option.bind_eq_some_iff.mp h
  obtain ⟨⟨y, e2⟩, h3, h4⟩ := Option.bind_eq_some_iff.mp h2
  by_cases c : cln x = true
  · simp only [c, if_true] at h4
    obtain ⟨u, h5, h6⟩ := Option.map_eq_some_iff.mp h4
    cases h6
    exact ⟨x, e1, y, h1, h3, c, h5⟩
  · simp only [c] at h4; cases h4
theorem i2v (h : Op2V K mg r p) (q : tR K mg (o2v p da vb) σ H Q) : tOp r (tR K mg da) (tV K mg vb) σ H Q := by
  obtain ⟨F, env, S, t, env', ok, hd, q⟩ := q
  obtain ⟨x, y, h1, h3, h4⟩ := o2v_some hd
  exact ⟨F, env, S, x, _, ok, h1, fun v F1 H1 S1 R st ok1 r => ⟨F1, env', S1, y, ok1, h3, fun w R' r' => h F1 H1 v w x y R R' t Q ok1.le r r' h4 fun v' R'' r'' => q v' F1 H1 S1 R'' st ok1 r''⟩⟩
theorem i2vE (h : Op2E K mg r p) (q : tE K mg (o2v p da vb) σ H Q) : tOp r (tR K mg da) (tV K mg vb) σ H Q := by
  obtain ⟨F, env, S, t, env', ok, hd, q⟩ := q
  obtain ⟨x, y, h1, h3, h4⟩ := o2v_some hd
  refine ⟨F, env, S, x, _, ok, h1, fun v F1 H1 S1 R st ok1 r => ⟨F1, env', S1, y, ok1, h3, fun w R' r' => h F1 H1 v w x y R R' t Q ok1.le r r' h4 fun v' F2 H2 R'' st2 le2 r'' => ?_⟩⟩
  obtain ⟨a, b, c⟩ := fin_new st ok1 st2 le2
  exact q v' F2 H2 S1 R'' a b r'' c
theorem i2c (h : Op2V K mg r p) (q : tR K mg (o2c p da db) σ H Q) : tOp r (tR K mg da) (tR K mg db) σ H Q := by
  obtain ⟨F, env, S, t, env', ok, hd, q⟩ := q
  obtain ⟨x, e1, y, h1, h3, c, h4⟩ := o2c_some hd
  refine ⟨F, env, S, x, _, ok, h1, fun v F1 H1 S1 R st ok1 r => ⟨F1, e1, S1, y, _, ok1, h3, fun w F2 H2 S2 R' st2 ok2 r' => ?_⟩⟩
  exact h F2 H2 v w x y Emp R' t Q ok2.le (r.stay st2.ff c) r' h4 fun v' R'' r'' => q v' F2 H2 S2 R'' (st.trans st2) ok2 r''
theorem i2cE (h : Op2E K mg r p) (q : tE K mg (o2c p da db) σ H Q) : tOp r (tR K mg da) (tR K mg db) σ H Q := by
  obtain ⟨F, env, S, t, env', ok, hd, q⟩ := q
  obtain ⟨x, e1, y, h1, h3, c, h4⟩ := o2c_some hd
  refine ⟨F, env, S, x, _, ok, h1, fun v F1 H1 S1 R st ok1 r => ⟨F1, e1, S1, y, _, ok1, h3, fun w F2 H2 S2 R' st2 ok2 r' => ?_⟩⟩
  refine h F2 H2 v w x y Emp R' t Q ok2.le (r.stay st2.ff c) r' h4 fun v' F3 H3 R'' st3 le3 r'' => ?_
  obtain ⟨a, b, c⟩ := fin_new (st.trans st2) ok2 st3 le3
  exact q v' F3 H3 S2 R'' a b r'' c
theorem i2o (h : Op2V K mg r p) (q : tR K mg (o2o p da db) σ H Q) : tOp r (tE K mg da) (tR K mg db) σ H Q := by
  obtain ⟨F, env, S, t, env', ok, hd, q⟩ := q
  obtain ⟨x, e1, y, h1, h3, h4⟩ := o2o_some hd
  refine ⟨F, env, S, x, _, ok, h1, fun v F1 H1 S1 R st ok1 r dj => ⟨F1, e1, S1, y, _, ok1, h3, fun w F2 H2 S2 R' st2 ok2 r' => ?_⟩⟩
  exact h F2 H2 v w x y R R' t Q ok2.le (r.keep st2 dj) r' h4 fun v' R'' r'' => q v' F2 H2 S2 R'' ((st.weak fun _ z => .inl z).trans st2) ok2 r''
theorem i2oE (h : Op2E K mg r p) (q : tE K mg (o2o p da db) σ H Q) : tOp r (tE K mg da) (tR K mg db) σ H Q := by
  obtain ⟨F, env, S, t, env', ok, hd, q⟩ := q
  obtain ⟨x, e1, y, h1, h3, h4⟩ := o2o_some hd
  refine ⟨F, env, S, x, _, ok, h1, fun v F1 H1 S1 R st ok1 r dj => ⟨F1, e1, S1, y, _, ok1, h3, fun w F2 H2 S2 R' st2 ok2 r' => ?_⟩⟩
  refine h F2 H2 v w x y R R' t Q ok2.le (r.keep st2 dj) r' h4 fun v' F3 H3 R'' st3 le3 r'' => ?_
  obtain ⟨a, b, c⟩ := fin_new ((st.weak fun _ z => .inl z).trans st2) ok2 st3 le3
  exact q v' F3 H3 S2 R'' a b r'' c
end
end Tr


set_option Elab.async false
set_option linter.all false
set_option maxRecDepth 100000
set_option maxHeartbeats 4000000
/-! D3: operators over trees. -/
namespace Tr
open PySem PySem.Spec PyProof.Rows L2

section
variable {K : PySem.W.Frag} {mg : Mg} {F H : Hp} {v w : V} {t : T} {R : AS}
theorem Rep.lf_inv (r : Rep K mg F H v (.lf w) R) : v = w ∧ sc w = true ∧ ∀ x, ¬ R x := by
  cases r with
  | lf h k => exact ⟨rfl, h, k⟩
def Here (K : PySem.W.Frag) (mg : Mg) (H : Hp) (a : Addr) : Kd → List V → Prop
  | .lst, vs => H a = some (.lst vs)
  | .tup, vs => H a = some (.tup vs)
  | .rol, vs => SqL K H a vs
  | .rot, vs => SqT K H a vs
  | .dK ks, vs => ks.length = vs.length ∧ H a = some (.dK (ks.zip vs))
  | .dL ks, vs => ks.length = vs.length ∧ ∃ od, H a = some (.frz od (.dK (ks.zip vs)))
  | .ins c ns, vs => ns.length = vs.length ∧ ∃ C dx, H a = some (.ins C dx (ns.zip vs)) ∧ mg c = some (.ref C)
theorem Here.of {a : Addr} {k : Kd} {o : HO} {vs : List V} (e : H a = some o) (c : Cont mg k o vs) : Here K mg H a k vs := by
  cases k with
  | lst => cases c; exact e
  | tup => cases c; exact e
  | rol => exact c.elim
  | rot => exact c.elim
  | dK ks => obtain ⟨h, rfl⟩ := c; exact ⟨h, e⟩
  | dL ks => obtain ⟨h, od, rfl⟩ := c; exact ⟨h, od, e⟩
  | ins n ns => obtain ⟨h, C, dx, rfl, m⟩ := c; exact ⟨h, C, dx, e, m⟩
theorem Rep.nd_inv (le : Le F H) {o : Bool} {k : Kd} {xs : List T} (r : Rep K mg F H v (.nd o k xs) R) :
    ∃ a vs S0, v = .ref a ∧ Reps K mg F H vs xs S0 ∧ (∀ x, S0 x → R x) ∧ Here K mg H a k vs := by
  cases r with
  | own h1 h2 c r na hS => exact ⟨_, _, _, rfl, r, fun x z => (hS x).mpr (.inr z), .of h1 c⟩
  | frz h c r => exact ⟨_, _, _, rfl, r, fun _ z => z, .of (le _ _ h) c⟩
  | rol h r => exact ⟨_, _, _, rfl, r, fun _ z => z, le.sqL h⟩
  | rot h r => exact ⟨_, _, _, rfl, r, fun _ z => z, le.sqT h⟩
/-- a sequence -/
def isSq : Kd → Bool
  | .lst => true | .tup => true | .rol => true | .rot => true | _ => false
theorem Here.sq {a : Addr} {k : Kd} {vs : List V} (h : Here K mg H a k vs) (q : isSq k = true) : SqL K H a vs ∨ SqT K H a vs := by
  cases k with
  | lst => exact .inl (.of h)
  | tup => exact .inr (.of h)
  | rol => exact .inl h
  | rot => exact .inr h
  | dK ks => cases q
  | dL ks => cases q
  | ins n ns => cases q
/-- a new thing beside -/
theorem new_one {p : Addr} {k : Kd} {o : HO} {vs : List V} {xs : List T} (le : Le F H) (hp : H p = none) (c : Cont mg k o vs) (r : Reps K mg F H vs xs Emp) :
    Stp F H Emp F (upd H p o) (fun x => x = p) ∧ Le F (upd H p o) ∧ Rep K mg F (upd H p o) (.ref p) (.nd true k xs) (fun x => x = p) := by
  have fp : F p = none := le.nn hp
  refine ⟨⟨Le.refl _, fun a o' e _ => by rw [upd_ne (ne_of_none e hp)]; exact e, fun _ _ e => .inl e, fun a e => .inr (by rw [e]; exact hp)⟩,
    fun a o' e => by rw [upd_ne (ne_of_none (le _ _ e) hp)]; exact le _ _ e, ?_⟩
  exact .own upd_same fp c (r.frame (Le.refl _) fun _ z => z.elim) (fun z => z) fun x => ⟨.inl, fun z => z.elim id fun z => z.elim⟩
/-- a new tuple beside, at once frozen -/
theorem new_tup {p : Addr} {vs : List V} {xs : List T} (le : Le F H) (hp : H p = none) (r : Reps K mg F H vs xs Emp) :
    Stp F H Emp (upd F p (.tup vs)) (upd H p (.tup vs)) Emp ∧ Le (upd F p (.tup vs)) (upd H p (.tup vs)) ∧ Rep K mg (upd F p (.tup vs)) (upd H p (.tup vs)) (.ref p) (.nd false .tup xs) Emp := by
  have fp : F p = none := le.nn hp
  have ff : Le F (upd F p (.tup vs)) := fun a o e => by rw [upd_ne (ne_of_none e fp)]; exact e
  refine ⟨⟨ff, fun a o' e _ => by rw [upd_ne (ne_of_none e hp)]; exact e, fun a o e => ?_, fun a z => z.elim⟩, fun a o e => ?_, ?_⟩
  · by_cases h : a = p
    · exact .inr (.inr (by rw [h]; exact hp))
    · rw [upd_ne h] at e; exact .inl e
  · by_cases h : a = p
    · subst h; rw [upd_same] at e ⊢; exact e
    · rw [upd_ne h] at e ⊢; exact le a o e
  · exact .frz upd_same rfl (r.frame ff fun _ z => z.elim)
theorem Reps.flat {vs : List V} {ts : List T} {S : AS} (r : Reps K mg F H vs ts S) : clns ts = true → Reps K mg F H vs ts Emp := r.clean0
end

/-! ### whole numbers -/
def oI (C : Int → Int → Bool) (g : Int → Int → V) : T → T → Option T
  | .lf (.int i), .lf (.int j) => if C i j = true then some (.lf (g i j)) else none
  | _, _ => none
def oI1 (g : Int → V) : T → Option T
  | .lf (.int i) => some (.lf (g i))
  | _ => none
section
variable {K : PySem.W.Frag} {mg : Mg}
theorem oI_some {C : Int → Int → Bool} {g : Int → Int → V} {t s u : T} (h : oI C g t s = some u) : ∃ i j, t = .lf (.int i) ∧ s = .lf (.int j) ∧ C i j = true ∧ u = .lf (g i j) := by
  unfold oI at h
  split at h
  · split at h
    · exact ⟨_, _, rfl, rfl, by assumption, (Option.some.inj h).symm⟩
    · cases h
  · cases h
theorem op2_rI {C : Int → Int → Bool} {C' : Int → Int → Prop} {g : Int → Int → V} (hC : ∀ i j, C i j = true → C' i j) (hg : ∀ i j, sc (g i j) = true) : Op2V K mg (rI C' g) (oI C g) := by
  intro F H x y t s R R2 u Q le r1 r2 h q
  obtain ⟨i, j, rfl, rfl, c, rfl⟩ := oI_some h
  exact ⟨i, j, r1.lf_inv.1, r2.lf_inv.1, hC i j c, q _ Emp (.lf (hg i j) fun _ z => z)⟩
theorem op2_rI0 {g : Int → Int → V} (hg : ∀ i j, sc (g i j) = true) : Op2V K mg (rI0 g) (oI (fun _ _ => true) g) := by
  intro F H x y t s R R2 u Q le r1 r2 h q
  obtain ⟨i, j, rfl, rfl, c, rfl⟩ := oI_some h
  exact ⟨i, j, r1.lf_inv.1, r2.lf_inv.1, q _ Emp (.lf (hg i j) fun _ z => z)⟩
end
def oSub : T → T → Option T := oI (fun _ _ => true) fun i j => .int (i - j)
def oMul : T → T → Option T := oI (fun i j => (decide (-(2 ^ 64) < i) && decide (i < 2 ^ 64)) || (decide (-(2 ^ 64) < j) && decide (j < 2 ^ 64))) fun i j => .int (i * j)
def oDiv : T → T → Option T := oI (fun _ j => decide (0 < j) && decide (j < 1073741824)) fun i j => .int (i / j)
def oMod : T → T → Option T := oI (fun _ j => decide (0 < j)) fun i j => .int (i % j)
def oPow : T → T → Option T := oI (fun i j => decide (0 ≤ j) && decide (j ≤ 1000000) && decide (i.natAbs < 2 ^ 64)) fun i j => .int (i ^ j.toNat)
def oLt : T → T → Option T := oI (fun _ _ => true) fun i j => .bl (decide (i < j))
def oLe : T → T → Option T := oI (fun _ _ => true) fun i j => .bl (decide (i ≤ j))
def oGt : T → T → Option T := oI (fun _ _ => true) fun i j => .bl (decide (j < i))
def oGe : T → T → Option T := oI (fun _ _ => true) fun i j => .bl (decide (j ≤ i))
def oNeg : T → Option T := oI1 fun i => .int (-i)
/-- + of whole numbers, of texts -/
def oAdd : T → T → Option T
  | .lf (.int i), .lf (.int j) => some (.lf (.int (i + j)))
  | .lf (.str i), .lf (.str j) => if i.length + j.length ≤ sizeLine then some (.lf (.str (i ++ j))) else none
  | _, _ => none
/-- + of lists -/
def oCat : T → T → Option T
  | .nd _ .lst xs, .nd _ .lst ys => if clns xs = true ∧ clns ys = true ∧ xs.length + ys.length ≤ sizeLine then some (.nd true .lst (xs ++ ys)) else none
  | _, _ => none
section
variable {K : PySem.W.Frag} {mg : Mg}
theorem v_sub : Op2V K mg (rI0 fun i j => .int (i - j)) oSub := op2_rI0 fun _ _ => rfl
theorem v_mul : Op2V K mg (rI CMul fun i j => .int (i * j)) oMul := op2_rI (fun i j h => by simpa [CMul] using h) fun _ _ => rfl
theorem v_div : Op2V K mg (rI CDiv fun i j => .int (i / j)) oDiv := op2_rI (fun i j h => by simpa [CDiv] using h) fun _ _ => rfl
theorem v_mod : Op2V K mg (rI (fun _ j => 0 < j) fun i j => .int (i % j)) oMod := op2_rI (fun i j h => by simpa using h) fun _ _ => rfl
theorem v_pow : Op2V K mg (rI CPow fun i j => .int (i ^ j.toNat)) oPow := op2_rI (fun i j h => by simpa [CPow, and_assoc] using h) fun _ _ => rfl
theorem v_lt : Op2V K mg (rI0 fun i j => .bl (decide (i < j))) oLt := op2_rI0 fun _ _ => rfl
theorem v_le : Op2V K mg (rI0 fun i j => .bl (decide (i ≤ j))) oLe := op2_rI0 fun _ _ => rfl
theorem v_gt : Op2V K mg (rI0 fun i j => .bl (decide (j < i))) oGt := op2_rI0 fun _ _ => rfl
theorem v_ge : Op2V K mg (rI0 fun i j => .bl (decide (j ≤ i))) oGe := op2_rI0 fun _ _ => rfl
theorem v_neg : Op1V K mg (rU fun i => .int (-i)) oNeg := by
  intro F H x t R u Q le r h q
  unfold oNeg oI1 at h
  split at h
  · cases h
    exact ⟨_, r.lf_inv.1, q _ Emp (.lf rfl fun _ z => z)⟩
  · cases h
def rAddS : R2 := fun x y H Q => rI0 (fun i j => .int (i + j)) x y H Q ∨ ∃ i j, x = .str i ∧ y = .str j ∧ i.length + j.length ≤ sizeLine ∧ Q (.str (i ++ j)) H
theorem op_addS {X : Cx} : OpR X (binaryOp .Add) rAddS := OpR.or op_add op_add_str
theorem iop_addS {X : Cx} : OpR X (inplaceOp .Add) rAddS := OpR.or iop_add iop_add_str
theorem v_add : Op2V K mg rAddS oAdd := by
  intro F H x y t s R R2 u Q le r1 r2 h q
  unfold oAdd at h
  split at h
  · cases h
    exact .inl ⟨_, _, r1.lf_inv.1, r2.lf_inv.1, q _ Emp (.lf rfl fun _ z => z)⟩
  · split at h
    · cases h
      exact .inr ⟨_, _, r1.lf_inv.1, r2.lf_inv.1, by assumption, q _ Emp (.lf rfl fun _ z => z)⟩
    · cases h
  · cases h
theorem Reps.append {F H : Hp} {ys : List V} {us : List T} {S2 : AS} (q : Reps K mg F H ys us S2) : ∀ {vs : List V} {ts : List T} {S : AS}, Reps K mg F H vs ts S → Dj S S2 → Reps K mg F H (vs ++ ys) (ts ++ us) (Cup S S2)
  | _, _, _, .nil h, _ => q.iff fun x => ⟨fun z => z.elim (fun z => (h x z).elim) id, .inr⟩
  | _, _, _, .cons r p d hS, dj => .cons r (Reps.append q p fun x z => dj x ((hS x).mpr (.inr z))) (fun x a b => b.elim (d x a) (dj x ((hS x).mpr (.inl a)))) fun x => by
      unfold Cup
      rw [hS x]
      exact ⟨fun z => z.elim (fun z => z.elim .inl fun z => .inr (.inl z)) fun z => .inr (.inr z), fun z => z.elim (fun z => .inl (.inl z)) fun z => z.elim (fun z => .inl (.inr z)) .inr⟩
theorem e_cat : Op2E K mg rCat oCat := by
  intro F H x y t s R R2 u Q le r1 r2 h q
  unfold oCat at h
  split at h
  · split at h
    · rename_i xs _ ys c
      cases h
      obtain ⟨a, vs, S0, rfl, p1, _, h1⟩ := r1.nd_inv le
      obtain ⟨b, ws, S1, rfl, p2, _, h2⟩ := r2.nd_inv le
      refine ⟨a, b, vs, ws, rfl, rfl, h1, h2, by rw [p1.length (S := Emp), p2.length (S := Emp)]; exact c.2.2, fun p hp => ?_⟩
      have rr := Reps.append (p2.clean0 c.2.1) (p1.clean0 c.1) fun _ z => z.elim
      obtain ⟨g1, g2, g3⟩ := new_one (k := .lst) (o := .lst (vs ++ ws)) le hp rfl (rr.iff fun x => ⟨fun z => z.elim, fun z => z.elim id id⟩)
      exact q _ _ _ _ g1 g2 g3
    · cases h
  · cases h
end

/-! ### == of data -/
mutual
def toD : T → Option PyData
  | .lf .non => some .none
  | .lf (.bl b) => some (.bool b)
  | .lf (.int i) => some (.int i)
  | .lf (.str x) => some (.str x)
  | .nd _ .lst xs => (toDs xs).map .list
  | .nd _ .rol xs => (toDs xs).map .list
  | .nd _ .tup xs => (toDs xs).map .tuple
  | .nd _ .rot xs => (toDs xs).map .tuple
  | _ => none
def toDs : List T → Option (List PyData)
  | [] => some []
  | t :: ts => (toD t).bind fun d => (toDs ts).map fun ds => d :: ds
end
def oEq : T → T → Option T := fun t s => (toD t).bind fun d => (toD s).bind fun e => if SeqAt.shaped d = true ∧ SeqAt.shaped e = true then some (.lf (.bl (PyData.eqv d e))) else none
def oNe : T → T → Option T := fun t s => (toD t).bind fun d => (toD s).bind fun e => if SeqAt.shaped d = true ∧ SeqAt.shaped e = true then some (.lf (.bl (!PyData.eqv d e))) else none
section
variable {K : PySem.W.Frag} {mg : Mg} {F H : Hp}
mutual
theorem dp_of (le : Le F H) : ∀ {v : V} {t : T} {R : AS} {d : PyData}, Rep K mg F H v t R → toD t = some d → Dp K H v d
  | _, .no, _, _, _, h => by simp [toD] at h
  | _, .lf w, _, _, r, h => by
    obtain ⟨e0, _, _⟩ := r.lf_inv
    rw [e0]
    cases w <;> simp [toD] at h <;> subst h <;> constructor
  | v, .nd o k xs, R, d, r, h => by
    obtain ⟨a, vs, S0, rfl, p, _, hr⟩ := r.nd_inv le
    cases k <;> simp only [toD, Option.map_eq_some_iff] at h <;> first
      | (cases h; done)
      | (obtain ⟨ds, e, rfl⟩ := h
         first
           | exact .lst (SqL.of hr) (dps_of le p e)
           | exact .tup (SqT.of hr) (dps_of le p e)
           | exact .lst hr (dps_of le p e)
           | exact .tup hr (dps_of le p e))
theorem dps_of (le : Le F H) : ∀ {vs : List V} {ts : List T} {R : AS} {ds : List PyData}, Reps K mg F H vs ts R → toDs ts = some ds → DpAll K H vs ds
  | _, [], _, _, r, h => by
    cases r with
    | nil _ => simp [toDs] at h; subst h; exact .nil
  | _, t :: ts, _, _, r, h => by
    cases r with
    | cons r q d hS =>
      simp only [toDs, Option.bind_eq_some_iff, Option.map_eq_some_iff] at h
      obtain ⟨d, e1, ds, e2, rfl⟩ := h
      exact .cons (dp_of le r e1) (dps_of le q e2)
end
theorem v_eq : Op2V K mg (rEqD K) oEq := by
  intro F H x y t s R R2 u Q le r1 r2 h q
  obtain ⟨d, e1, h⟩ := Option.bind_eq_some_iff.mp h
  obtain ⟨e, e2, h⟩ := Option.bind_eq_some_iff.mp h
  split at h
  · rename_i c
    cases h
    exact ⟨d, e, dp_of le r1 e1, dp_of le r2 e2, c.1, c.2, q _ Emp (.lf rfl fun _ z => z)⟩
  · cases h
theorem v_ne : Op2V K mg (rNeD K) oNe := by
  intro F H x y t s R R2 u Q le r1 r2 h q
  obtain ⟨d, e1, h⟩ := Option.bind_eq_some_iff.mp h
  obtain ⟨e, e2, h⟩ := Option.bind_eq_some_iff.mp h
  split at h
  · rename_i c
    cases h
    exact ⟨d, e, dp_of le r1 e1, dp_of le r2 e2, c.1, c.2, q _ Emp (.lf rfl fun _ z => z)⟩
  · cases h
end
end Tr


set_option Elab.async false
set_option linter.all false
set_option maxRecDepth 100000
set_option maxHeartbeats 4000000
/-! D4: more operators: is None, in, len, subscripts, slices, list, sorted, isinstance. -/
namespace Tr
open PySem PySem.Spec PyProof.Rows L2

section
variable {K : PySem.W.Frag} {mg : Mg} {F H : Hp}
/-! ### is None -/
def isNon : T → Option Bool
  | .lf .non => some true
  | .lf _ => some false
  | .nd _ _ _ => some false
  | .no => none
def oIsN : T → T → Option T
  | t, .lf .non => (isNon t).map fun b => .lf (.bl b)
  | _, _ => none
def oNotN : T → T → Option T
  | t, .lf .non => (isNon t).map fun b => .lf (.bl (!b))
  | _, _ => none
theorem isNon_ok {v : V} {t : T} {R : AS} {b : Bool} (le : Le F H) (r : Rep K mg F H v t R) (h : isNon t = some b) : decide (v = .non) = b := by
  cases t with
  | no => cases h
  | lf w =>
    obtain ⟨e, _, _⟩ := r.lf_inv
    subst e
    cases v <;> simp [isNon] at h <;> subst h <;> simp
  | nd o k xs =>
    obtain ⟨a, vs, S0, rfl, _⟩ := r.nd_inv le
    simp [isNon] at h
    subst h
    simp
theorem v_isN : Op2V K mg (fun x y H Q => y = .non ∧ Q (.bl (decide (x = .non))) H) oIsN := by
  intro F H x y t s R R2 u Q le r1 r2 h q
  unfold oIsN at h
  split at h
  · obtain ⟨b, e, rfl⟩ := Option.map_eq_some_iff.mp h
    exact ⟨r2.lf_inv.1, by rw [isNon_ok le r1 e]; exact q _ Emp (.lf rfl fun _ z => z)⟩
  · cases h
theorem v_notN : Op2V K mg (fun x y H Q => y = .non ∧ Q (.bl (!decide (x = .non))) H) oNotN := by
  intro F H x y t s R R2 u Q le r1 r2 h q
  unfold oNotN at h
  split at h
  · obtain ⟨b, e, rfl⟩ := Option.map_eq_some_iff.mp h
    exact ⟨r2.lf_inv.1, by rw [isNon_ok le r1 e]; exact q _ Emp (.lf rfl fun _ z => z)⟩
  · cases h

/-! ### in -/
def keyOf : V → Option Key
  | .int i => some (.inl i)
  | .str x => some (.inr x)
  | _ => none
theorem keyOf_some {v : V} {k : Key} (h : keyOf v = some k) : v = kV k := by
  cases v <;> simp [keyOf] at h <;> subst h <;> rfl
/-- the leaf is flat -/
def flT : T → Bool
  | .lf v => flatV v
  | _ => false
def eqT (x : V) : T → Bool
  | .lf v => eqV v x
  | _ => false
def hasK (ks : List Key) (k : Key) : Bool := ks.any fun a => decide (a = k)
/-- in: a list, a tuple, a dict, one sign in a text -/
def inB : T → T → Option Bool
  | .lf x, .nd _ .lst ys => if flatV x = true ∧ ys.all flT = true then some (ys.any (eqT x)) else none
  | .lf x, .nd _ .tup ys => if flatV x = true ∧ ys.all flT = true then some (ys.any (eqT x)) else none
  | .lf x, .nd _ .rol ys => if flatV x = true ∧ ys.all flT = true then some (ys.any (eqT x)) else none
  | .lf x, .nd _ .rot ys => if flatV x = true ∧ ys.all flT = true then some (ys.any (eqT x)) else none
  | .lf x, .nd _ (.dK ks) _ => (keyOf x).map fun k => hasK ks k
  | .lf (.str x), .lf (.str y) => match x.cps.toList with
    | [c] => some (decide (c ∈ y.cps.toList))
    | _ => none
  | _, _ => none
def oIn : T → T → Option T := fun t s => (inB t s).map fun b => .lf (.bl b)
def oNotIn : T → T → Option T := fun t s => (inB t s).map fun b => .lf (.bl (!b))
def rInA (K : PySem.W.Frag) (neg : Bool) : R2 := fun x y H Q => rIn K neg x y H Q ∨ (∃ a o, y = .ref a ∧ DGet H a x o ∧ Q (.bl (if neg then !o.isSome else o.isSome)) H) ∨
  ∃ (c : Nat) (z : Str), x = .str ⟨#[c]⟩ ∧ y = .str z ∧ Q (.bl (if neg then !decide (c ∈ z.cps.toList) else decide (c ∈ z.cps.toList))) H
theorem op_inA {X : Cx} (hu : X.A.units + 1 < cLine) : OpR X (compareOp .In) (rInA X.K false) := by
  refine OpR.or op_in_seq (OpR.or ?_ op_in_sign)
  intro pins s σ H x y v u Q I rx ry h
  obtain ⟨a, o, rfl, g, q⟩ := h
  cases ry
  exact d_in hu I g rx fun s' I' => ⟨.bl o.isSome, H, I', rfl, q⟩
theorem op_notInA {X : Cx} (hu : X.A.units + 1 < cLine) : OpR X (compareOp .NotIn) (rInA X.K true) := by
  refine OpR.or op_notIn_seq (OpR.or ?_ op_notIn_sign)
  intro pins s σ H x y v u Q I rx ry h
  obtain ⟨a, o, rfl, g, q⟩ := h
  cases ry
  exact d_notIn hu I g rx fun s' I' => ⟨.bl (!o.isSome), H, I', rfl, q⟩
theorem flat_vs : ∀ {vs : List V} {ts : List T} {S : AS} {x : V}, Reps K mg F H vs ts S → ts.all flT = true → vs.all flatV = true ∧ inV x vs = ts.any (eqT x)
  | _, _, _, _, .nil _, _ => ⟨rfl, rfl⟩
  | _, _, _, x, .cons (t := t) r q _ _, h => by
    simp only [List.all_cons, Bool.and_eq_true] at h
    obtain ⟨h1, h2⟩ := flat_vs (x := x) q h.2
    cases t with
    | no => simp [flT] at h
    | nd _ _ _ => simp [flT] at h
    | lf w =>
      obtain ⟨e, _, _⟩ := r.lf_inv
      subst e
      refine ⟨by simp only [List.all_cons, Bool.and_eq_true]; exact ⟨h.1, h1⟩, ?_⟩
      unfold inV at h2 ⊢
      simp only [List.any_cons, h2, eqT]
theorem valV_zip (k : Key) : ∀ (ks : List Key) (vs : List V), ks.length = vs.length → (valV (ks.zip vs) k).isSome = hasK ks k
  | [], [], _ => rfl
  | [], _ :: _, h => by simp at h
  | _ :: _, [], h => by simp at h
  | a :: ks, v :: vs, h => by
    have ih := valV_zip k ks vs (by simpa using h)
    by_cases e : a = k
    · rw [List.zip_cons_cons, valV_pos e]; simp [hasK, e]
    · rw [List.zip_cons_cons, valV_neg e, ih]
      simp [hasK, e]
theorem inB_ok {x y : V} {t s : T} {R R2 : AS} {b neg : Bool} {Q : VK} (le : Le F H) (r1 : Rep K mg F H x t R) (r2 : Rep K mg F H y s R2) (h : inB t s = some b) (q : Q (.bl (if neg then !b else b)) H) : rInA K neg x y H Q := by
  have sq : ∀ {w : V} {o : Bool} {k : Kd} {ys : List T}, isSq k = true → Rep K mg F H y (.nd o k ys) R2 → Rep K mg F H x (.lf w) R → flatV w = true → ys.all flT = true → ys.any (eqT w) = b → rInA K neg x y H Q := by
    intro w o k ys hk r2 r1 f1 f2 e
    obtain ⟨a, vs, S0, rfl, p, _, hr⟩ := r2.nd_inv le
    obtain ⟨e1, _, _⟩ := r1.lf_inv
    subst e1
    obtain ⟨g1, g2⟩ := flat_vs (x := x) p f2
    refine .inl ⟨a, vs, rfl, hr.sq hk, f1, g1, ?_⟩
    rw [g2, e]
    exact q
  unfold inB at h
  split at h
  · split at h
    · rename_i c; exact sq rfl r2 r1 c.1 c.2 (Option.some.inj h)
    · cases h
  · split at h
    · rename_i c; exact sq rfl r2 r1 c.1 c.2 (Option.some.inj h)
    · cases h
  · split at h
    · rename_i c; exact sq rfl r2 r1 c.1 c.2 (Option.some.inj h)
    · cases h
  · split at h
    · rename_i c; exact sq rfl r2 r1 c.1 c.2 (Option.some.inj h)
    · cases h
  · obtain ⟨k, e1, e2⟩ := Option.map_eq_some_iff.mp h
    obtain ⟨a, vs, S0, rfl, p, _, hl, hr⟩ := r2.nd_inv le
    obtain ⟨e0, _, _⟩ := r1.lf_inv
    have ex := keyOf_some e1
    refine .inr (.inl ⟨a, _, rfl, .inl ⟨_, k, .inl hr, e0.trans ex, rfl⟩, ?_⟩)
    rw [valV_zip k _ _ hl, e2]
    exact q
  · split at h
    · rename_i c e
      cases h
      obtain ⟨e1, _, _⟩ := r1.lf_inv
      obtain ⟨e2, _, _⟩ := r2.lf_inv
      refine .inr (.inr ⟨c, _, ?_, e2, q⟩)
      rw [e1]
      congr 1
      exact TL.ext_tl (by show _ = [c]; exact e)
    · cases h
  · cases h
theorem v_in : Op2V K mg (rInA K false) oIn := by
  intro F H x y t s R R2 u Q le r1 r2 h q
  obtain ⟨b, e, rfl⟩ := Option.map_eq_some_iff.mp h
  exact inB_ok le r1 r2 e (q _ Emp (.lf rfl fun _ z => z))
theorem v_notIn : Op2V K mg (rInA K true) oNotIn := by
  intro F H x y t s R R2 u Q le r1 r2 h q
  obtain ⟨b, e, rfl⟩ := Option.map_eq_some_iff.mp h
  exact inB_ok le r1 r2 e (q _ Emp (.lf rfl fun _ z => z))

/-! ### len -/
def oLen : T → Option T
  | .nd _ .lst xs => some (.lf (.int xs.length))
  | .nd _ .tup xs => some (.lf (.int xs.length))
  | .nd _ .rol xs => some (.lf (.int xs.length))
  | .nd _ .rot xs => some (.lf (.int xs.length))
  | .nd _ (.dK ks) _ => some (.lf (.int ks.length))
  | .lf (.str x) => if x.length ≤ sizeLine then some (.lf (.int x.length)) else none
  | _ => none
def rLen (K : PySem.W.Frag) : List V → Hp → VK → Prop := fun xs H Q => (∃ p ys, xs = [.ref p] ∧ (SqL K H p ys ∨ SqT K H p ys) ∧ Q (.int ys.length) H) ∨ (∃ z, xs = [.str z] ∧ z.length ≤ sizeLine ∧ Q (.int z.length) H) ∨
  ∃ a kvs, xs = [.ref a] ∧ H a = some (.dK kvs) ∧ Q (.int kvs.length) H
theorem call_lenA {X : Cx} : CallR X (.builtin "len") (rLen X.K) := by
  refine CallR.or call_len_seq (CallR.or call_len_str ?_)
  intro pins s σ H xs us Q I r h
  obtain ⟨a, kvs, rfl, e, q⟩ := h
  obtain ⟨u, rfl, r1⟩ := vals1 r
  cases (show u = Value.ref a from r1)
  exact d_len I (.inl e) fun t s' I' => ⟨.int kvs.length, H, I', ⟨t, rfl⟩, q⟩
theorem v_len : Op1V K mg (fun x H Q => rLen K [x] H Q) oLen := by
  intro F H x t R u Q le r h q
  have sq : ∀ {o : Bool} {k : Kd} {ys : List T}, isSq k = true → Rep K mg F H x (.nd o k ys) R → u = .lf (.int ys.length) → rLen K [x] H Q := by
    intro o k ys hk r e
    obtain ⟨a, vs, S0, rfl, p, _, hr⟩ := r.nd_inv le
    refine .inl ⟨a, vs, rfl, hr.sq hk, ?_⟩
    rw [p.length (S := Emp)]
    exact q _ Emp (by rw [e]; exact .lf rfl fun _ z => z)
  unfold oLen at h
  split at h
  · exact sq rfl r (Option.some.inj h).symm
  · exact sq rfl r (Option.some.inj h).symm
  · exact sq rfl r (Option.some.inj h).symm
  · exact sq rfl r (Option.some.inj h).symm
  · cases h
    obtain ⟨a, vs, S0, rfl, p, _, hl, hr⟩ := r.nd_inv le
    refine .inr (.inr ⟨a, _, rfl, hr, ?_⟩)
    rw [List.length_zip, hl, Nat.min_self, ← hl]
    exact q _ Emp (.lf rfl fun _ z => z)
  · split at h
    · cases h
      exact .inr (.inl ⟨_, by rw [r.lf_inv.1], by assumption, q _ Emp (.lf rfl fun _ z => z)⟩)
    · cases h
  · cases h

/-! ### subscripts -/
def getK : List Key → List T → Key → Option T
  | a :: ks, x :: xs, k => if a = k then some x else getK ks xs k
  | _, _, _ => none
def oIx : T → T → Option T
  | .nd _ .lst xs, .lf (.int i) => atI xs i
  | .nd _ .tup xs, .lf (.int i) => atI xs i
  | .nd _ .rol xs, .lf (.int i) => atI xs i
  | .nd _ .rot xs, .lf (.int i) => atI xs i
  | .nd _ (.dK ks) xs, .lf x => (keyOf x).bind fun k => getK ks xs k
  | .nd _ (.dL ks) xs, .lf x => (keyOf x).bind fun k => getK ks xs k
  | .lf (.str z), .lf (.int i) => if z.length ≤ sizeLine then (atI z.cps.toList i).map fun c => .lf (.str ⟨#[c]⟩) else none
  | _, _ => none
theorem ix_dict {X : Cx} (hu : X.A.units + 1 < cLine) : IxR X (fun x y H Q => ∃ a v, x = .ref a ∧ DGet H a y (some v) ∧ Q v H) := by
  intro value slice pins s σ H x y v u Q I rx ry h hs
  obtain ⟨a, w, rfl, g, q⟩ := h
  cases (show v = Value.ref a from rx)
  have hT := dict_typeIs I g
  unfold subscriptTail
  refine wpAny_bind ?_
  rw [getitemInPython_of_ne hT.not_modules]
  refine wpAny_bind (wpAny_specialOf hT PySem.F.slot_dict_getitem.lookup ?_)
  have fin : wpAny (model X.prog X.w) X.A (subscripted slice false (.ref a) u) (fun r s₃ => wpAny (model X.prog X.w) X.A (letTemporaryGo value (.ref a) r >>= fun _ => pure r) (EP X pins σ Q) X.xe s₃) X.xe s := by
    rw [hs]
    exact wpAny_operating (d_getItem hu I g ry fun w' s3 I3 rw' => wpAny_bind (wpAny_letTemporaryGo (wpAny_pure ⟨w, H, I3, rw', q⟩)))
  first
    | exact wpAny_pure (wpAny_bind fin)
    | exact wpAny_bind (wpAny_pure (wpAny_bind fin))
    | exact wpAny_bind fin
def rIxA (K : PySem.W.Frag) : R2 := fun x y H Q => rIxL K x y H Q ∨ rIxT K x y H Q ∨ rIxS x y H Q ∨ ∃ a v, x = .ref a ∧ DGet H a y (some v) ∧ Q v H
theorem ix_all {X : Cx} (hu : X.A.units + 1 < cLine) : IxR X (rIxA X.K) := IxR.or ix_list (IxR.or ix_tup (IxR.or ix_str (ix_dict hu)))
theorem Reps.atI {vs : List V} {ts : List T} {S : AS} (r : Reps K mg F H vs ts S) {i : Int} {t : T} (h : atI ts i = some t) : ∃ v R, atI vs i = some v ∧ Rep K mg F H v t R ∧ ∀ x, R x → S x := by
  unfold L2.atI at h ⊢
  rw [r.length (S := Emp)]
  obtain ⟨j, e1, e2⟩ := Option.bind_eq_some_iff.mp h
  obtain ⟨v, R, h1, h2, h3⟩ := r.get e2
  exact ⟨v, R, by rw [e1]; exact h1, h2, h3⟩
theorem getK_ok {k : Key} : ∀ {ks : List Key} {vs : List V} {ts : List T} {S : AS} {t : T}, Reps K mg F H vs ts S → ks.length = vs.length → getK ks ts k = some t → ∃ v R, valV (ks.zip vs) k = some v ∧ Rep K mg F H v t R ∧ ∀ x, R x → S x := by
  intro ks
  induction ks with
  | nil => intro vs ts S t r hl h; simp [getK] at h
  | cons a ks ih =>
    intro vs ts S t r hl h
    cases r with
    | nil _ => simp at hl
    | @cons v t0 vs ts _ S1 S2 r q d hS =>
      unfold getK at h
      by_cases e : a = k
      · rw [if_pos e] at h
        cases h
        exact ⟨v, S1, by rw [List.zip_cons_cons, valV_pos e], r, fun x z => (hS x).mpr (.inl z)⟩
      · rw [if_neg e] at h
        obtain ⟨v', R, h1, h2, h3⟩ := ih q (by simpa using hl) h
        exact ⟨v', R, by rw [List.zip_cons_cons, valV_neg e]; exact h1, h2, fun x z => (hS x).mpr (.inr (h3 x z))⟩
/-- with the custody of the part -/
theorem ixA {x y : V} {t s u : T} {R R2 : AS} {Q : VK} (le : Le F H) (r1 : Rep K mg F H x t R) (r2 : Rep K mg F H y s R2) (h : oIx t s = some u) (q : ∀ v R', Rep K mg F H v u R' → (∀ x, R' x → R x) → Q v H) : rIxA K x y H Q := by
  unfold oIx at h
  split at h
  · obtain ⟨a, vs, S0, rfl, p, hs, hr⟩ := r1.nd_inv le
    obtain ⟨v, R', e1, e2, e3⟩ := p.atI h
    exact .inl ⟨a, vs, _, v, rfl, r2.lf_inv.1, SqL.of hr, e1, q v R' e2 fun x z => hs x (e3 x z)⟩
  · obtain ⟨a, vs, S0, rfl, p, hs, hr⟩ := r1.nd_inv le
    obtain ⟨v, R', e1, e2, e3⟩ := p.atI h
    exact .inr (.inl ⟨a, vs, _, v, rfl, r2.lf_inv.1, SqT.of hr, e1, q v R' e2 fun x z => hs x (e3 x z)⟩)
  · obtain ⟨a, vs, S0, rfl, p, hs, hr⟩ := r1.nd_inv le
    obtain ⟨v, R', e1, e2, e3⟩ := p.atI h
    exact .inl ⟨a, vs, _, v, rfl, r2.lf_inv.1, hr, e1, q v R' e2 fun x z => hs x (e3 x z)⟩
  · obtain ⟨a, vs, S0, rfl, p, hs, hr⟩ := r1.nd_inv le
    obtain ⟨v, R', e1, e2, e3⟩ := p.atI h
    exact .inr (.inl ⟨a, vs, _, v, rfl, r2.lf_inv.1, hr, e1, q v R' e2 fun x z => hs x (e3 x z)⟩)
  · obtain ⟨k, e1, e2⟩ := Option.bind_eq_some_iff.mp h
    obtain ⟨a, vs, S0, rfl, p, hs, hl, hr⟩ := r1.nd_inv le
    obtain ⟨v, R', g1, g2, g3⟩ := getK_ok p hl e2
    exact .inr (.inr (.inr ⟨a, v, rfl, .inl ⟨_, k, .inl hr, (r2.lf_inv.1).trans (keyOf_some e1), g1.symm⟩, q v R' g2 fun x z => hs x (g3 x z)⟩))
  · obtain ⟨k, e1, e2⟩ := Option.bind_eq_some_iff.mp h
    obtain ⟨a, vs, S0, rfl, p, hs, hl, hr⟩ := r1.nd_inv le
    obtain ⟨v, R', g1, g2, g3⟩ := getK_ok p hl e2
    exact .inr (.inr (.inr ⟨a, v, rfl, .inl ⟨_, k, .inr hr, (r2.lf_inv.1).trans (keyOf_some e1), g1.symm⟩, q v R' g2 fun x z => hs x (g3 x z)⟩))
  · split at h
    · obtain ⟨c, e1, rfl⟩ := Option.map_eq_some_iff.mp h
      exact .inr (.inr (.inl ⟨_, _, c, r1.lf_inv.1, r2.lf_inv.1, by assumption, e1, q _ Emp (.lf rfl fun _ z => z) fun _ z => z.elim⟩))
    · cases h
  · cases h
theorem v_ix : Op2V K mg (rIxA K) oIx := fun F H x y t s R R2 u Q le r1 r2 h q => ixA le r1 r2 h fun v R' r _ => q v R' r

/-! ### list(), sorted() -/
def oList : T → Option T
  | .nd _ .lst xs => if clns xs = true then some (.nd true .lst xs) else none
  | .nd _ .rol xs => if clns xs = true then some (.nd true .lst xs) else none
  | .nd _ .tup xs => if clns xs = true then some (.nd true .lst xs) else none
  | .nd _ .rot xs => if clns xs = true then some (.nd true .lst xs) else none
  | _ => none
def rListC (K : PySem.W.Frag) : List V → Hp → VK → Prop := fun xs H Q => ∃ p ys, xs = [.ref p] ∧ (SqL K H p ys ∨ SqT K H p ys) ∧ ∀ l, H l = none → Q (.ref l) (upd H l (.lst ys))
theorem e_list : Op1E K mg (fun x H Q => rListC K [x] H Q) oList := by
  intro F H x t R u Q le r h q
  have sq : ∀ {o : Bool} {k : Kd} {ys : List T}, isSq k = true → Rep K mg F H x (.nd o k ys) R → clns ys = true → u = .nd true .lst ys → rListC K [x] H Q := by
    intro o k ys hk r c e
    obtain ⟨a, vs, S0, rfl, p, _, hr⟩ := r.nd_inv le
    refine ⟨a, vs, rfl, hr.sq hk, fun l hl => ?_⟩
    obtain ⟨g1, g2, g3⟩ := new_one (k := .lst) (o := .lst vs) le hl rfl (p.clean0 c)
    exact q _ _ _ _ g1 g2 (by rw [e]; exact g3)
  unfold oList at h
  split at h
  all_goals first
    | (split at h
       · exact sq rfl r (by assumption) (Option.some.inj h).symm
       · cases h)
    | cases h
/-- the ints of a list of leaves -/
def intsOf : List T → Option (List Int)
  | [] => some []
  | .lf (.int i) :: ts => (intsOf ts).map fun is => i :: is
  | _ => none
def ins (x : Int) : List Int → List Int
  | [] => [x]
  | y :: ys => if x ≤ y then x :: y :: ys else y :: ins x ys
def isort : List Int → List Int
  | [] => []
  | x :: xs => ins x (isort xs)
theorem ins_perm (x : Int) : ∀ ys : List Int, (ins x ys).Perm (x :: ys)
  | [] => .refl _
  | y :: ys => by
    unfold ins
    split
    · exact .refl _
    · exact (List.Perm.cons y (ins_perm x ys)).trans (List.Perm.swap x y ys)
theorem isort_perm : ∀ xs : List Int, (isort xs).Perm xs
  | [] => .refl _
  | x :: xs => (ins_perm x (isort xs)).trans (List.Perm.cons x (isort_perm xs))
theorem ins_sorted (x : Int) : ∀ ys : List Int, ys.Pairwise (· ≤ ·) → (ins x ys).Pairwise (· ≤ ·)
  | [], _ => by simp [ins]
  | y :: ys, h => by
    unfold ins
    split
    · rename_i c
      refine List.pairwise_cons.mpr ⟨fun z hz => ?_, h⟩
      rcases List.mem_cons.mp hz with rfl | hz
      · exact c
      · exact Int.le_trans c ((List.pairwise_cons.mp h).1 z hz)
    · rename_i c
      refine List.pairwise_cons.mpr ⟨fun z hz => ?_, ins_sorted x ys (List.pairwise_cons.mp h).2⟩
      rcases List.mem_cons.mp ((ins_perm x ys).mem_iff.mp hz) with rfl | hz
      · omega
      · exact (List.pairwise_cons.mp h).1 z hz
theorem isort_sorted : ∀ xs : List Int, (isort xs).Pairwise (· ≤ ·)
  | [] => .nil
  | x :: xs => ins_sorted x _ (isort_sorted xs)
theorem sorted_uniq : ∀ {a b : List Int}, a.Perm b → a.Pairwise (· ≤ ·) → b.Pairwise (· ≤ ·) → a = b
  | [], b, p, _, _ => (List.Perm.nil_eq p)
  | x :: xs, [], p, _, _ => by simp at p
  | x :: xs, y :: ys, p, h1, h2 => by
    have e : x = y := by
      have m1 : x ∈ y :: ys := p.mem_iff.mp (List.mem_cons_self ..)
      have m2 : y ∈ x :: xs := p.mem_iff.mpr (List.mem_cons_self ..)
      rcases List.mem_cons.mp m1 with e | m1
      · exact e
      · rcases List.mem_cons.mp m2 with e | m2
        · exact e.symm
        · have a1 := (List.pairwise_cons.mp h2).1 x m1
          have a2 := (List.pairwise_cons.mp h1).1 y m2
          omega
    subst e
    rw [sorted_uniq (List.Perm.cons_inv p) (List.pairwise_cons.mp h1).2 (List.pairwise_cons.mp h2).2]
def lfI (i : Int) : T := .lf (.int i)
theorem intsOf_some : ∀ {ts : List T} {is : List Int}, intsOf ts = some is → ts = is.map lfI
  | [], is, h => by simp [intsOf] at h; subst h; rfl
  | t :: ts, is, h => by
    unfold intsOf at h
    split at h
    · rename_i e; cases e
    · rename_i i ts' e
      obtain ⟨is', e1, rfl⟩ := Option.map_eq_some_iff.mp h
      cases e
      rw [List.map_cons, ← intsOf_some e1]
      rfl
    · cases h
theorem reps_ints : ∀ {is : List Int} {vs : List V} {S : AS}, Reps K mg F H vs (is.map lfI) S → vs = is.map V.int
  | [], _, _, r => by cases r with | nil _ => rfl
  | i :: is, _, _, r => by
    cases r with
    | cons r q _ _ => rw [reps_ints q, List.map_cons, (r.lf_inv).1]
theorem ints_reps : ∀ (is : List Int), Reps K mg F H (is.map V.int) (is.map lfI) Emp
  | [] => .nil fun _ z => z
  | i :: is => .cons (S1 := Emp) (S2 := Emp) (.lf rfl fun _ z => z) (ints_reps is) dj_emp fun x => ⟨fun z => z.elim, fun z => z.elim id id⟩
theorem clns_ints : ∀ is : List Int, clns (is.map lfI) = true
  | [] => rfl
  | i :: is => by rw [List.map_cons, clns, clns_ints is]; rfl
/-- sorted of a list of ints; of a dict with int keys, its keys -/
def oSorted : T → Option T
  | .nd _ .lst xs => (intsOf xs).map fun is => .nd true .lst ((isort is).map lfI)
  | .nd _ .rol xs => (intsOf xs).map fun is => .nd true .lst ((isort is).map lfI)
  | .nd _ (.dK ks) _ => (intsOf (ks.map fun k => .lf (kV k))).bind fun is => if is.length < 64 then some (.nd true .lst ((isort is).map lfI)) else none
  | _ => none
def rSortA (K : PySem.W.Frag) : List V → Hp → VK → Prop := fun xs H Q => rSortedI K xs H Q ∨ ∃ (a : Addr) (kvs : List (Key × V)) (ks : List Int), xs = [.ref a] ∧ Rd H a (.dK kvs) ∧ kvs.map (·.1) = ks.map Sum.inl ∧ ks.length < 64 ∧ ∀ (ys : List Int) (p : Addr), ys.Perm ks → ys.Pairwise (· ≤ ·) → H p = none → Q (.ref p) (upd H p (.lst (ys.map V.int)))
theorem call_sortA {X : Cx} (hc : X.calm = true) : CallR X (.builtin "sorted") (rSortA X.K) := CallR.or cr_sortedI (call_sortedDI hc)
theorem fin_sort {is ys : List Int} {p : Addr} {u : T} {Q : VK} (le : Le F H) (hp : H p = none) (h1 : ys.Perm is) (h2 : ys.Pairwise (· ≤ ·)) (e : u = .nd true .lst ((isort is).map lfI))
    (q : ∀ v F' H' R', Stp F H Emp F' H' R' → Le F' H' → Rep K mg F' H' v u R' → Q v H') : Q (.ref p) (upd H p (.lst (ys.map V.int))) := by
  have e2 : ys = isort is := sorted_uniq (h1.trans (isort_perm is).symm) h2 (isort_sorted is)
  subst e2
  obtain ⟨g1, g2, g3⟩ := new_one (K := K) (mg := mg) (k := .lst) (o := .lst ((isort is).map V.int)) le hp rfl (ints_reps (isort is))
  exact q _ _ _ _ g1 g2 (by rw [e]; exact g3)
theorem keys_ints : ∀ {ks : List Key} {is : List Int}, intsOf (ks.map fun k => .lf (kV k)) = some is → ks = is.map Sum.inl
  | [], is, h => by simp [intsOf] at h; subst h; rfl
  | .inl i :: ks, is, h => by
    simp only [List.map_cons, kV, intsOf, Option.map_eq_some_iff] at h
    obtain ⟨is', e1, rfl⟩ := h
    rw [List.map_cons, ← keys_ints e1]
  | .inr x :: ks, is, h => by simp [kV, intsOf] at h
theorem e_sorted : Op1E K mg (fun x H Q => rSortA K [x] H Q) oSorted := by
  intro F H x t R u Q le r h q
  have sq : ∀ {o : Bool} {k : Kd} {ys : List T} {is : List Int}, (∀ {a : Addr} {vs : List V}, Here K mg H a k vs → SqL K H a vs) → Rep K mg F H x (.nd o k ys) R → intsOf ys = some is → u = .nd true .lst ((isort is).map lfI) → rSortA K [x] H Q := by
    intro o k ys is hk r c e
    obtain ⟨a, vs, S0, rfl, p, _, hr⟩ := r.nd_inv le
    have e1 := intsOf_some c
    subst e1
    have e2 := reps_ints p
    subst e2
    exact .inl ⟨a, is, rfl, hk hr, fun ys p h1 h2 hp => fin_sort le hp h1 h2 e q⟩
  unfold oSorted at h
  split at h
  · obtain ⟨is, e1, e2⟩ := Option.map_eq_some_iff.mp h
    exact sq (k := .lst) (fun z => SqL.of z) r e1 e2.symm
  · obtain ⟨is, e1, e2⟩ := Option.map_eq_some_iff.mp h
    exact sq (k := .rol) (fun z => z) r e1 e2.symm
  · obtain ⟨is, e1, e2⟩ := Option.bind_eq_some_iff.mp h
    split at e2
    · rename_i c
      obtain ⟨a, vs, S0, rfl, p, _, hl, hr⟩ := r.nd_inv le
      refine .inr ⟨a, _, is, rfl, .inl hr, ?_, c, fun ys p h1 h2 hp => fin_sort le hp h1 h2 (Option.some.inj e2).symm q⟩
      rw [List.map_fst_zip (by omega)]
      exact keys_ints e1
    · cases e2
  · cases h

/-! ### isinstance of built-in types -/
def tyN : T → Option String
  | .lf .non => some "NoneType"
  | .lf (.bl _) => some "bool"
  | .lf (.int _) => some "int"
  | .lf (.str _) => some "str"
  | .nd _ .lst _ => some "list"
  | .nd _ .tup _ => some "tuple"
  | .nd _ (.dK _) _ => some "dict"
  | _ => none
def isiB (a b : String) : Bool := a == b || (a == "bool" && b == "int")
def isiOk (a b : String) : Bool := (["NoneType", "bool", "int", "str", "list", "tuple", "dict"].contains a) && (["bool", "int", "str", "list", "tuple", "dict"].contains b)
def oIsi (b : String) : T → Option T := fun t => (tyN t).map fun a => .lf (.bl (isiB a b))
theorem kit_all : ∀ a ∈ ["NoneType", "bool", "int", "str", "list", "tuple", "dict"], ∀ b ∈ ["bool", "int", "str", "list", "tuple", "dict"], kitB a b = some (isiB a b) := by decide +kernel
theorem tyN_ok {x : V} {t : T} {R : AS} {a : String} (le : Le F H) (r : Rep K mg F H x t R) (h : tyN t = some a) : TyX K H x (.type a) ∧ a ∈ ["NoneType", "bool", "int", "str", "list", "tuple", "dict"] := by
  unfold tyN at h
  split at h
  · cases h; rw [r.lf_inv.1]; exact ⟨.base .non, by decide⟩
  · cases h; rw [r.lf_inv.1]; exact ⟨.base (.bl _), by decide⟩
  · cases h; rw [r.lf_inv.1]; exact ⟨.base (.int _), by decide⟩
  · cases h; rw [r.lf_inv.1]; exact ⟨.base (.str _), by decide⟩
  · cases h; obtain ⟨a, vs, S0, rfl, p, _, hr⟩ := r.nd_inv le; exact ⟨.base (.lst hr), by decide⟩
  · cases h; obtain ⟨a, vs, S0, rfl, p, _, hr⟩ := r.nd_inv le; exact ⟨.base (.tup hr), by decide⟩
  · cases h; obtain ⟨a, vs, S0, rfl, p, _, hl, hr⟩ := r.nd_inv le; exact ⟨.base (.dK hr), by decide⟩
  · cases h
theorem v_isi {b : String} (hb : b ∈ ["bool", "int", "str", "list", "tuple", "dict"]) : Op1V K mg (fun x H Q => rIsi K [x, .ty b] H Q) (oIsi b) := by
  intro F H x t R u Q le r h q
  obtain ⟨a, e1, rfl⟩ := Option.map_eq_some_iff.mp h
  obtain ⟨ty, ha⟩ := tyN_ok le r e1
  exact ⟨x, _, _, _, _, rfl, .ty b, ty, kit_ty (kit_all a ha b hb), q _ Emp (.lf rfl fun _ z => z)⟩
end
end Tr


set_option Elab.async false
set_option linter.all false
set_option maxRecDepth 100000
set_option maxHeartbeats 4000000
/-! D5: expressions put together; arguments, calls. -/
namespace Tr
open PySem PySem.Spec PyProof.Rows L2

section
variable {X : Cx} {op : Operator} {co : CmpOp} {a b : Expr} {pos : Pos} {r : R2} {o : T → T → Option T} {va vb : DV} {da db : DE}
/-! ### two operands -/
theorem sv_bin (ho : OpR X (binaryOp op) r) (hv : Op2V X.K X.mg r o) (ha : SV X a va) (hb : SV X b vb) : SV X (.BinOp a op b pos) (o2V o va vb) := pew (pe_op ho ha hb) fun _ _ _ => i2V hv
theorem sr_binv (ho : OpR X (binaryOp op) r) (hv : Op2V X.K X.mg r o) (ha : SR X a da) (hb : SV X b vb) : SR X (.BinOp a op b pos) (o2v o da vb) := pew (pe_op ho ha hb) fun _ _ _ => i2v hv
theorem sr_binc (ho : OpR X (binaryOp op) r) (hv : Op2V X.K X.mg r o) (ha : SR X a da) (hb : SR X b db) : SR X (.BinOp a op b pos) (o2c o da db) := pew (pe_op ho ha hb) fun _ _ _ => i2c hv
theorem sr_bino (ho : OpR X (binaryOp op) r) (hv : Op2V X.K X.mg r o) (ha : SE X a da) (hb : SR X b db) : SR X (.BinOp a op b pos) (o2o o da db) := pew (pe_op ho ha hb) fun _ _ _ => i2o hv
theorem se_binv (ho : OpR X (binaryOp op) r) (hv : Op2E X.K X.mg r o) (ha : SR X a da) (hb : SV X b vb) : SE X (.BinOp a op b pos) (o2v o da vb) := pew (pe_op ho ha hb) fun _ _ _ => i2vE hv
theorem se_binc (ho : OpR X (binaryOp op) r) (hv : Op2E X.K X.mg r o) (ha : SR X a da) (hb : SR X b db) : SE X (.BinOp a op b pos) (o2c o da db) := pew (pe_op ho ha hb) fun _ _ _ => i2cE hv
theorem se_bino (ho : OpR X (binaryOp op) r) (hv : Op2E X.K X.mg r o) (ha : SE X a da) (hb : SR X b db) : SE X (.BinOp a op b pos) (o2o o da db) := pew (pe_op ho ha hb) fun _ _ _ => i2oE hv
theorem sv_cmp (ho : OpR X (compareOp co) r) (hv : Op2V X.K X.mg r o) (hm : behindInMarks co b = false) (ha : SV X a va) (hb : SV X b vb) : SV X (.Compare a [co] [b] pos) (o2V o va vb) := pew (pe_cmpR ho ha hb hm) fun _ _ _ => i2V hv
theorem sr_cmpv (ho : OpR X (compareOp co) r) (hv : Op2V X.K X.mg r o) (hm : behindInMarks co b = false) (ha : SR X a da) (hb : SV X b vb) : SR X (.Compare a [co] [b] pos) (o2v o da vb) := pew (pe_cmpR ho ha hb hm) fun _ _ _ => i2v hv
theorem sr_cmpc (ho : OpR X (compareOp co) r) (hv : Op2V X.K X.mg r o) (hm : behindInMarks co b = false) (ha : SR X a da) (hb : SR X b db) : SR X (.Compare a [co] [b] pos) (o2c o da db) := pew (pe_cmpR ho ha hb hm) fun _ _ _ => i2c hv
theorem sr_cmpo (ho : OpR X (compareOp co) r) (hv : Op2V X.K X.mg r o) (hm : behindInMarks co b = false) (ha : SE X a da) (hb : SR X b db) : SR X (.Compare a [co] [b] pos) (o2o o da db) := pew (pe_cmpR ho ha hb hm) fun _ _ _ => i2o hv
theorem st_cmp (ho : OpR X (compareOp co) r) (hv : Op2V X.K X.mg r o) (hm : behindInMarks co b = false) (ha : SV X a va) (hb : SV X b vb) : ST X (.Compare a [co] [b] pos) (vr (o2V o va vb)) := ptw (pt_cmpR ho ha hb hm) fun _ _ _ h => i2V hv (vr_imp h)
theorem st_cmpv (ho : OpR X (compareOp co) r) (hv : Op2V X.K X.mg r o) (hm : behindInMarks co b = false) (ha : SR X a da) (hb : SV X b vb) : ST X (.Compare a [co] [b] pos) (o2v o da vb) := ptw (pt_cmpR ho ha hb hm) fun _ _ _ h => i2v hv h
theorem st_cmpc (ho : OpR X (compareOp co) r) (hv : Op2V X.K X.mg r o) (hm : behindInMarks co b = false) (ha : SR X a da) (hb : SR X b db) : ST X (.Compare a [co] [b] pos) (o2c o da db) := ptw (pt_cmpR ho ha hb hm) fun _ _ _ h => i2c hv h
theorem st_cmpo (ho : OpR X (compareOp co) r) (hv : Op2V X.K X.mg r o) (hm : behindInMarks co b = false) (ha : SE X a da) (hb : SR X b db) : ST X (.Compare a [co] [b] pos) (o2o o da db) := ptw (pt_cmpR ho ha hb hm) fun _ _ _ h => i2o hv h
/-! ### subscripts -/
theorem sv_ix (hu : X.A.units + 1 < cLine) (ha : SV X a va) (hb : SV X b vb) (hs : PlainIx b := by exact fun _ _ => rfl) : SV X (.Subscript a b pos) (o2V oIx va vb) := pew (pe_ix (ix_all hu) ha hb hs) fun _ _ _ => i2V v_ix
theorem sr_ixv (hu : X.A.units + 1 < cLine) (ha : SR X a da) (hb : SV X b vb) (hs : PlainIx b := by exact fun _ _ => rfl) : SR X (.Subscript a b pos) (o2v oIx da vb) := pew (pe_ix (ix_all hu) ha hb hs) fun _ _ _ => i2v v_ix
theorem sr_ixc (hu : X.A.units + 1 < cLine) (ha : SR X a da) (hb : SR X b db) (hs : PlainIx b := by exact fun _ _ => rfl) : SR X (.Subscript a b pos) (o2c oIx da db) := pew (pe_ix (ix_all hu) ha hb hs) fun _ _ _ => i2c v_ix
/-- a part of a thing of one's own, the rest let go -/
theorem se_ix (hu : X.A.units + 1 < cLine) (ha : SE X a da) (hb : SV X b vb) (hs : PlainIx b := by exact fun _ _ => rfl) : SE X (.Subscript a b pos) (o2v oIx da vb) := pew (pe_ix (ix_all hu) ha hb hs) fun σ H Q q => by
  obtain ⟨F, env, S, t, env', ok, hd, q⟩ := q
  obtain ⟨x, y, h1, h3, h4⟩ := o2v_some hd
  refine ⟨F, env, S, x, _, ok, h1, fun v F1 H1 S1 R st ok1 r dj => ⟨F1, env', S1, y, ok1, h3, fun w R' r' => ?_⟩⟩
  exact ixA ok1.le r r' h4 fun v' R'' r'' hs => q v' F1 H1 S1 R'' (st.weak fun z hz => hz.elim .inl fun z => .inr (hs _ z)) ok1 r'' fun z a b => dj z a (hs z b)
/-! ### one operand -/
theorem sv_neg (ha : SV X a va) : SV X (.UnaryOp .USub a pos) (o1V oNeg va) := pew (pe_un un_neg ha) fun _ _ _ => i1V v_neg
theorem sr_neg (ha : SR X a da) : SR X (.UnaryOp .USub a pos) (o1 oNeg da) := pew (pe_un un_neg ha) fun _ _ _ => i1R v_neg
end
def oNot : T → Option T
  | .lf (.bl b) => some (.lf (.bl (!b)))
  | _ => none
theorem v_not {K : PySem.W.Frag} {mg : Mg} : Op1V K mg (fun x H Q => ∃ c, x = .bl c ∧ Q (.bl (!c)) H) oNot := by
  intro F H x t R u Q le r h q
  unfold oNot at h
  split at h
  · cases h; exact ⟨_, r.lf_inv.1, q _ Emp (.lf rfl fun _ z => z)⟩
  · cases h
theorem tR_mono {K : PySem.W.Frag} {mg : Mg} {d : DE} {σ : L2.St} {H : Hp} {Q Q' : VK} (h : tR K mg d σ H Q) (m : ∀ v H, Q v H → Q' v H) : tR K mg d σ H Q' := by
  obtain ⟨F, env, S, t, env', ok, hd, q⟩ := h
  exact ⟨F, env, S, t, env', ok, hd, fun v F' H' S' R a b c => m _ _ (q v F' H' S' R a b c)⟩
def dAnd (da db : DE) : DE := fun env => match da env with
  | some (.lf (.bl true), e) => db e
  | some (.lf (.bl false), e) => some (.lf (.bl false), e)
  | _ => none
def dOr (da db : DE) : DE := fun env => match da env with
  | some (.lf (.bl true), e) => some (.lf (.bl true), e)
  | some (.lf (.bl false), e) => db e
  | _ => none
section
variable {X : Cx} {a b : Expr} {rest : List Expr} {pos : Pos} {da db : DE} {K : PySem.W.Frag} {mg : Mg} {σ : L2.St} {H : Hp} {Q : VK}
theorem sr_not (ha : SR X a da) : SR X (.UnaryOp .Not a pos) (o1 oNot da) := pew (pe_not ha) fun _ _ _ h => i1R v_not h
theorem st_not (ha : ST X a da) : ST X (.UnaryOp .Not a pos) (o1 oNot da) := ptw (pt_not ha) fun σ H Q h => by
  have h2 := i1R v_not h
  refine tR_mono h2 fun v H ⟨c, e, k, e2, q⟩ => ?_
  cases e2
  exact ⟨c, e, q⟩
theorem and_imp (h : tR K mg (dAnd da db) σ H Q) : tR K mg da σ H fun x H1 => ∃ c, x = .bl c ∧ if c = true then tR K mg db σ H1 Q else Q (.bl false) H1 := by
  obtain ⟨F, env, S, t, env', ok, hd, q⟩ := h
  unfold dAnd at hd
  split at hd
  · rename_i e e1
    exact ⟨F, env, S, _, e, ok, e1, fun v F' H' S' R st ok' r => ⟨true, r.lf_inv.1, by
      rw [if_pos rfl]
      exact ⟨F', e, S', t, env', ok', hd, fun v2 F2 H2 S2 R2 st2 ok2 r2 => q v2 F2 H2 S2 R2 (st.trans st2) ok2 r2⟩⟩⟩
  · rename_i e e1
    cases hd
    exact ⟨F, env, S, _, _, ok, e1, fun v F' H' S' R st ok' r => ⟨false, r.lf_inv.1, by
      rw [if_neg Bool.false_ne_true]
      exact q _ F' H' S' Emp st ok' (.lf rfl fun _ z => z)⟩⟩
  · cases hd
theorem or_imp (h : tR K mg (dOr da db) σ H Q) : tR K mg da σ H fun x H1 => ∃ c, x = .bl c ∧ if c = true then Q (.bl true) H1 else tR K mg db σ H1 Q := by
  obtain ⟨F, env, S, t, env', ok, hd, q⟩ := h
  unfold dOr at hd
  split at hd
  · rename_i e e1
    cases hd
    exact ⟨F, env, S, _, _, ok, e1, fun v F' H' S' R st ok' r => ⟨true, r.lf_inv.1, by
      rw [if_pos rfl]
      exact q _ F' H' S' Emp st ok' (.lf rfl fun _ z => z)⟩⟩
  · rename_i e e1
    exact ⟨F, env, S, _, e, ok, e1, fun v F' H' S' R st ok' r => ⟨false, r.lf_inv.1, by
      rw [if_neg Bool.false_ne_true]
      exact ⟨F', e, S', t, env', ok', hd, fun v2 F2 H2 S2 R2 st2 ok2 r2 => q v2 F2 H2 S2 R2 (st.trans st2) ok2 r2⟩⟩⟩
  · cases hd
theorem sr_and1 {op} (ha : SR X a da) : SR X (.BoolOp op [a] pos) da := pe_one ha
theorem sr_and (ha : SR X a da) (hb : SR X (.BoolOp .And (b :: rest) pos) db) : SR X (.BoolOp .And (a :: b :: rest) pos) (dAnd da db) := pew (pe_and ha hb) fun _ _ _ => and_imp
theorem sr_or (ha : SR X a da) (hb : SR X (.BoolOp .Or (b :: rest) pos) db) : SR X (.BoolOp .Or (a :: b :: rest) pos) (dOr da db) := pew (pe_or ha hb) fun _ _ _ => or_imp
/-- and, or as tests -/
def SW (X : Cx) (e : Expr) (d : DE) : Prop := PW X e (tTest (tR X.K X.mg d))
theorem SW.t {e : Expr} (h : SW X e da) : ST X e da := PW.pt h
theorem sw_and1 (ha : ST X a da) : SW X (.BoolOp .And [a] pos) da := pw_and1 ha
theorem sw_or1 (ha : ST X a da) : SW X (.BoolOp .Or [a] pos) da := pw_or1 ha
theorem pww {e : Expr} {t t' : TT} (h : PW X e t) (i : ∀ σ H Q, t' σ H Q → t σ H Q) : PW X e t' := ⟨fun wh pins s σ H Q I q => h.run wh pins s σ H Q I (i σ H Q q)⟩
theorem sw_and (ha : ST X a da) (hb : SW X (.BoolOp .And (b :: rest) pos) db) : SW X (.BoolOp .And (a :: b :: rest) pos) (dAnd da db) := pww (pw_and ha hb) fun σ H Q h => by
  refine tR_mono (and_imp h) fun v H1 ⟨c, e, q⟩ => ⟨c, e, ?_⟩
  cases c with
  | true => rw [if_pos rfl] at q ⊢; exact q
  | false =>
    rw [if_neg Bool.false_ne_true] at q ⊢
    obtain ⟨k, e, q⟩ := q
    cases e
    exact q
theorem sw_or (ha : ST X a da) (hb : SW X (.BoolOp .Or (b :: rest) pos) db) : SW X (.BoolOp .Or (a :: b :: rest) pos) (dOr da db) := pww (pw_or ha hb) fun σ H Q h => by
  refine tR_mono (or_imp h) fun v H1 ⟨c, e, q⟩ => ⟨c, e, ?_⟩
  cases c with
  | false => rw [if_neg Bool.false_ne_true] at q ⊢; exact q
  | true =>
    rw [if_pos rfl] at q ⊢
    obtain ⟨k, e, q⟩ := q
    cases e
    exact q
end

/-! ### arguments -/
abbrev DA := List T → Option (List T × List T)
/-- the arguments that are lent, by their slots -/
def Bor (σ : L2.St) (bs : List (Option Nat)) (vs : List V) : Prop := ∀ (j i : Nat), bs[j]? = some (some i) → ∃ v, vs[j]? = some v ∧ σ[i]? = some (some v)
def tA (K : PySem.W.Frag) (mg : Mg) (bs : List (Option Nat)) (d : DA) : TA := fun σ H Q => ∃ F env S ts env', Ok K mg F H σ env S ∧ d env = some (ts, env') ∧
  ∀ vs F' H' S' R, Stp F H S F' H' (Cup S' R) → Ok K mg F' H' σ env' S' → Reps K mg F' H' vs ts R → Dj S' R → Bor σ bs vs → Q vs H'
def SA (X : Cx) (es : List Expr) (bs : List (Option Nat)) (d : DA) : Prop := PA X es (tA X.K X.mg bs d)
theorem paw {X : Cx} {es : List Expr} {t t' : TA} (h : PA X es t) (i : ∀ σ H Q, t' σ H Q → t σ H Q) : PA X es t' := ⟨fun pos pins s σ H Q I q => h.run pos pins s σ H Q I (i σ H Q q)⟩
def aNil : DA := fun env => some ([], env)
def aCons (da : DE) (dr : DA) : DA := fun env => (da env).bind fun p => (dr p.2).map fun q => (p.1 :: q.1, q.2)
section
variable {X : Cx} {e : Expr} {es : List Expr} {d : DE} {dr : DA} {bs : List (Option Nat)} {K : PySem.W.Frag} {mg : Mg} {σ : L2.St} {H : Hp}
theorem aCons_some {env : List T} {ts e2 : List T} (h : aCons d dr env = some (ts, e2)) : ∃ t e1 ts', d env = some (t, e1) ∧ dr e1 = some (ts', e2) ∧ ts = t :: ts' := by
  obtain ⟨⟨t, e1⟩, h1, h2⟩ := Option.bind_eq_some_iff.mp h
  obtain ⟨⟨ts', e2'⟩, h3, h4⟩ := Option.map_eq_some_iff.mp h2
  cases h4
  exact ⟨t, e1, ts', h1, h3, rfl⟩
theorem sa_nil : SA X [] [] aNil := paw pa_nil fun σ H Q ⟨F, env, S, ts, e, ok, h, q⟩ => by
  cases h
  exact q [] F H S Emp (Stp.refl.weak fun _ z => z.elim id fun z => z.elim) ok (.nil fun _ z => z) dj_emp fun j i h => by simp at h
/-- two custodies behind one another -/
theorem join_step {F F1 F2 H H1 H2 : Hp} {S S1 S2 R1 R2 : AS} (a : Stp F H S F1 H1 (Cup S1 R1)) (hR : ∀ x, R1 x → ∃ o, H1 x = some o) (dj : Dj S1 R1) (b : Stp F1 H1 S1 F2 H2 (Cup S2 R2)) :
    Stp F H S F2 H2 (Cup S2 (Cup R1 R2)) ∧ Dj R1 R2 ∧ Dj S2 R1 := by
  have d := b.dj hR dj
  refine ⟨(a.trans (b.frame R1)).weak fun x z => ?_, fun x z y => d x (.inr y) z, fun x z y => d x (.inl z) y⟩
  rcases z with z | z | z
  · exact .inl (.inl z)
  · exact .inr z
  · exact .inl (.inr z)
theorem cons_imp {Q : List V → Hp → Prop} (ta : TE) (hta : ∀ σ H Q, tE K mg d σ H Q → ta σ H Q) (h : tA K mg (none :: bs) (aCons d dr) σ H Q) : tCons ta (tA K mg bs dr) σ H Q := by
  obtain ⟨F, env, S, ts, e2, ok, hd, q⟩ := h
  obtain ⟨t, e1, ts', h1, h2, rfl⟩ := aCons_some hd
  refine hta _ _ _ ⟨F, env, S, t, e1, ok, h1, fun v F1 H1 S1 R1 st ok1 r dj => ⟨F1, e1, S1, ts', e2, ok1, h2, fun vs F2 H2 S2 R2 st2 ok2 r2 dj2 bo => ?_⟩⟩
  obtain ⟨g1, g2, g3⟩ := join_step st (fun x z => (r.dom x z).1) dj st2
  refine q (v :: vs) F2 H2 S2 (Cup R1 R2) g1 ok2 (.cons (r.keep st2 dj) r2 g2 fun _ => Iff.rfl) (fun x a b => b.elim (g3 x a) (dj2 x a)) fun j i hj => ?_
  cases j with
  | zero => simp at hj
  | succ j => exact bo j i (by simpa using hj)
theorem sa_cons (ha : SE X e d) (hr : SA X es bs dr) (hs : starEach (e :: es) X.env = (false, eval e X.env) :: starEach es X.env := by rfl) : SA X (e :: es) (none :: bs) (aCons d dr) :=
  paw (pa_cons ha hr hs) fun _ _ _ h => cons_imp _ (fun _ _ _ z => z) h
/-- a name that is lent -/
theorem sa_lend {i : Nat} {x : Str} {pos : Pos} (hr : SA X es bs dr) (hN : X.N[i]? = some x := by rfl) (hv : Vis X.env.scope x := by first | exact Or.inl rfl | exact Or.inr (Or.inl rfl) | exact Or.inr (Or.inr rfl)) (hd : (x == ("__debug__" : Str)) = false := by decide)
    (hcd : (x == ("__classdict__" : Str)) = false := by decide) (hs : starEach (.Name x pos :: es) X.env = (false, eval (.Name x pos) X.env) :: starEach es X.env := by rfl) : SA X (.Name x pos :: es) (some i :: bs) (aCons (gM i) dr) :=
  paw (pa_cons (pe_var hN hv hd hcd) hr hs) fun σ H Q h => by
    obtain ⟨F, env, S, ts, e2, ok, hd, q⟩ := h
    obtain ⟨t, e1, ts', h1, h2, rfl⟩ := aCons_some hd
    unfold gM at h1
    cases e0 : gV i env with
    | none => rw [e0] at h1; cases h1
    | some t' =>
      rw [e0] at h1; cases h1
      obtain ⟨g1, g2⟩ := gV_some e0
      obtain ⟨v, A, B, ev, r, d, hS, rest⟩ := ok.st.slot g1 g2
      have ok1 : Ok X.K X.mg F H σ (env.set i .no) (Cup Emp B) := ⟨ok.le, by
        have := rest F H (some v) .no Emp (Le.refl _) (fun y z => ⟨rfl, (ok.st.dom y ((hS y).mpr (.inr z))).2⟩) (.no fun _ z => z) emp_dj
        rwa [set_self' ev] at this⟩
      have st1 : Stp F H S F H (Cup (Cup Emp B) A) := ⟨Le.refl _, fun _ _ z _ => z, fun _ _ z => .inl z, fun y z => .inl ((hS y).mpr (z.elim (fun z => .inr (z.elim (fun z => z.elim) id)) .inl))⟩
      have dj1 : Dj (Cup Emp B) A := fun y z a => z.elim (fun z => z.elim) fun z => d y a z
      refine ⟨v, ev, F, _, _, ts', e2, ok1, h2, fun vs F2 H2 S2 R2 st2 ok2 r2 dj2 bo => ?_⟩
      obtain ⟨k1, k2, k3⟩ := join_step st1 (fun x z => (r.dom x z).1) dj1 st2
      refine q (v :: vs) F2 H2 S2 (Cup A R2) k1 ok2 (.cons (r.keep st2 dj1) r2 k2 fun _ => Iff.rfl) (fun x a b => b.elim (k3 x a) (dj2 x a)) fun j k hj => ?_
      cases j with
      | zero => simp at hj; subst hj; exact ⟨v, rfl, ev⟩
      | succ j => exact bo j k (by simpa using hj)
end

/-! ### what a def promises -/
abbrev FT := List T → Option (T × List T)
def spD (K : PySem.W.Frag) (mg : Mg) (n : Nat) (f : FT) : Sp := fun vs H Q _ => vs.length = n ∧ ∃ F S ts r ts', Le F H ∧ Reps K mg F H vs ts S ∧ f ts = some (r, ts') ∧
  ∀ v F' H' R S', Stp F H S F' H' (Cup R S') → Le F' H' → Rep K mg F' H' v r R → Reps K mg F' H' vs ts' S' → Dj R S' → Q v H'
/-- what was lent is put back -/
def wb : List (Option Nat) → List T → List T → Option (List T)
  | some i :: bs, t :: ts, env => match env[i]? with
    | some .no => wb bs ts (env.set i t)
    | _ => none
  | none :: bs, _ :: ts, env => wb bs ts env
  | [], _, env => some env
  | _, _, _ => none
def dCall (f : FT) (bs : List (Option Nat)) (dv : List V) (da : DA) : DE := fun env => (da env).bind fun p => (f (p.1 ++ dv.map .lf)).bind fun r => (wb bs r.2 p.2).map fun e => (r.1, e)
section
variable {K : PySem.W.Frag} {mg : Mg} {F H : Hp} {σ : L2.St}
theorem wb_ok : ∀ {bs : List (Option Nat)} {ts env env' : List T} {vs : List V} {S S' : AS}, wb bs ts env = some env' → Ok K mg F H σ env S → Reps K mg F H vs ts S' → Dj S S' → Bor σ bs vs → ∃ S2, Ok K mg F H σ env' S2 ∧ ∀ x, S2 x → S x ∨ S' x := by
  intro bs
  induction bs with
  | nil => intro ts env env' vs S S' h ok r dj bo; simp [wb] at h; subst h; exact ⟨S, ok, fun _ z => .inl z⟩
  | cons b bs ih =>
    intro ts env env' vs S S' h ok r dj bo
    cases ts with
    | nil => cases b <;> simp [wb] at h
    | cons t ts =>
      cases r with
      | @cons v _ vs _ _ S1 S2 r q d hS =>
        have bo' : Bor σ bs vs := fun j i e => by
          obtain ⟨w, e1, e2⟩ := bo (j + 1) i (by simpa using e)
          exact ⟨w, by simpa using e1, e2⟩
        cases b with
        | none =>
          rw [wb] at h
          obtain ⟨S3, g1, g2⟩ := ih h ok q (fun x a b => dj x a ((hS x).mpr (.inr b))) bo'
          exact ⟨S3, g1, fun x z => (g2 x z).elim .inl fun z => .inr ((hS x).mpr (.inr z))⟩
        | some i =>
          rw [wb] at h
          split at h
          · rename_i e0
            obtain ⟨s, A, B, e1, e2, e3, e4, rest⟩ := ok.st.split e0
            obtain ⟨w, ew, es⟩ := bo 0 i rfl
            simp at ew
            subst ew
            rw [e1] at es
            have es' : s = some v := by simpa using es
            subst es'
            have B_S : ∀ x, B x → S x := fun x z => (e4 x).mpr (.inr z)
            have hn := rest F H (some v) t S1 (Le.refl _) (fun y z => ⟨rfl, (ok.st.dom y (B_S y z)).2⟩) r fun x a b => dj x (B_S x b) ((hS x).mpr (.inl a))
            rw [set_self' e1] at hn
            obtain ⟨S3, g1, g2⟩ := ih h ⟨ok.le, hn⟩ q (fun x a b => a.elim (fun a => d x a b) fun a => dj x (B_S x a) ((hS x).mpr (.inr b))) bo'
            exact ⟨S3, g1, fun x z => (g2 x z).elim (fun z => z.elim (fun z => .inr ((hS x).mpr (.inl z))) fun z => .inl (B_S x z)) fun z => .inr ((hS x).mpr (.inr z))⟩
          · cases h
theorem dvs_reps : ∀ {dv : List V}, dv.all sc = true → Reps K mg F H dv (dv.map .lf) Emp
  | [], _ => .nil fun _ z => z
  | v :: dv, h => by
    simp only [List.all_cons, Bool.and_eq_true] at h
    exact .cons (S1 := Emp) (S2 := Emp) (.lf h.1 fun _ z => z) (dvs_reps h.2) dj_emp fun x => ⟨fun z => z.elim, fun z => z.elim id id⟩
theorem Bor.app {bs : List (Option Nat)} {vs ws : List V} (h : Bor σ bs vs) : Bor σ bs (vs ++ ws) := fun j i e => by
  obtain ⟨v, e1, e2⟩ := h j i e
  exact ⟨v, by rw [List.getElem?_append_left (List.getElem?_eq_some_iff.mp e1).1]; exact e1, e2⟩
theorem dCall_some {f : FT} {bs : List (Option Nat)} {dv : List V} {da : DA} {env : List T} {t : T} {e : List T} (h : dCall f bs dv da env = some (t, e)) :
    ∃ ts e1 ts', da env = some (ts, e1) ∧ f (ts ++ dv.map .lf) = some (t, ts') ∧ wb bs ts' e1 = some e := by
  obtain ⟨⟨ts, e1⟩, h1, h2⟩ := Option.bind_eq_some_iff.mp h
  obtain ⟨⟨r, ts'⟩, h3, h4⟩ := Option.bind_eq_some_iff.mp h2
  obtain ⟨e', h5, h6⟩ := Option.map_eq_some_iff.mp h4
  cases h6
  exact ⟨ts, e1, ts', h1, h3, h5⟩
/-- the callee's end -/
theorem call_end {F0 H0 F1 H1 : Hp} {S S1 R : AS} {e1 e : List T} {f : FT} {bs : List (Option Nat)} {vs : List V} {ts ts' : List T} {t : T} {n : Nat} {Q : VK} {E : XK}
    (st : Stp F0 H0 S F1 H1 (Cup S1 R)) (ok1 : Ok K mg F1 H1 σ e1 S1) (r : Reps K mg F1 H1 vs ts R) (dj : Dj S1 R) (bo : Bor σ bs vs) (hf : f ts = some (t, ts')) (hw : wb bs ts' e1 = some e) (hn : vs.length = n)
    (q : ∀ v F' H' S' R', Stp F0 H0 S F' H' (Cup S' R') → Ok K mg F' H' σ e S' → Rep K mg F' H' v t R' → Dj S' R' → Q v H') : spD K mg n f vs H1 Q E := by
  refine ⟨hn, F1, R, ts, t, ts', ok1.le, r, hf, fun v F' H' R' S' st2 le2 r2 rs dj2 => ?_⟩
  have ok2 := ok1.keep st2 dj.symm le2
  have dj3 : Dj S1 (Cup R' S') := fun x a b => (st2.dj (fun y z => (ok1.st.dom y z).1) dj.symm) x b a
  obtain ⟨S2, g1, g2⟩ := wb_ok hw ok2 rs (fun x a b => dj3 x a (.inr b)) bo
  refine q v F' H' S2 R' ((st.trans (st2.frameL S1)).weak fun x z => ?_) g1 r2 fun x a b => ?_
  · exact z.elim (fun z => (g2 x z).elim .inl fun z => .inr (.inr z)) fun z => .inr (.inl z)
  · exact (g2 x a).elim (fun z => dj3 x z (.inl b)) fun z => dj2 x b z
/-- a def's mirror takes that many arguments -/
def FLen (f : FT) (n : Nat) : Prop := ∀ ts r, f ts = some r → ts.length = n
theorem call_imp {f : FT} {bs : List (Option Nat)} {dv : List V} {da : DA} {n : Nat} {Q : VK} {E : XK} (hdv : dv.all sc = true) (hn : FLen f n) (h : tE K mg (dCall f bs dv da) σ H Q) : tCall (spD K mg n f) dv E (tA K mg bs da) σ H Q := by
  obtain ⟨F, env, S, t, e, ok, hd, q⟩ := h
  obtain ⟨ts, e1, ts', h1, h2, h3⟩ := dCall_some hd
  refine ⟨F, env, S, ts, e1, ok, h1, fun vs F1 H1 S1 R st ok1 r dj bo => ?_⟩
  have rr := (Reps.append (dvs_reps hdv) r dj_emp).iff (S' := R) fun x => ⟨.inl, fun z => z.elim id fun z => z.elim⟩
  exact call_end (Q := Q) (E := E) st ok1 rr dj bo.app h2 h3 ((rr.length (S := Emp)).trans (hn _ _ h2)) q
end
end Tr


set_option Elab.async false
set_option linter.all false
set_option maxRecDepth 100000
set_option maxHeartbeats 4000000
/-! D6: calls of defs, methods, constructors; displays, attributes, built-ins. -/
namespace Tr
open PySem PySem.Spec PyProof.Rows L2

section
variable {X : Cx} {f : Addr} {fd : FuncData} {ps : List Str} {k n : Nat} {g : FT} {x : Str} {p pos apos : Pos} {e o : Expr} {es : List Expr} {bs : List (Option Nat)} {da : DA} {dv : List V} {ds : List Value}
theorem se_call (F : FnOk X.prog X.w X.K X.mg X.base CX0 k f fd ps (spD X.K X.mg n g)) (hn : FLen g n) (hr : Room k X.A) (hg : Gl X x) (hm : X.mg x = some (.ref f)) (hk : PySem.W.keepIn X.K (.ref f) = true) (hb : Binds X.K fd ps ds) (hd : Vals dv ds) (ha : SA X (e :: es) bs da)
    (hs : dv.all sc = true := by rfl) (hdb : (x == ("__debug__" : Str)) = false := by decide) (he : starEach (e :: es) X.env = (false, eval e X.env) :: starEach es X.env := by rfl) (hpl : (backTo pos (starEach es X.env)).any (·.1) = false := by rfl) :
    SE X (.Call (.Name x p) (e :: es) [] pos) (dCall g bs dv da) := pew (pe_call F hr hg hm hk hb hd pass0 ha hdb he hpl) fun _ _ _ h => call_imp hs hn h
theorem nil_imp {K : PySem.W.Frag} {mg : Mg} {σ : L2.St} {H : Hp} {Q : List V → Hp → Prop} (h : tA K mg [] aNil σ H Q) : tNil σ H Q := by
  obtain ⟨F, env, S, ts, e, ok, h, q⟩ := h
  cases h
  exact q [] F H S Emp (Stp.refl.weak fun _ z => z.elim id fun z => z.elim) ok (.nil fun _ z => z) dj_emp fun j i h => by simp at h
theorem se_call0 (F : FnOk X.prog X.w X.K X.mg X.base CX0 k f fd ps (spD X.K X.mg n g)) (hn : FLen g n) (hr : Room k X.A) (hg : Gl X x) (hm : X.mg x = some (.ref f)) (hk : PySem.W.keepIn X.K (.ref f) = true) (hb : Binds X.K fd ps ds) (hd : Vals dv ds)
    (hs : dv.all sc = true := by rfl) (hdb : (x == ("__debug__" : Str)) = false := by decide) :
    SE X (.Call (.Name x p) [] [] pos) (dCall g [] dv aNil) := pew (pe_call0 F hr hg hm hk hb hd pass0 hdb) fun _ _ _ h => nil_imp (call_imp hs hn h)
end

/-! ### methods: the receiver's class is looked at -/
/-- an instance of the class c without an attribute m -/
def isIns (c m : Str) : T → Bool
  | .nd _ (.ins c' ns) _ => decide (c' = c) && ns.all fun a => decide (¬ a = m)
  | _ => false
def dMeth (c m : Str) (f : FT) (b0 : Option Nat) (bs : List (Option Nat)) (dv : List V) (d0 : DE) (da : DA) : DE := fun env => (d0 env).bind fun p => if isIns c m p.1 = true then dCall f (b0 :: bs) dv (fun _ => (da p.2).map fun q => (p.1 :: q.1, q.2)) env else none
section
variable {K : PySem.W.Frag} {mg : Mg} {F H : Hp} {σ : L2.St}
theorem lookup_zip_none {m : Str} : ∀ {ns : List Str} {vs : List V}, (ns.all fun a => decide (¬ a = m)) = true → (ns.zip vs).lookup m = none
  | [], _, _ => rfl
  | _ :: _, [], _ => rfl
  | a :: ns, v :: vs, h => by
    simp only [List.all_cons, Bool.and_eq_true, decide_eq_true_eq] at h
    have ih := lookup_zip_none (vs := vs) h.2
    have e : (m == a) = false := beq_eq_false_iff_ne.mpr fun z => h.1 z.symm
    rw [List.zip_cons_cons, List.lookup_cons, e]
    exact ih
theorem isIns_ok {c m : Str} {C : Addr} {v : V} {t : T} {R : AS} (le : Le F H) (hc : mg c = some (.ref C)) (r : Rep K mg F H v t R) (h : isIns c m t = true) : ∃ a dx fs, v = .ref a ∧ H a = some (.ins C dx fs) ∧ fs.lookup m = none := by
  unfold isIns at h
  split at h
  · rename_i o c' ns xs
    simp only [Bool.and_eq_true, decide_eq_true_eq] at h
    obtain ⟨h1, h2⟩ := h
    subst h1
    obtain ⟨a, vs, S0, rfl, q, _, hl, C', dx, hr, hm⟩ := r.nd_inv le
    rw [hc] at hm
    cases hm
    exact ⟨a, dx, _, rfl, hr, lookup_zip_none (by simpa using h2)⟩
  · cases h
theorem dMeth_some {c m : Str} {f : FT} {b0 : Option Nat} {bs : List (Option Nat)} {dv : List V} {d0 : DE} {da : DA} {env : List T} {t : T} {e : List T} (h : dMeth c m f b0 bs dv d0 da env = some (t, e)) :
    ∃ t0 e0 ts e1 ts', d0 env = some (t0, e0) ∧ isIns c m t0 = true ∧ da e0 = some (ts, e1) ∧ f (t0 :: (ts ++ dv.map .lf)) = some (t, ts') ∧ wb (b0 :: bs) ts' e1 = some e := by
  obtain ⟨⟨t0, e0⟩, h1, h2⟩ := Option.bind_eq_some_iff.mp h
  split at h2
  · rename_i hi
    obtain ⟨ts, e1, ts', h3, h4, h5⟩ := dCall_some h2
    obtain ⟨⟨us, e2⟩, h6, h7⟩ := Option.map_eq_some_iff.mp h3
    cases h7
    exact ⟨t0, e0, us, _, ts', h1, hi, h6, h4, h5⟩
  · cases h2
/-- the receiver is one's own value -/
theorem meth_imp {c m : Str} {C : Addr} {f : FT} {bs : List (Option Nat)} {dv : List V} {d0 : DE} {da : DA} {n : Nat} {Q : VK} {E : XK} (hc : mg c = some (.ref C)) (hdv : dv.all sc = true) (hn : FLen f n) (h : tE K mg (dMeth c m f none bs dv d0 da) σ H Q) :
    tMeth C m (spD K mg n f) dv E (tE K mg d0) (tA K mg bs da) σ H Q := by
  obtain ⟨F, env, S, t, e, ok, hd, q⟩ := h
  obtain ⟨t0, e0, ts, e1, ts', h1, hi, h2, h3, h4⟩ := dMeth_some hd
  refine ⟨F, env, S, t0, e0, ok, h1, fun v F1 H1 S1 R1 st ok1 r dj => ?_⟩
  obtain ⟨a, dx, fs, ev, g1, g2⟩ := isIns_ok ok1.le hc r hi
  refine ⟨a, dx, fs, ev, g1, g2, F1, e0, S1, ts, e1, ok1, h2, fun vs F2 H2 S2 R2 st2 ok2 r2 dj2 bo => ?_⟩
  obtain ⟨k1, k2, k3⟩ := join_step st (fun x z => (r.dom x z).1) dj st2
  have rr := (Reps.append (dvs_reps hdv) r2 dj_emp).iff (S' := R2) fun x => ⟨.inl, fun z => z.elim id fun z => z.elim⟩
  have rc : Reps K mg F2 H2 (v :: (vs ++ dv)) (t0 :: (ts ++ dv.map .lf)) (Cup R1 R2) := .cons (r.keep st2 dj) rr k2 fun _ => Iff.rfl
  refine call_end (bs := none :: bs) k1 ok2 rc (fun x a b => b.elim (k3 x a) (dj2 x a)) (fun j i hj => ?_) h3 h4 ((rc.length (S := Emp)).trans (hn _ _ h3)) q
  cases j with
  | zero => simp at hj
  | succ j => exact bo.app j i (by simpa using hj)
/-- the receiver is a name that is lent -/
theorem methL_imp {c m : Str} {C : Addr} {f : FT} {i : Nat} {bs : List (Option Nat)} {dv : List V} {da : DA} {n : Nat} {Q : VK} {E : XK} (hc : mg c = some (.ref C)) (hdv : dv.all sc = true) (hn : FLen f n) (h : tE K mg (dMeth c m f (some i) bs dv (gM i) da) σ H Q) :
    tMeth C m (spD K mg n f) dv E (tVar i) (tA K mg bs da) σ H Q := by
  obtain ⟨F, env, S, t, e, ok, hd, q⟩ := h
  obtain ⟨t0, e0, ts, e1, ts', h1, hi, h2, h3, h4⟩ := dMeth_some hd
  unfold gM at h1
  cases eq0 : gV i env with
  | none => rw [eq0] at h1; cases h1
  | some t' =>
    rw [eq0] at h1; cases h1
    obtain ⟨g1, g2⟩ := gV_some eq0
    obtain ⟨v, A, B, ev, r, d, hS, rest⟩ := ok.st.slot g1 g2
    have ok1 : Ok K mg F H σ (env.set i .no) (Cup Emp B) := ⟨ok.le, by
      have := rest F H (some v) .no Emp (Le.refl _) (fun y z => ⟨rfl, (ok.st.dom y ((hS y).mpr (.inr z))).2⟩) (.no fun _ z => z) emp_dj
      rwa [set_self' ev] at this⟩
    have st1 : Stp F H S F H (Cup (Cup Emp B) A) := ⟨Le.refl _, fun _ _ z _ => z, fun _ _ z => .inl z, fun y z => .inl ((hS y).mpr (z.elim (fun z => .inr (z.elim (fun z => z.elim) id)) .inl))⟩
    have dj1 : Dj (Cup Emp B) A := fun y z a => z.elim (fun z => z.elim) fun z => d y a z
    obtain ⟨a, dx, fs, ev', k1, k2⟩ := isIns_ok ok.le hc r hi
    refine ⟨v, ev, a, dx, fs, ev', k1, k2, F, _, _, ts, e1, ok1, h2, fun vs F2 H2 S2 R2 st2 ok2 r2 dj2 bo => ?_⟩
    obtain ⟨k1, k2, k3⟩ := join_step st1 (fun x z => (r.dom x z).1) dj1 st2
    have rr := (Reps.append (dvs_reps hdv) r2 dj_emp).iff (S' := R2) fun x => ⟨.inl, fun z => z.elim id fun z => z.elim⟩
    have rc : Reps K mg F2 H2 (v :: (vs ++ dv)) (t0 :: (ts ++ dv.map .lf)) (Cup A R2) := .cons (r.keep st2 dj1) rr k2 fun _ => Iff.rfl
    refine call_end (bs := some i :: bs) k1 ok2 rc (fun x a b => b.elim (k3 x a) (dj2 x a)) (fun j k hj => ?_) h3 h4 ((rc.length (S := Emp)).trans (hn _ _ h3)) q
    cases j with
    | zero => simp at hj; subst hj; exact ⟨v, rfl, ev⟩
    | succ j => exact bo.app j k (by simpa using hj)
end
section
variable {X : Cx} {C f : Addr} {fd : FuncData} {ps : List Str} {k n : Nat} {g : FT} {c m x : Str} {p pos apos : Pos} {e o : Expr} {es : List Expr} {bs : List (Option Nat)} {d0 : DE} {da : DA} {dv : List V} {ds : List Value}
theorem se_meth {pl : Sem Bool} (hc : X.mg c = some (.ref C)) (cl : Cls X.K C) (hm : Meth X.K C m f) (F : FnOk X.prog X.w X.K X.mg X.base CX0 k f fd ps (spD X.K X.mg n g)) (hn : FLen g n) (hr : Room k X.A) (hb : Binds X.K fd ps ds) (hd : Vals dv ds) (ho : SE X o d0) (ha : SA X (e :: es) bs da)
    (hs : dv.all sc = true := by rfl) (hst : starEach (e :: es) X.env = (false, eval e X.env) :: starEach es X.env := by rfl) (hpl : (backTo pos (starEach es X.env)).any (·.1) = false := by rfl)
    (ht : eval (.Call (.Attribute o m apos) (e :: es) [] pos) X.env = (do
      let ov ← eval o X.env
      standAt apos.atName
      let (f, first) ← holding [ov] (getMethod ov m pl)
      callWith pos f first (backTo pos (starEach (e :: es) X.env)) (backToKw pos (keywordEach [] X.env))) := by rfl) :
    SE X (.Call (.Attribute o m apos) (e :: es) [] pos) (dMeth c m g none bs dv d0 da) := pew (pe_meth (pl := pl) ho cl hm F hr hb hd pass0 ha hst hpl ht) fun _ _ _ h => meth_imp hc hs hn h
theorem se_meth0 {pl : Sem Bool} (hc : X.mg c = some (.ref C)) (cl : Cls X.K C) (hm : Meth X.K C m f) (F : FnOk X.prog X.w X.K X.mg X.base CX0 k f fd ps (spD X.K X.mg n g)) (hn : FLen g n) (hr : Room k X.A) (hb : Binds X.K fd ps ds) (hd : Vals dv ds) (ho : SE X o d0)
    (hs : dv.all sc = true := by rfl)
    (ht : eval (.Call (.Attribute o m apos) [] [] pos) X.env = (do
      let ov ← eval o X.env
      standAt apos.atName
      let (f, first) ← holding [ov] (getMethod ov m pl)
      callWith pos f first (backTo pos (starEach [] X.env)) (backToKw pos (keywordEach [] X.env))) := by rfl) :
    SE X (.Call (.Attribute o m apos) [] [] pos) (dMeth c m g none [] dv d0 aNil) := pew (pe_meth0 (pl := pl) ho cl hm F hr hb hd pass0 ht) fun _ _ _ h => by
      have h2 := meth_imp (E := E0) hc hs hn h
      obtain ⟨F, env, S, t, e, ok, hd, q⟩ := h2
      exact ⟨F, env, S, t, e, ok, hd, fun v F' H' S' R a b c d => by
        obtain ⟨a, dx, fs, e1, e2, e3, e4⟩ := q v F' H' S' R a b c d
        exact ⟨a, dx, fs, e1, e2, e3, nil_imp e4⟩⟩
theorem se_methL {pl : Sem Bool} {i : Nat} {px : Pos} (hc : X.mg c = some (.ref C)) (cl : Cls X.K C) (hm : Meth X.K C m f) (F : FnOk X.prog X.w X.K X.mg X.base CX0 k f fd ps (spD X.K X.mg n g)) (hn : FLen g n) (hr : Room k X.A) (hb : Binds X.K fd ps ds) (hd : Vals dv ds) (ha : SA X (e :: es) bs da)
    (hN : X.N[i]? = some x := by rfl) (hv : Vis X.env.scope x := by first | exact Or.inl rfl | exact Or.inr (Or.inl rfl) | exact Or.inr (Or.inr rfl)) (hdd : (x == ("__debug__" : Str)) = false := by decide) (hcd : (x == ("__classdict__" : Str)) = false := by decide)
    (hs : dv.all sc = true := by rfl) (hst : starEach (e :: es) X.env = (false, eval e X.env) :: starEach es X.env := by rfl) (hpl : (backTo pos (starEach es X.env)).any (·.1) = false := by rfl)
    (ht : eval (.Call (.Attribute (.Name x px) m apos) (e :: es) [] pos) X.env = (do
      let ov ← eval (.Name x px) X.env
      standAt apos.atName
      let (f, first) ← holding [ov] (getMethod ov m pl)
      callWith pos f first (backTo pos (starEach (e :: es) X.env)) (backToKw pos (keywordEach [] X.env))) := by rfl) :
    SE X (.Call (.Attribute (.Name x px) m apos) (e :: es) [] pos) (dMeth c m g (some i) bs dv (gM i) da) := pew (pe_meth (pl := pl) (pe_var hN hv hdd hcd) cl hm F hr hb hd pass0 ha hst hpl ht) fun _ _ _ h => methL_imp hc hs hn h
theorem se_methL0 {pl : Sem Bool} {i : Nat} {px : Pos} (hc : X.mg c = some (.ref C)) (cl : Cls X.K C) (hm : Meth X.K C m f) (F : FnOk X.prog X.w X.K X.mg X.base CX0 k f fd ps (spD X.K X.mg n g)) (hn : FLen g n) (hr : Room k X.A) (hb : Binds X.K fd ps ds) (hd : Vals dv ds)
    (hN : X.N[i]? = some x := by rfl) (hv : Vis X.env.scope x := by first | exact Or.inl rfl | exact Or.inr (Or.inl rfl) | exact Or.inr (Or.inr rfl)) (hdd : (x == ("__debug__" : Str)) = false := by decide) (hcd : (x == ("__classdict__" : Str)) = false := by decide)
    (hs : dv.all sc = true := by rfl)
    (ht : eval (.Call (.Attribute (.Name x px) m apos) [] [] pos) X.env = (do
      let ov ← eval (.Name x px) X.env
      standAt apos.atName
      let (f, first) ← holding [ov] (getMethod ov m pl)
      callWith pos f first (backTo pos (starEach [] X.env)) (backToKw pos (keywordEach [] X.env))) := by rfl) :
    SE X (.Call (.Attribute (.Name x px) m apos) [] [] pos) (dMeth c m g (some i) [] dv (gM i) aNil) := pew (pe_meth0 (pl := pl) (pe_var hN hv hdd hcd) cl hm F hr hb hd pass0 ht) fun _ _ _ h => by
      obtain ⟨v, ev, a, dx, fs, e1, e2, e3, e4⟩ := methL_imp (E := E0) hc hs hn h
      exact ⟨v, ev, a, dx, fs, e1, e2, e3, nil_imp e4⟩
end

/-! ### making an instance -/
def dMake (c : Str) (f : FT) (bs : List (Option Nat)) (dv : List V) (da : DA) : DE := fun env => (da env).bind fun p => match f (.nd true (.ins c []) [] :: (p.1 ++ dv.map .lf)) with
  | some (.lf .non, t :: ts') => (wb bs ts' p.2).map fun e => (t, e)
  | _ => none
section
variable {K : PySem.W.Frag} {mg : Mg} {σ : L2.St} {H : Hp}
theorem make_imp {c : Str} {C : Addr} {f : FT} {bs : List (Option Nat)} {dv : List V} {da : DA} {n : Nat} {Q : VK} {E : XK} (hc : mg c = some (.ref C)) (hdv : dv.all sc = true) (hn : FLen f n) (h : tE K mg (dMake c f bs dv da) σ H Q) : tMake C (spD K mg n f) dv E (tA K mg bs da) σ H Q := by
  obtain ⟨F, env, S, t, e, ok, hd, q⟩ := h
  obtain ⟨⟨ts, e1⟩, h1, h2⟩ := Option.bind_eq_some_iff.mp hd
  split at h2
  · rename_i t0 ts' h3
    obtain ⟨e', h4, h5⟩ := Option.map_eq_some_iff.mp h2
    cases h5
    refine ⟨F, env, S, ts, e1, ok, h1, fun vs F1 H1 S1 R st ok1 r dj bo => fun x dx hx hdx ne => ?_⟩
    have hxR : ¬ R x := fun z => by obtain ⟨⟨o, e⟩, _⟩ := r.dom x z; rw [hx] at e; cases e
    have hxS : ¬ S1 x := fun z => by obtain ⟨⟨o, e⟩, _⟩ := ok1.st.dom x z; rw [hx] at e; cases e
    -- the heap with the new instance
    have st2 : Stp F1 H1 Emp F1 (upd (upd H1 dx (.own x)) x (.ins C dx [])) (fun y => y = x) := by
      refine ⟨Le.refl _, fun a o e _ => ?_, fun _ _ e => .inl e, fun a e => .inr (by rw [e]; exact hx)⟩
      rw [upd_ne (ne_of_none e hx), upd_ne (ne_of_none e hdx)]
      exact e
    have le2 : Le F1 (upd (upd H1 dx (.own x)) x (.ins C dx [])) := fun a o e => st2.kp a o (ok1.le a o e) fun z => z
    obtain ⟨a1, a2, a3⟩ := fin_new (σ := σ) (st.weak fun _ z => .inl z) ok1 st2 le2
    have rv := r.keep st2 emp_dj
    have rr := (Reps.append (dvs_reps hdv) rv dj_emp).iff (S' := R) fun x => ⟨.inl, fun z => z.elim id fun z => z.elim⟩
    have rx : Rep K mg F1 (upd (upd H1 dx (.own x)) x (.ins C dx [])) (.ref x) (.nd true (.ins c []) []) (fun y => y = x) :=
      .own (o := .ins C dx []) (vs := []) (S0 := Emp) upd_same (ok1.le.nn hx) ⟨rfl, C, dx, rfl, hc⟩ (.nil fun _ z => z) (fun z => z) fun y => ⟨.inl, fun z => z.elim id fun z => z.elim⟩
    have rc : Reps K mg F1 (upd (upd H1 dx (.own x)) x (.ins C dx [])) (.ref x :: (vs ++ dv)) (.nd true (.ins c []) [] :: (ts ++ dv.map .lf)) (Cup (fun y => y = x) R) := .cons rx rr (fun y a b => hxR (a ▸ b)) fun _ => Iff.rfl
    refine ⟨(rc.length (S := Emp)).trans (hn _ _ h3), F1, _, _, _, _, le2, rc, h3, fun v F' H' R' S' st3 le3 r3 rs dj3 => ⟨(r3.lf_inv).1, ?_⟩⟩
    cases rs with
    | @cons _ _ _ _ _ T1 T2 q1 q2 d hT =>
      have stA : Stp F H S F' H' (Cup S1 (Cup R' S')) := by
        have b1 : Stp F1 H1 (Cup S1 R) F1 (upd (upd H1 dx (.own x)) x (.ins C dx [])) (Cup S1 (Cup (fun y => y = x) R)) := by
          have := st2.frame (Cup S1 R)
          exact (this.big fun y z => z.elim (fun z => z.elim) id).weak fun y z => z.elim (fun z => .inr (.inl z)) fun z => z.elim (fun z => .inl z) fun z => .inr (.inr z)
        exact (st.trans b1).trans (st3.frameL S1)
      have djS : Dj (Cup (fun y => y = x) R) S1 := fun y a b => a.elim (fun a => hxS (a ▸ b)) fun a => dj y b a
      have ok3 := a2.keep st3 djS le3
      have dj4 : Dj S1 (Cup R' S') := fun y a b => (st3.dj (fun y z => (a2.st.dom y z).1) djS) y b a
      obtain ⟨S2, g1, g2⟩ := wb_ok (bs := bs) h4 ok3 q2 (fun y a b => dj4 y a (.inr ((hT y).mpr (.inr b)))) (fun j i e => by
        obtain ⟨w, e1, e2⟩ := bo j i e
        exact ⟨w, by rw [List.getElem?_append_left (List.getElem?_eq_some_iff.mp e1).1]; exact e1, e2⟩)
      refine q (.ref x) F' H' S2 T1 (stA.weak fun y z => ?_) g1 q1 fun y a b => ?_
      · exact z.elim (fun z => (g2 y z).elim .inl fun z => .inr (.inr ((hT y).mpr (.inr z)))) fun z => .inr (.inr ((hT y).mpr (.inl z)))
      · exact (g2 y a).elim (fun z => dj4 y z (.inr ((hT y).mpr (.inl b)))) fun z => d y b z
  · cases h2
end
section
variable {X : Cx} {C f : Addr} {fd : FuncData} {ps : List Str} {k n : Nat} {g : FT} {x : Str} {p pos apos : Pos} {e o : Expr} {es : List Expr} {bs : List (Option Nat)} {da : DA} {dv : List V} {ds : List Value}
theorem se_make (M : Mk X.K C f) (F : FnOk X.prog X.w X.K X.mg X.base CX0 k f fd ps (spD X.K X.mg n g)) (hn : FLen g n) (hr : Room (k + 1) X.A) (hg : Gl X x) (hm : X.mg x = some (.ref C)) (hb : Binds X.K fd ps ds) (hd : Vals dv ds) (ha : SA X (e :: es) bs da)
    (hs : dv.all sc = true := by rfl) (hdb : (x == ("__debug__" : Str)) = false := by decide) (he : starEach (e :: es) X.env = (false, eval e X.env) :: starEach es X.env := by rfl) (hpl : (backTo pos (starEach es X.env)).any (·.1) = false := by rfl) :
    SE X (.Call (.Name x p) (e :: es) [] pos) (dMake x g bs dv da) := pew (pe_make M F hr hg hm hb hd pass0 ha hdb he hpl) fun _ _ _ h => make_imp hm hs hn h
end

/-! ### displays -/
def dLst (da : DA) : DE := fun env => (da env).bind fun p => if p.1.length ≤ sizeLine then some (.nd true .lst p.1, p.2) else none
def dTup (da : DA) : DE := fun env => (da env).bind fun p => if p.1.length ≤ sizeLine then some (.nd false .tup p.1, p.2) else none
def dDic : DE := fun env => some (.nd true (.dK []) [], env)
section
variable {X : Cx} {pos : Pos} {es : List Expr} {da : DA} {bs : List (Option Nat)}
theorem se_lst (ha : SA X es bs da) : SE X (.List es pos) (dLst da) := pew (pe_lst ha) fun σ H Q h => by
  obtain ⟨F, env, S, t, e, ok, hd, q⟩ := h
  obtain ⟨⟨ts, e1⟩, h1, h2⟩ := Option.bind_eq_some_iff.mp hd
  split at h2
  · rename_i hl
    cases h2
    refine ⟨F, env, S, ts, _, ok, h1, fun vs F1 H1 S1 R st ok1 r dj bo => ⟨by rw [r.length (S := Emp)]; exact hl, fun p hp => ?_⟩⟩
    have fp : F1 p = none := ok1.le.nn hp
    have hpS : ∀ y, S1 y → y ≠ p := fun y z e => by obtain ⟨⟨o, e'⟩, _⟩ := ok1.st.dom y z; rw [e, hp] at e'; cases e'
    have hpR : ∀ y, R y → y ≠ p := fun y z e => by obtain ⟨⟨o, e'⟩, _⟩ := r.dom y z; rw [e, hp] at e'; cases e'
    have st2 : Stp F1 H1 Emp F1 (upd H1 p (.lst vs)) (fun y => y = p) := ⟨Le.refl _, fun a o e _ => by rw [upd_ne (ne_of_none e hp)]; exact e, fun _ _ e => .inl e, fun a e => .inr (by rw [e]; exact hp)⟩
    have le2 : Le F1 (upd H1 p (.lst vs)) := fun a o e => st2.kp a o (ok1.le a o e) fun z => z
    refine q (.ref p) F1 (upd H1 p (.lst vs)) S1 (Cup (fun y => y = p) R) ?_ (ok1.keep st2 emp_dj le2) (.own upd_same fp rfl (r.keep st2 emp_dj) (fun z => hpR p z rfl) fun _ => Iff.rfl) fun y a b => b.elim (hpS y a) (dj y a)
    have b1 := (st2.frame (Cup S1 R)).big (R := Cup S1 R) fun y z => z.elim (fun z => z.elim) id
    exact (st.trans b1).weak fun y z => z.elim (fun z => .inr (.inl z)) fun z => z.elim .inl fun z => .inr (.inr z)
  · cases h2
theorem se_tup {k : Nat} (ha : SA X es bs da) : SE X (.Tuple es k pos) (dTup da) := pew (pe_tup ha) fun σ H Q h => by
  obtain ⟨F, env, S, t, e, ok, hd, q⟩ := h
  obtain ⟨⟨ts, e1⟩, h1, h2⟩ := Option.bind_eq_some_iff.mp hd
  split at h2
  · rename_i hl
    cases h2
    refine ⟨F, env, S, ts, _, ok, h1, fun vs F1 H1 S1 R st ok1 r dj bo => ⟨by rw [r.length (S := Emp)]; exact hl, fun p hp => ?_⟩⟩
    have fp : F1 p = none := ok1.le.nn hp
    have ff : Le F1 (upd F1 p (.tup vs)) := fun a o e => by rw [upd_ne (ne_of_none e fp)]; exact e
    have st2 : Stp F1 H1 Emp (upd F1 p (.tup vs)) (upd H1 p (.tup vs)) Emp := ⟨ff, fun a o e _ => by rw [upd_ne (ne_of_none e hp)]; exact e, fun a o e => by
      by_cases h : a = p
      · exact .inr (.inr (by rw [h]; exact hp))
      · rw [upd_ne h] at e; exact .inl e, fun a z => z.elim⟩
    have le2 : Le (upd F1 p (.tup vs)) (upd H1 p (.tup vs)) := fun a o e => by
      by_cases h : a = p
      · subst h; rw [upd_same] at e ⊢; exact e
      · rw [upd_ne h] at e ⊢; exact ok1.le a o e
    refine q (.ref p) _ (upd H1 p (.tup vs)) S1 R ?_ (ok1.keep st2 emp_dj le2) (.frz upd_same rfl (r.keep st2 emp_dj)) dj
    have b1 := (st2.frame (Cup S1 R)).big (R := Cup S1 R) fun y z => z.elim (fun z => z.elim) id
    exact (st.trans b1).weak fun y z => .inr z
  · cases h2
theorem se_dic : SE X (.Dict [] [] pos) dDic := pew pe_dnewK fun σ H Q h p hp => by
  obtain ⟨F, env, S, t, e, ok, hd, q⟩ := h
  cases hd
  obtain ⟨g1, g2, g3⟩ := new_one (K := X.K) (mg := X.mg) (k := .dK []) (o := .dK []) (vs := []) (xs := []) ok.le hp ⟨rfl, rfl⟩ (.nil fun _ z => z)
  obtain ⟨a, b, c⟩ := fin_new Stp.refl ok g1 g2
  exact q _ _ _ _ _ a b g3 c
end

/-! ### attributes -/
def getF : List Str → List T → Str → Option T
  | n :: ns, x :: xs, f => if n = f then some x else getF ns xs f
  | _, _, _ => none
/-- o.f of an instance of the class c -/
def oFld (c f : Str) : T → Option T
  | .nd _ (.ins c' ns) xs => if c' = c then getF ns xs f else none
  | _ => none
section
variable {K : PySem.W.Frag} {mg : Mg} {F H : Hp}
theorem getF_ok {f : Str} : ∀ {ns : List Str} {vs : List V} {ts : List T} {S : AS} {t : T}, Reps K mg F H vs ts S → ns.length = vs.length → getF ns ts f = some t → ∃ v R, (ns.zip vs).lookup f = some v ∧ Rep K mg F H v t R ∧ ∀ x, R x → S x := by
  intro ns
  induction ns with
  | nil => intro vs ts S t r hl h; simp [getF] at h
  | cons a ns ih =>
    intro vs ts S t r hl h
    cases r with
    | nil _ => simp at hl
    | @cons v t0 vs ts _ S1 S2 r q d hS =>
      unfold getF at h
      by_cases e : a = f
      · rw [if_pos e] at h
        cases h
        subst e
        exact ⟨v, S1, by rw [List.zip_cons_cons, List.lookup_cons, beq_self_eq_true], r, fun x z => (hS x).mpr (.inl z)⟩
      · rw [if_neg e] at h
        obtain ⟨v', R, h1, h2, h3⟩ := ih q (by simpa using hl) h
        have e' : (f == a) = false := beq_eq_false_iff_ne.mpr fun z => e z.symm
        exact ⟨v', R, by rw [List.zip_cons_cons, List.lookup_cons, e']; exact h1, h2, fun x z => (hS x).mpr (.inr (h3 x z))⟩
def rFld (K : PySem.W.Frag) (f : Str) : V → Hp → VK → Prop := fun x H Q => ∃ a C dx fs v, x = .ref a ∧ H a = some (.ins C dx fs) ∧ Cls K C ∧ NoAttr K C f ∧ fs.lookup f = some v ∧ Q v H
theorem fldA {c f : Str} {C : Addr} {x : V} {t u : T} {R : AS} {Q : VK} (hc : mg c = some (.ref C)) (cl : Cls K C) (na : NoAttr K C f) (le : Le F H) (r : Rep K mg F H x t R) (h : oFld c f t = some u) (q : ∀ v R', Rep K mg F H v u R' → (∀ x, R' x → R x) → Q v H) : rFld K f x H Q := by
  unfold oFld at h
  split at h
  · split at h
    · rename_i e
      subst e
      obtain ⟨a, vs, S0, rfl, p, hs, hl, C', dx, hr, hm⟩ := r.nd_inv le
      rw [hc] at hm
      cases hm
      obtain ⟨v, R', g1, g2, g3⟩ := getF_ok p hl h
      exact ⟨a, C, dx, _, v, rfl, hr, cl, na, g1, q v R' g2 fun x z => hs x (g3 x z)⟩
    · cases h
  · cases h
theorem v_fld {c f : Str} {C : Addr} (hc : mg c = some (.ref C)) (cl : Cls K C) (na : NoAttr K C f) : Op1V K mg (rFld K f) (oFld c f) := fun F H x t R u Q le r h q => fldA hc cl na le r h fun v R' r _ => q v R' r
end
section
variable {X : Cx} {e : Expr} {c f : Str} {C : Addr} {pos : Pos} {d : DV} {de : DE}
theorem sv_fld (hc : X.mg c = some (.ref C)) (cl : Cls X.K C) (na : NoAttr X.K C f) (he : SV X e d) (hb : attributeBase e f X.env (eval e X.env) = eval e X.env := by rfl) : SV X (.Attribute e f pos) (o1V (oFld c f) d) := pew (pe_fld he hb) fun _ _ _ => i1V (v_fld hc cl na)
theorem sr_fld (hc : X.mg c = some (.ref C)) (cl : Cls X.K C) (na : NoAttr X.K C f) (he : SR X e de) (hb : attributeBase e f X.env (eval e X.env) = eval e X.env := by rfl) : SR X (.Attribute e f pos) (o1 (oFld c f) de) := pew (pe_fld he hb) fun _ _ _ => i1R (v_fld hc cl na)
end

/-! ### built-ins of one argument -/
section
variable {X : Cx} {e : Expr} {x : Str} {id : String} {p pos : Pos} {d : DV} {de : DE} {r : List V → Hp → VK → Prop} {o : T → Option T}
theorem sv_b1 (hc : CallR X (.builtin id) r) (hv : Op1V X.K X.mg (fun x H Q => r [x] H Q) o) (hb : bootBuiltins x = some (.builtin id)) (hg : Gl X x) (hm : X.mg x = none) (ha : SV X e d) (hn : x ≠ "__name__" := by decide) (hdb : (x == ("__debug__" : Str)) = false := by decide)
    (hs : starEach (e :: []) X.env = (false, eval e X.env) :: starEach [] X.env := by rfl) : SV X (.Call (.Name x p) [e] [] pos) (o1V o d) := pew (pe_callB hc hg hm hb (pa_cons ha pa_nil hs) hn hdb (he := hs)) fun _ _ _ h => i1V hv h
theorem sr_b1 (hc : CallR X (.builtin id) r) (hv : Op1V X.K X.mg (fun x H Q => r [x] H Q) o) (hb : bootBuiltins x = some (.builtin id)) (hg : Gl X x) (hm : X.mg x = none) (ha : SR X e de) (hn : x ≠ "__name__" := by decide) (hdb : (x == ("__debug__" : Str)) = false := by decide)
    (hs : starEach (e :: []) X.env = (false, eval e X.env) :: starEach [] X.env := by rfl) : SR X (.Call (.Name x p) [e] [] pos) (o1 o de) := pew (pe_callB hc hg hm hb (pa_cons ha pa_nil hs) hn hdb (he := hs)) fun _ _ _ h => i1R hv h
theorem se_b1 (hc : CallR X (.builtin id) r) (hv : Op1E X.K X.mg (fun x H Q => r [x] H Q) o) (hb : bootBuiltins x = some (.builtin id)) (hg : Gl X x) (hm : X.mg x = none) (ha : SR X e de) (hn : x ≠ "__name__" := by decide) (hdb : (x == ("__debug__" : Str)) = false := by decide)
    (hs : starEach (e :: []) X.env = (false, eval e X.env) :: starEach [] X.env := by rfl) : SE X (.Call (.Name x p) [e] [] pos) (o1 o de) := pew (pe_callB hc hg hm hb (pa_cons ha pa_nil hs) hn hdb (he := hs)) fun _ _ _ h => i1E hv h
theorem sv_t1 (hc : CallR X (.type id) r) (hv : Op1V X.K X.mg (fun x H Q => r [x] H Q) o) (hb : bootBuiltins x = some (.type id)) (hg : Gl X x) (hm : X.mg x = none) (ha : SV X e d) (hn : x ≠ "__name__" := by decide) (hdb : (x == ("__debug__" : Str)) = false := by decide)
    (hs : starEach (e :: []) X.env = (false, eval e X.env) :: starEach [] X.env := by rfl) : SV X (.Call (.Name x p) [e] [] pos) (o1V o d) := pew (pe_callTy hc hg hm hb (pa_cons ha pa_nil hs) hn hdb (he := hs)) fun _ _ _ h => i1V hv h
theorem se_t1 (hc : CallR X (.type id) r) (hv : Op1E X.K X.mg (fun x H Q => r [x] H Q) o) (hb : bootBuiltins x = some (.type id)) (hg : Gl X x) (hm : X.mg x = none) (ha : SR X e de) (hn : x ≠ "__name__" := by decide) (hdb : (x == ("__debug__" : Str)) = false := by decide)
    (hs : starEach (e :: []) X.env = (false, eval e X.env) :: starEach [] X.env := by rfl) : SE X (.Call (.Name x p) [e] [] pos) (o1 o de) := pew (pe_callTy hc hg hm hb (pa_cons ha pa_nil hs) hn hdb (he := hs)) fun _ _ _ h => i1E hv h
/-- isinstance(e, T), T a built-in type -/
theorem sv_isi {b : String} {y : Str} {py : Pos} (hb : b ∈ ["bool", "int", "str", "list", "tuple", "dict"]) (hbt : bootBuiltins y = some (.type b)) (hgi : Gl X "isinstance") (hmi : X.mg "isinstance" = none) (hgy : Gl X y) (hmy : X.mg y = none) (ha : SV X e d)
    (hn : y ≠ "__name__" := by decide) (hdb : (y == ("__debug__" : Str)) = false := by decide)
    (hs : starEach (e :: [.Name y py]) X.env = (false, eval e X.env) :: starEach [.Name y py] X.env := by rfl) (hs2 : starEach [.Name y py] X.env = (false, eval (.Name y py) X.env) :: starEach [] X.env := by rfl) (hpl : (backTo pos (starEach [.Name y py] X.env)).any (·.1) = false := by rfl) :
    SV X (.Call (.Name "isinstance" p) [e, .Name y py] [] pos) (o1V (oIsi b) d) :=
  pew (pe_callB call_isi hgi hmi (by decide +kernel) (pa_cons ha (pa_cons (pe_bltn hgy hmy hbt (show RelV (.ty b) (.type b) from rfl) hn hdb) pa_nil hs2) hs) (he := hs) (hpl := hpl)) fun _ _ _ h => i1V (v_isi hb) h
theorem sr_isi {b : String} {y : Str} {py : Pos} (hb : b ∈ ["bool", "int", "str", "list", "tuple", "dict"]) (hbt : bootBuiltins y = some (.type b)) (hgi : Gl X "isinstance") (hmi : X.mg "isinstance" = none) (hgy : Gl X y) (hmy : X.mg y = none) (ha : SR X e de)
    (hn : y ≠ "__name__" := by decide) (hdb : (y == ("__debug__" : Str)) = false := by decide)
    (hs : starEach (e :: [.Name y py]) X.env = (false, eval e X.env) :: starEach [.Name y py] X.env := by rfl) (hs2 : starEach [.Name y py] X.env = (false, eval (.Name y py) X.env) :: starEach [] X.env := by rfl) (hpl : (backTo pos (starEach [.Name y py] X.env)).any (·.1) = false := by rfl) :
    SR X (.Call (.Name "isinstance" p) [e, .Name y py] [] pos) (o1 (oIsi b) de) :=
  pew (pe_callB call_isi hgi hmi (by decide +kernel) (pa_cons ha (pa_cons (pe_bltn hgy hmy hbt (show RelV (.ty b) (.type b) from rfl) hn hdb) pa_nil hs2) hs) (he := hs) (hpl := hpl)) fun _ _ _ h => i1R (v_isi hb) h
end
end Tr


set_option Elab.async false
set_option linter.all false
set_option pp.maxSteps 3000
set_option maxRecDepth 100000
set_option maxHeartbeats 4000000
/-! D7: statements, loops, defs. -/
namespace Tr
open PySem PySem.Spec PyProof.Rows L2

inductive Fl where
  | nx | rt (t : T) | bk | ct
abbrev DS := List T → Option (Fl × List T)
section
variable (K : PySem.W.Frag) (mg : Mg)
def fin (D : Ends) (r : Fl) (F H : Hp) (R : AS) (σ : L2.St) : Prop := match r with
  | .nx => D.nx σ H
  | .bk => D.bk σ H
  | .ct => D.ct σ H
  | .rt t => ∀ v, Rep K mg F H v t R → D.rt v H
/-- off the slots W nothing is stored -/
structure Off (W : List Nat) (σ σ' : L2.St) : Prop where
  at_ : ∀ i, i ∉ W → σ'[i]? = σ[i]?
  len : σ'.length = σ.length
/-- what is wanted behind -/
def Cont' (D : Ends) (W : List Nat) (F H : Hp) (S : AS) (σ : L2.St) (r : Fl) (env' : List T) : Prop :=
  ∀ F' H' S' R σ', Stp F H S F' H' (Cup S' R) → Ok K mg F' H' σ' env' S' → Off W σ σ' → Dj S' R → fin K mg D r F' H' R σ'
def tS (W : List Nat) (d : DS) : TS := fun D σ H => ∃ F env S r env', Ok K mg F H σ env S ∧ d env = some (r, env') ∧ Cont' K mg D W F H S σ r env'
end
def SS (X : Cx) (st : Stmt) (W : List Nat) (d : DS) : Prop := PS X st (tS X.K X.mg W d)
def SSs (X : Cx) (st : List Stmt) (W : List Nat) (d : DS) : Prop := PSs X st (tS X.K X.mg W d)
theorem psw {X : Cx} {st : Stmt} {t t' : TS} (h : PS X st t) (i : ∀ D σ H, t' D σ H → t D σ H) : PS X st t' := ⟨fun pins s σ H D I q => h.run pins s σ H D I (i D σ H q)⟩
theorem pssw {X : Cx} {st : List Stmt} {t t' : TS} (h : PSs X st t) (i : ∀ D σ H, t' D σ H → t D σ H) : PSs X st t' := ⟨fun pins s σ H D I q => h.run pins s σ H D I (i D σ H q)⟩
theorem Off.refl {W : List Nat} {σ : L2.St} : Off W σ σ := ⟨fun _ _ => rfl, rfl⟩
theorem Off.trans {W : List Nat} {a b c : L2.St} (h : Off W a b) (k : Off W b c) : Off W a c := ⟨fun i n => (k.at_ i n).trans (h.at_ i n), k.len.trans h.len⟩
theorem Off.mono {W W' : List Nat} {a b : L2.St} (h : Off W a b) (k : ∀ i, i ∈ W → i ∈ W') : Off W' a b := ⟨fun i n => h.at_ i fun z => n (k i z), h.len⟩
theorem Off.set {σ : L2.St} {i : Nat} {v : Option V} : Off [i] σ (σ.set i v) := ⟨fun j n => by
  rw [List.getElem?_set_ne]
  intro e
  exact n (by simp [e]), by rw [List.length_set]⟩
def dSeq (a b : DS) : DS := fun env => match a env with
  | some (.nx, e) => b e
  | some (r, e) => some (r, e)
  | none => none
def dIf (c : DE) (a b : DS) : DS := fun env => match c env with
  | some (.lf (.bl true), e) => a e
  | some (.lf (.bl false), e) => b e
  | _ => none
def dSet (i : Nat) (d : DE) : DS := fun env => match d env with
  | some (t, e) => if i < e.length then some (.nx, e.set i t) else none
  | none => none
def dRet (d : DE) : DS := fun env => (d env).map fun p => (.rt p.1, p.2)
def dRetN : DS := fun env => some (.rt (.lf .non), env)
def dEx (d : DE) : DS := fun env => (d env).map fun p => (.nx, p.2)
def dNx : DS := fun env => some (.nx, env)
def dBk : DS := fun env => some (.bk, env)
def dCt : DS := fun env => some (.ct, env)
def dFail : DS := fun _ => none
section
variable {K : PySem.W.Frag} {mg : Mg} {D : Ends} {σ σ' : L2.St} {H H' F F' : Hp} {S S' R : AS} {W W1 W2 : List Nat} {env env' : List T} {r : Fl}
theorem Cont'.step (c : Cont' K mg D W F H S σ r env') (st : Stp F H S F' H' (Cup S' R)) (of : Off W σ σ') : Cont' K mg D W F' H' S' σ' r env' := fun F2 H2 S2 R2 σ2 st2 ok of2 dj =>
  c F2 H2 S2 R2 σ2 ((st.weak fun _ z => .inl z).trans st2) ok (of.trans of2) dj
theorem Cont'.sub (c : Cont' K mg D W F H S σ r env') (h : ∀ i, i ∈ W1 → i ∈ W) : Cont' K mg D W1 F H S σ r env' := fun F2 H2 S2 R2 σ2 st2 ok of2 dj => c F2 H2 S2 R2 σ2 st2 ok (of2.mono h) dj
/-- right away -/
theorem Cont'.now (c : Cont' K mg D W F H S σ .nx env') (st : Stp F H S F' H' S') (ok : Ok K mg F' H' σ' env' S') (of : Off W σ σ') : D.nx σ' H' :=
  c F' H' S' Emp σ' (st.weak fun _ z => z.elim id fun z => z.elim) ok of dj_emp
theorem seq_imp {a b : DS} (h : tS K mg (W1 ++ W2) (dSeq a b) D σ H) : tSeq (tS K mg W1 a) (tS K mg W2 b) D σ H := by
  obtain ⟨F, env, S, r, env', ok, hd, c⟩ := h
  unfold dSeq at hd
  split at hd
  · rename_i e h1
    refine ⟨F, env, S, .nx, e, ok, h1, fun F1 H1 S1 R1 σ1 st1 ok1 of1 dj1 => ?_⟩
    exact ⟨F1, e, S1, r, env', ok1, hd, (c.step st1 (of1.mono fun i z => List.mem_append_left _ z)).sub fun i z => List.mem_append_right _ z⟩
  · rename_i r' e hne h1
    cases hd
    refine ⟨F, env, S, r, env', ok, h1, fun F1 H1 S1 R1 σ1 st1 ok1 of1 dj1 => ?_⟩
    have q := c F1 H1 S1 R1 σ1 st1 ok1 (of1.mono fun i z => List.mem_append_left _ z) dj1
    cases r with
    | nx => exact (hne rfl).elim
    | rt t => exact q
    | bk => exact q
    | ct => exact q
  · cases hd
theorem if_imp {c : DE} {a b : DS} (h : tS K mg (W1 ++ W2) (dIf c a b) D σ H) : tIfS (tTest (tR K mg c)) (tS K mg W1 a) (tS K mg W2 b) D σ H := by
  obtain ⟨F, env, S, r, env', ok, hd, q⟩ := h
  unfold dIf at hd
  split at hd
  · rename_i e h1
    refine ⟨F, env, S, _, e, ok, h1, fun v F1 H1 S1 R1 st1 ok1 r1 => ⟨true, r1.lf_inv.1, ?_⟩⟩
    refine iteT ?_
    exact ⟨F1, e, S1, r, env', ok1, hd, (q.step (R := Emp) (st1.weak fun _ z => z.elim id fun z => z.elim) .refl).sub fun i z => List.mem_append_left _ z⟩
  · rename_i e h1
    refine ⟨F, env, S, _, e, ok, h1, fun v F1 H1 S1 R1 st1 ok1 r1 => ⟨false, r1.lf_inv.1, ?_⟩⟩
    refine iteF ?_
    exact ⟨F1, e, S1, r, env', ok1, hd, (q.step (R := Emp) (st1.weak fun _ z => z.elim id fun z => z.elim) .refl).sub fun i z => List.mem_append_right _ z⟩
  · cases hd
/-- a value stored in a slot -/
theorem store_ok' {v : V} {t : T} {i : Nat} (ok : Ok K mg F H σ env S) (r : Rep K mg F H v t R) (dj : Dj S R) (hi : i < env.length) : ∃ S2, Ok K mg F H (σ.set i (some v)) (env.set i t) S2 ∧ (∀ x, S2 x → S x ∨ R x) := by
  obtain ⟨s, A, B, e1, e2, e3, e4, rest⟩ := ok.st.split (List.getElem?_eq_getElem hi)
  refine ⟨Cup R B, ⟨ok.le, rest F H (some v) t R (Le.refl _) (fun y z => ⟨rfl, (ok.st.dom y ((e4 y).mpr (.inr z))).2⟩) r fun x a b => dj x ((e4 x).mpr (.inr b)) a⟩, fun x z => z.elim .inr fun z => .inl ((e4 x).mpr (.inr z))⟩
theorem set_imp {i : Nat} {d : DE} (h : tS K mg [i] (dSet i d) D σ H) : tAsg (tE K mg d) (gName i) D σ H := by
  obtain ⟨F, env, S, r, env', ok, hd, q⟩ := h
  unfold dSet at hd
  split at hd
  · rename_i t e h1
    split at hd
    · rename_i hi
      cases hd
      refine ⟨F, env, S, t, e, ok, h1, fun v F1 H1 S1 R1 st1 ok1 r1 dj1 => ?_⟩
      obtain ⟨S2, ok2, sub⟩ := store_ok' ok1 r1 dj1 hi
      exact q.now (st1.weak sub) ok2 Off.set
    · cases hd
  · cases hd
theorem ret_imp {d : DE} (h : tS K mg [] (dRet d) D σ H) : tRet (tE K mg d) D σ H := by
  obtain ⟨F, env, S, r, env', ok, hd, q⟩ := h
  obtain ⟨⟨t, e⟩, h1, h2⟩ := Option.map_eq_some_iff.mp hd
  cases h2
  exact ⟨F, env, S, t, _, ok, h1, fun v F1 H1 S1 R1 st1 ok1 r1 dj1 => q F1 H1 S1 R1 σ st1 ok1 .refl dj1 v r1⟩
theorem ex_imp {d : DE} (h : tS K mg [] (dEx d) D σ H) : tDrop (tE K mg d) D σ H := by
  obtain ⟨F, env, S, r, env', ok, hd, q⟩ := h
  obtain ⟨⟨t, e⟩, h1, h2⟩ := Option.map_eq_some_iff.mp hd
  cases h2
  exact ⟨F, env, S, t, _, ok, h1, fun v F1 H1 S1 R1 st1 ok1 r1 dj1 => q.now (st1.weak fun _ z => .inl z) ok1 .refl⟩
end
section
variable {X : Cx} {st : Stmt} {sts : List Stmt} {W W1 W2 : List Nat} {a b : DS} {e c : Expr} {d : DE} {pos pos' : Pos} {i : Nat} {x : Str} {xs ys : List Stmt}
theorem ss_cons (h1 : SS X st W1 a) (h2 : SSs X sts W2 b) : SSs X (st :: sts) (W1 ++ W2) (dSeq a b) := pssw (pss_cons h1 h2) fun _ _ _ => seq_imp
theorem ss_one (h1 : SS X st W a) : SSs X [st] W a := pss_one h1
theorem ss_nil : SSs X [] [] dNx := pssw pss_nil fun D σ H ⟨F, env, S, r, env', ok, hd, q⟩ => by cases hd; exact q.now .refl ok .refl
theorem ss_pass : SS X (.Pass pos) [] dNx := psw ps_pass fun D σ H ⟨F, env, S, r, env', ok, hd, q⟩ => by cases hd; exact q.now .refl ok .refl
theorem ss_brk : SS X (.Break pos) [] dBk := psw ps_break fun D σ H ⟨F, env, S, r, env', ok, hd, q⟩ => by cases hd; exact q F H S Emp σ (Stp.refl.weak fun _ z => z.elim id fun z => z.elim) ok .refl dj_emp
theorem ss_cnt : SS X (.Continue pos) [] dCt := psw ps_continue fun D σ H ⟨F, env, S, r, env', ok, hd, q⟩ => by cases hd; exact q F H S Emp σ (Stp.refl.weak fun _ z => z.elim id fun z => z.elim) ok .refl dj_emp
theorem ss_fail : SS X st [] dFail := psw ps_never fun D σ H ⟨F, env, S, r, env', ok, hd, q⟩ => by cases hd
theorem ss_if (hc : ST X c d) (h1 : SSs X xs W1 a) (h2 : SSs X ys W2 b) : SS X (.If c xs ys pos) (W1 ++ W2) (dIf d a b) := psw (ps_if hc h1 h2) fun _ _ _ => if_imp
theorem ss_set (hN : X.N.Nodup) (hi : X.N[i]? = some x) (hx : Loc X.env.scope x) (he : SE X e d) (hs : swapsWith e (some (.Name x pos')) pos.line X.env = pure false := by rfl) (hf : X.fn x = true ∨ X.env.scope.names.lookup x = some .local := by first | exact .inl rfl | exact .inr rfl | assumption) :
    SS X (.Assign [.Name x pos'] e pos) [i] (dSet i d) := psw (ps_set hN hi hx he hs hf) fun _ _ _ => set_imp
theorem ss_ret (he : SE X e d) : SS X (.Return (some e) pos) [] (dRet d) := psw (ps_ret he) fun _ _ _ => ret_imp
theorem ss_retN : SS X (.Return none pos) [] dRetN := psw ps_retN fun D σ H ⟨F, env, S, r, env', ok, hd, q⟩ => by
  cases hd
  exact q F H S Emp σ (Stp.refl.weak fun _ z => z.elim id fun z => z.elim) ok .refl dj_emp .non (.lf rfl fun _ z => z)
theorem ss_ex (he : SE X e d) (hs : swapsWith e none pos.line X.env = pure false := by rfl) : SS X (.Expr e pos) [] (dEx d) := psw (ps_expr he hs) fun _ _ _ => ex_imp
end

/-! ### while -/
def dWh (c : DE) (d : DS) : Nat → DS
  | 0, _ => none
  | n + 1, env => match c env with
    | some (.lf (.bl true), e) => match d e with
      | some (.nx, e2) => dWh c d n e2
      | some (.ct, e2) => dWh c d n e2
      | some (.bk, e2) => some (.nx, e2)
      | some (.rt t, e2) => some (.rt t, e2)
      | none => none
    | some (.lf (.bl false), e) => some (.nx, e)
    | _ => none
section
variable {K : PySem.W.Frag} {mg : Mg} {D : Ends} {σ σ' : L2.St} {H H' F F' : Hp} {S S' R : AS} {W W1 W2 : List Nat} {env env' : List T} {r : Fl}
theorem while_imp {c : DE} {d : DS} {n : Nat} (h : tS K mg W (dWh c d n) D σ H) : tWhile (tTest (tR K mg c)) (tS K mg W d) D σ H := by
  refine ⟨fun m σ H => tS K mg W (dWh c d m) D σ H, ⟨n, h⟩, ?_⟩
  rintro m σ H ⟨F, env, S, r, env', ok, hd, q⟩
  cases m with
  | zero => simp [dWh] at hd
  | succ m =>
    rw [dWh] at hd
    split at hd
    · rename_i e h1
      refine ⟨F, env, S, _, e, ok, h1, fun v F1 H1 S1 R1 st1 ok1 r1 => ⟨true, r1.lf_inv.1, ?_⟩⟩
      refine iteT ?_
      refine ⟨fun σ' H' => tS K mg W (dWh c d m) D σ' H', fun σ' H' z => ⟨m, Nat.lt_succ_self m, z⟩, ?_⟩
      have q1 := q.step (R := Emp) (st1.weak fun _ z => z.elim id fun z => z.elim) .refl
      split at hd
      · rename_i e2 h2
        exact ⟨F1, e, S1, .nx, e2, ok1, h2, fun F2 H2 S2 R2 σ2 st2 ok2 of2 dj2 => ⟨F2, e2, S2, r, env', ok2, hd, q1.step st2 of2⟩⟩
      · rename_i e2 h2
        exact ⟨F1, e, S1, .ct, e2, ok1, h2, fun F2 H2 S2 R2 σ2 st2 ok2 of2 dj2 => ⟨F2, e2, S2, r, env', ok2, hd, q1.step st2 of2⟩⟩
      · rename_i e2 h2
        cases hd
        exact ⟨F1, e, S1, .bk, _, ok1, h2, fun F2 H2 S2 R2 σ2 st2 ok2 of2 dj2 => q1 F2 H2 S2 R2 σ2 st2 ok2 of2 dj2⟩
      · rename_i t e2 h2
        cases hd
        exact ⟨F1, e, S1, .rt t, _, ok1, h2, fun F2 H2 S2 R2 σ2 st2 ok2 of2 dj2 => q1 F2 H2 S2 R2 σ2 st2 ok2 of2 dj2⟩
      · cases hd
    · rename_i e h1
      cases hd
      refine ⟨F, env, S, _, _, ok, h1, fun v F1 H1 S1 R1 st1 ok1 r1 => ⟨false, r1.lf_inv.1, ?_⟩⟩
      refine iteF ?_
      exact q.now st1 ok1 .refl
    · cases hd
theorem ss_while {X : Cx} {c : Expr} {body : List Stmt} {dc : DE} {d : DS} {pos : Pos} (n : Nat) (hp : PassesOwn (model X.prog X.w) X.A X.env X.xe) (hc : ST X c dc) (hb : SSs X body W d) : SS X (.While c body [] pos) W (dWh dc d n) :=
  psw (ps_while hp hc hb) fun _ _ _ => while_imp
end

/-! ### what is walked -/
abbrev DI := List T → Option (List T × List T)
section
variable (K : PySem.W.Frag) (mg : Mg)
/-- the iterator hands out these things, one after another -/
def Good (its : List T) (J : It) (F H : Hp) (S : AS) : Prop := ∀ (i : Nat) (F2 H2 : Hp) (S2 : AS), Stp F H S F2 H2 S2 → Le F2 H2 →
  (∀ t, its[i]? = some t → J.go i H2 ∧ ∀ x H3, J.yld i H2 x H3 → ∃ F3, Stp F2 H2 Emp F3 H3 Emp ∧ Le F3 H3 ∧ Rep K mg F3 H3 x t Emp) ∧ (its.length ≤ i → J.stop i H2)
def tI (d : DI) : TI := fun σ H Rk => ∃ F env S its env', Ok K mg F H σ env S ∧ d env = some (its, env') ∧ ∀ J F' H' S', Stp F H S F' H' S' → Ok K mg F' H' σ env' S' → Good K mg its J F' H' S' → Rk J H'
/-- a target: the thing goes into the slots -/
abbrev DG := T → List T → Option (List T)
def tG (W : List Nat) (dg : DG) : TG := fun v σ H Q => ∃ F env S R t env', Ok K mg F H σ env S ∧ Rep K mg F H v t R ∧ Dj S R ∧ dg t env = some env' ∧ ∀ σ' S', Ok K mg F H σ' env' S' → (∀ x, S' x → S x ∨ R x) → Off W σ σ' → Q σ' H
end
def SI (X : Cx) (tg iter : Expr) (d : DI) : Prop := PI X tg iter (tI X.K X.mg d)
def SG (X : Cx) (tg : Expr) (W : List Nat) (dg : DG) : Prop := PG X tg (tG X.K X.mg W dg)
theorem piw {X : Cx} {tg iter : Expr} {t t' : TI} (h : PI X tg iter t) (i : ∀ σ H R, t' σ H R → t σ H R) : PI X tg iter t' := ⟨fun pins s σ H R I q => h.run pins s σ H R I (i σ H R q)⟩
theorem pgw {X : Cx} {tg : Expr} {t t' : TG} (h : PG X tg t) (i : ∀ v σ H Q, t' v σ H Q → t v σ H Q) : PG X tg t' := ⟨fun pins s σ H v u Q I r q => h.run pins s σ H v u Q I r (i v σ H Q q)⟩
def gN (i : Nat) : DG := fun t env => if i < env.length then some (env.set i t) else none
def gT2 (a b : DG) : DG := fun t env => match t with
  | .nd _ .tup [x, y] => (a x env).bind fun e => b y e
  | _ => none
def gT3 (a b c : DG) : DG := fun t env => match t with
  | .nd _ .tup [x, y, z] => (a x env).bind fun e => (b y e).bind fun e => c z e
  | _ => none
section
variable {X : Cx} {i : Nat} {x : Str} {pos : Pos}
theorem sg_name (hN : X.N.Nodup) (hi : X.N[i]? = some x) (hx : Loc X.env.scope x) (hf : X.fn x = true ∨ X.env.scope.names.lookup x = some .local := by first | exact .inl rfl | exact .inr rfl | assumption) : SG X (.Name x pos) [i] (gN i) :=
  pgw (pg_name hN hi hx hf) fun v σ H Q ⟨F, env, S, R, t, env', ok, r, dj, hd, q⟩ => by
    unfold gN at hd
    split at hd
    · rename_i hl
      cases hd
      obtain ⟨S2, ok2, sub⟩ := store_ok' ok r dj hl
      exact q _ S2 ok2 sub Off.set
    · cases hd
theorem sg_two {a b : Expr} {W1 W2 : List Nat} {da db : DG} {k : Nat} (hc : X.calm = true) (ha : SG X a W1 da) (hb : SG X b W2 db) (h1 : (assignEach [a, b] X.env).map (·.2) = assign a X.env :: (assignEach [b] X.env).map (·.2) := by rfl) (h2 : (assignEach [b] X.env).map (·.2) = assign b X.env :: (assignEach [] X.env).map (·.2) := by rfl)
    (hn : (assignEach [a, b] X.env).length = 2 := by rfl) (hst : (assignEach [a, b] X.env).findIdx? (·.1) = none := by rfl) : SG X (.Tuple [a, b] k pos) (W1 ++ W2) (gT2 da db) :=
  pgw (pg_tup hc (pgs_cons ha (pgs_cons hb pgs_nil h2) h1) hn hst) fun v σ H Q ⟨F, env, S, R, t, env', ok, r, dj, hd, q⟩ => by
    unfold gT2 at hd
    split at hd
    · rename_i o x y
      obtain ⟨e1, g1, g2⟩ := Option.bind_eq_some_iff.mp hd
      obtain ⟨a, vs, S0, rfl, p, hs, hr⟩ := r.nd_inv ok.le
      cases p with
      | @cons v1 _ vs _ _ A1 B1 r1 p1 d1 hS1 =>
        cases p1 with
        | @cons v2 _ vs _ _ A2 B2 r2 p2 d2 hS2 =>
          cases p2 with
          | nil _ =>
            refine ⟨a, [v1, v2], rfl, SqT.of hr, rfl, v1, [v2], rfl, F, env, S, A1, x, e1, ok, r1, fun z s u => dj z s (hs z ((hS1 z).mpr (.inl u))), g1, fun σ1 S1 ok1 sub1 of1 => ?_⟩
            refine ⟨v2, [], rfl, F, e1, S1, A2, y, env', ok1, r2, fun z s u => (sub1 z s).elim (fun s => dj z s (hs z ((hS1 z).mpr (.inr ((hS2 z).mpr (.inl u)))))) (fun s => d1 z s ((hS2 z).mpr (.inl u))), g2, fun σ2 S2 ok2 sub2 of2 => ⟨rfl, ?_⟩⟩
            refine q σ2 S2 ok2 (fun z s => ?_) ((of1.mono fun i z => List.mem_append_left _ z).trans (of2.mono fun i z => List.mem_append_right _ z))
            rcases sub2 z s with s | s
            · exact (sub1 z s).elim .inl fun s => .inr (hs z ((hS1 z).mpr (.inl s)))
            · exact .inr (hs z ((hS1 z).mpr (.inr ((hS2 z).mpr (.inl s)))))
    · cases hd
theorem sg_three {a b c : Expr} {W1 W2 W3 : List Nat} {da db dc : DG} {k : Nat} (hc : X.calm = true) (ha : SG X a W1 da) (hb : SG X b W2 db) (hcc : SG X c W3 dc) (h1 : (assignEach [a, b, c] X.env).map (·.2) = assign a X.env :: (assignEach [b, c] X.env).map (·.2) := by rfl) (h2 : (assignEach [b, c] X.env).map (·.2) = assign b X.env :: (assignEach [c] X.env).map (·.2) := by rfl)
    (h3 : (assignEach [c] X.env).map (·.2) = assign c X.env :: (assignEach [] X.env).map (·.2) := by rfl)
    (hn : (assignEach [a, b, c] X.env).length = 3 := by rfl) (hst : (assignEach [a, b, c] X.env).findIdx? (·.1) = none := by rfl) : SG X (.Tuple [a, b, c] k pos) (W1 ++ (W2 ++ W3)) (gT3 da db dc) :=
  pgw (pg_tup hc (pgs_cons ha (pgs_cons hb (pgs_cons hcc pgs_nil h3) h2) h1) hn hst) fun v σ H Q ⟨F, env, S, R, t, env', ok, r, dj, hd, q⟩ => by
    unfold gT3 at hd
    split at hd
    · rename_i o x y z
      obtain ⟨e1, g1, g2⟩ := Option.bind_eq_some_iff.mp hd
      obtain ⟨e2, g3, g4⟩ := Option.bind_eq_some_iff.mp g2
      obtain ⟨a, vs, S0, rfl, p, hs, hr⟩ := r.nd_inv ok.le
      cases p with
      | @cons v1 _ vs _ _ A1 B1 r1 p1 d1 hS1 =>
        cases p1 with
        | @cons v2 _ vs _ _ A2 B2 r2 p2 d2 hS2 =>
          cases p2 with
          | @cons v3 _ vs _ _ A3 B3 r3 p3 d3 hS3 =>
            cases p3 with
            | nil _ =>
              have i1 : ∀ z, A1 z → S0 z := fun z u => (hS1 z).mpr (.inl u)
              have i2 : ∀ z, A2 z → B1 z := fun z u => (hS2 z).mpr (.inl u)
              have i3 : ∀ z, A3 z → B2 z := fun z u => (hS3 z).mpr (.inl u)
              have i3' : ∀ z, A3 z → B1 z := fun z u => (hS2 z).mpr (.inr (i3 z u))
              have ib : ∀ z, B1 z → S0 z := fun z u => (hS1 z).mpr (.inr u)
              refine ⟨a, [v1, v2, v3], rfl, SqT.of hr, rfl, v1, [v2, v3], rfl, F, env, S, A1, x, e1, ok, r1, fun z s u => dj z s (hs z (i1 z u)), g1, fun σ1 S1 ok1 sub1 of1 => ?_⟩
              refine ⟨v2, [v3], rfl, F, e1, S1, A2, y, e2, ok1, r2, fun z s u => (sub1 z s).elim (fun s => dj z s (hs z (ib z (i2 z u)))) (fun s => d1 z s (i2 z u)), g3, fun σ2 S2 ok2 sub2 of2 => ?_⟩
              refine ⟨v3, [], rfl, F, e2, S2, A3, z, env', ok2, r3, fun z s u => (sub2 z s).elim (fun s => (sub1 z s).elim (fun s => dj z s (hs z (ib z (i3' z u)))) fun s => d1 z s (i3' z u)) (fun s => d2 z s (i3 z u)), g4, fun σ3 S3 ok3 sub3 of3 => ⟨rfl, ?_⟩⟩
              refine q σ3 S3 ok3 (fun z s => ?_) ((of1.mono fun i z => List.mem_append_left _ z).trans ((of2.mono fun i z => List.mem_append_right _ (List.mem_append_left _ z)).trans (of3.mono fun i z => List.mem_append_right _ (List.mem_append_right _ z))))
              rcases sub3 z s with s | s
              · rcases sub2 z s with s | s
                · exact (sub1 z s).elim .inl fun s => .inr (hs z (i1 z s))
                · exact .inr (hs z (ib z (i2 z s)))
              · exact .inr (hs z (ib z (i3' z s)))
    · cases hd
end
/-- the turns -/
def dFr (dg : DG) (d : DS) : List T → DS
  | [], env => some (.nx, env)
  | t :: ts, env => match dg t env with
    | some e => match d e with
      | some (.nx, e2) => dFr dg d ts e2
      | some (.ct, e2) => dFr dg d ts e2
      | some (.bk, e2) => some (.nx, e2)
      | some (.rt t, e2) => some (.rt t, e2)
      | none => none
    | none => none
def dFor (di : DI) (dg : DG) (d : DS) : DS := fun env => (di env).bind fun p => dFr dg d p.1 p.2
section
variable {K : PySem.W.Frag} {mg : Mg} {D : Ends} {σ σ' : L2.St} {H H' F F' : Hp} {S S' R : AS} {W W1 W2 : List Nat} {env env' : List T} {r : Fl}
/-- the loop, over an iterator that is good -/
theorem for_core {dg : DG} {d : DS} {its : List T} {J : It} {F0 H0 : Hp} {S0 : AS} {σ0 : L2.St} {e0 : List T} (hG : Good K mg its J F0 H0 S0) (ok0 : Ok K mg F0 H0 σ0 e0 S0) (hd0 : dFr dg d its e0 = some (r, env')) (c0 : Cont' K mg D (W1 ++ W2) F0 H0 S0 σ0 r env') :
    ∃ Wi : Nat → Nat → L2.St → Hp → Prop, (∃ m, Wi 0 m σ0 H0) ∧ ∀ i m σ H, Wi i m σ H →
      (J.stop i H ∧ D.nx σ H) ∨ (J.go i H ∧ ∃ N : L2.St → Hp → Prop, (∀ σ' H', N σ' H' → ∃ m', m' < m ∧ Wi (i + 1) m' σ' H') ∧ ∀ x H', J.yld i H x H' → tG K mg W1 dg x σ H' fun σ2 H2 => tS K mg W2 d { D with nx := N, ct := N, bk := D.nx } σ2 H2) := by
  refine ⟨fun i m σ H => m = its.length - i ∧ i ≤ its.length ∧ ∃ F env S, Stp F0 H0 S0 F H S ∧ Ok K mg F H σ env S ∧ dFr dg d (its.drop i) env = some (r, env') ∧ Cont' K mg D (W1 ++ W2) F H S σ r env', ⟨its.length, rfl, Nat.zero_le _, F0, e0, S0, .refl, ok0, hd0, c0⟩, ?_⟩
  rintro i m σ H ⟨rfl, hi, F, env, S, st, ok, hd, c⟩
  obtain ⟨g1, g2⟩ := hG i F H S st ok.le
  by_cases hlt : i < its.length
  · obtain ⟨go, yl⟩ := g1 _ (List.getElem?_eq_getElem hlt)
    rw [List.drop_eq_getElem_cons hlt, dFr] at hd
    refine .inr ⟨go, fun σ' H' => ∃ F env S, Stp F0 H0 S0 F H' S ∧ Ok K mg F H' σ' env S ∧ dFr dg d (its.drop (i + 1)) env = some (r, env') ∧ Cont' K mg D (W1 ++ W2) F H' S σ' r env', fun σ' H' z => ⟨its.length - (i + 1), by omega, rfl, hlt, z⟩, fun x H3 y => ?_⟩
    obtain ⟨F3, st3, le3, r3⟩ := yl x H3 y
    have ok3 := ok.keep st3 emp_dj le3
    have a0 : Stp F H (Cup Emp S) F3 H3 (Cup Emp S) := st3.frame S
    have st3' : Stp F H S F3 H3 S := (a0.big (R := S) fun z u => Or.elim u (fun u => False.elim u) id).weak fun z u => Or.inr u
    split at hd
    · rename_i e h1
      refine ⟨F3, env, S, Emp, its[i], e, ok3, r3, dj_emp, h1, fun σ1 S1 ok1 sub1 of1 => ?_⟩
      have st4 : Stp F H S F3 H3 (Cup S1 Emp) := st3'.weak fun z u => u.elim (fun u => (sub1 z u).elim id fun u => u.elim) fun u => u.elim
      have c1 := c.step st4 (of1.mono fun i z => List.mem_append_left _ z)
      have st5 : Stp F0 H0 S0 F3 H3 S1 := st.trans (st4.weak fun _ z => .inl z)
      split at hd
      · rename_i e2 h2
        refine ⟨F3, e, S1, .nx, e2, ok1, h2, fun F2 H2 S2 R2 σ2 st2 ok2 of2 dj2 => ?_⟩
        exact ⟨F2, e2, S2, st5.trans (st2.weak fun _ z => .inl z), ok2, hd, c1.step st2 (of2.mono fun i z => List.mem_append_right _ z)⟩
      · rename_i e2 h2
        refine ⟨F3, e, S1, .ct, e2, ok1, h2, fun F2 H2 S2 R2 σ2 st2 ok2 of2 dj2 => ?_⟩
        exact ⟨F2, e2, S2, st5.trans (st2.weak fun _ z => .inl z), ok2, hd, c1.step st2 (of2.mono fun i z => List.mem_append_right _ z)⟩
      · rename_i e2 h2
        cases hd
        exact ⟨F3, e, S1, .bk, _, ok1, h2, fun F2 H2 S2 R2 σ2 st2 ok2 of2 dj2 => c1 F2 H2 S2 R2 σ2 st2 ok2 (of2.mono fun i z => List.mem_append_right _ z) dj2⟩
      · rename_i t e2 h2
        cases hd
        exact ⟨F3, e, S1, .rt t, _, ok1, h2, fun F2 H2 S2 R2 σ2 st2 ok2 of2 dj2 => c1 F2 H2 S2 R2 σ2 st2 ok2 (of2.mono fun i z => List.mem_append_right _ z) dj2⟩
      · cases hd
    · cases hd
  · have e : i = its.length := by omega
    subst e
    rw [List.drop_length] at hd
    cases hd
    exact .inl ⟨g2 (Nat.le_refl _), c.now .refl ok .refl⟩
theorem for_imp {di : DI} {dg : DG} {d : DS} (h : tS K mg (W1 ++ W2) (dFor di dg d) D σ H) : tFor (tI K mg di) (tG K mg W1 dg) (tS K mg W2 d) D σ H := by
  obtain ⟨F, env, S, r, env', ok, hd, q⟩ := h
  obtain ⟨⟨its, e⟩, h1, h2⟩ := Option.bind_eq_some_iff.mp hd
  exact ⟨F, env, S, its, e, ok, h1, fun J F1 H1 S1 st1 ok1 g1 => for_core g1 ok1 h2 (q.step (R := Emp) (st1.weak fun _ z => z.elim id fun z => z.elim) .refl)⟩
theorem ss_for {X : Cx} {tg iter : Expr} {body : List Stmt} {di : DI} {dg : DG} {d : DS} {pos : Pos} (hp : PassesOwn (model X.prog X.w) X.A X.env X.xe) (hc : X.calm = true) (hi : SI X tg iter di) (hg : SG X tg W1 dg) (hb : SSs X body W2 d)
    (hs : ∀ x, foldedSetIterable iter X.env x = pure x := by intro _; rfl) : SS X (.For tg iter body [] pos) (W1 ++ W2) (dFor di dg d) := psw (ps_for hp hc hi hg hb hs) fun _ _ _ => for_imp
end

/-! ### a def -/
/-- the parameters behind the body: those that are never stored -/
def outs : List Bool → List T → List T
  | b :: bs, t :: ts => (if b = true then t else .no) :: outs bs ts
  | _, _ => []
def dFun (keep : List Bool) (n : Nat) (d : DS) : FT := fun ts => if ts.length = keep.length then match d (ts ++ List.replicate (n - keep.length) .no) with
    | some (.rt t, e) => some (t, outs keep e)
    | some (.nx, e) => some (.lf .non, outs keep e)
    | _ => none
  else none
theorem dFun_len {keep : List Bool} {n : Nat} {d : DS} {m : Nat} (h : keep.length = m) : FLen (dFun keep n d) m := fun ts r e => by
  unfold dFun at e
  split at e
  · rw [← h]; assumption
  · cases e
section
variable {K : PySem.W.Frag} {mg : Mg} {F H : Hp}
theorem start_rep : ∀ {vs : List V} {ts : List T} {S : AS} {k : Nat}, Reps K mg F H vs ts S → StR K mg F H (vs.map some ++ List.replicate k none) (ts ++ List.replicate k .no) S
  | _, _, S, 0, .nil h => .nil h
  | _, _, S, k + 1, .nil h => .cons (S1 := S) (S2 := S) ⟨rfl, h⟩ (start_rep (k := k) (.nil h)) (fun x a => (h x a).elim) fun x => ⟨.inl, fun z => z.elim id id⟩
  | _, _, _, k, .cons r q d hS => .cons r (start_rep q) d hS
theorem outs_rep : ∀ {keep : List Bool} {vs : List V} {σ : L2.St} {env : List T} {S : AS}, keep.length = vs.length → StR K mg F H σ env S → (∀ (i : Nat) (v : V), keep[i]? = some true → vs[i]? = some v → σ[i]? = some (some v)) → vs.length ≤ σ.length →
    ∃ S', Reps K mg F H vs (outs keep env) S' ∧ ∀ x, S' x → S x
  | [], [], _, env, S, _, _, _, _ => ⟨Emp, (show Reps K mg F H [] [] Emp from .nil fun _ z => z), fun _ z => z.elim⟩
  | [], _ :: _, _, _, _, h, _, _, _ => by simp at h
  | _ :: _, [], _, _, _, h, _, _, _ => by simp at h
  | b :: keep, v :: vs, [], _, _, _, _, _, h => by simp at h
  | b :: keep, v :: vs, s :: σ, env, S, hl, r, hk, hle => by
    cases r with
    | @cons _ t _ env _ S1 S2 r q d hS =>
      obtain ⟨S', g1, g2⟩ := outs_rep (keep := keep) (vs := vs) (by simpa using hl) q (fun i w h1 h2 => by simpa using hk (i + 1) w (by simpa using h1) (by simpa using h2)) (by simpa using hle)
      cases b with
      | false =>
        refine ⟨S', ?_, fun x z => (hS x).mpr (.inr (g2 x z))⟩
        rw [outs, if_neg Bool.false_ne_true]
        exact .cons (S1 := Emp) (S2 := S') (.no fun _ z => z) g1 emp_dj fun x => ⟨.inr, fun z => z.elim (fun z => z.elim) id⟩
      | true =>
        have e := hk 0 v rfl rfl
        simp at e
        subst e
        refine ⟨Cup S1 S', ?_, fun x z => z.elim (fun z => (hS x).mpr (.inl z)) fun z => (hS x).mpr (.inr (g2 x z))⟩
        rw [outs, if_pos rfl]
        exact .cons r g1 (fun x a b => d x a (g2 x b)) fun _ => Iff.rfl
end
section
variable {P : Program} {w : World} {K : PySem.W.Frag} {mg : Mg} {base : Heap}
theorem def_end {n : Nat} {N ps : List Str} {W : List Nat} {d : DS} {keep : List Bool} {vs : List V} {H : Hp} {Q : VK} {E : XK} (hk : keep.length = ps.length) (hN : N.length = n) (hW : ∀ i ∈ W, keep[i]? ≠ some true) (h : spD K mg ps.length (dFun keep n d) vs H Q E) :
    tS K mg W d { nx := fun _ H' => Q .non H', rt := Q } (L2.start N vs) H := by
  obtain ⟨hl, F0, S0, ts, r, ts', le, rp, hf, q⟩ := h
  have hln : N.length - vs.length = n - keep.length := by rw [hN, hl, hk]
  have hst : StR K mg F0 H (L2.start N vs) (ts ++ List.replicate (n - keep.length) .no) S0 := by
    unfold L2.start
    rw [hln]
    exact start_rep rp
  have tail : ∀ {σ' : L2.St} {e : List T} {F' H' : Hp} {S' R : AS} {v : V}, Stp F0 H S0 F' H' (Cup S' R) → Ok K mg F' H' σ' e S' → Off W (L2.start N vs) σ' → Dj S' R → outs keep e = ts' → Rep K mg F' H' v r R → Q v H' := by
    intro σ' e F' H' S' R v st ok of dj ho rv
    have hkv : keep.length = vs.length := by rw [hk, hl]
    have hlen : vs.length ≤ σ'.length := by
      rw [of.len]
      unfold L2.start
      simp
    obtain ⟨S'', g1, g2⟩ := outs_rep hkv ok.st (fun i v h1 h2 => by
      have hn : i ∉ W := fun z => hW i z h1
      rw [of.at_ i hn]
      unfold L2.start
      obtain ⟨h3, h4⟩ := List.getElem?_eq_some_iff.mp h2
      rw [List.getElem?_append_left (by simpa using h3)]
      simp [h4, h3]) hlen
    exact q v F' H' R S'' (st.weak fun x z => z.elim .inr fun z => .inl (g2 x z)) ok.le rv (by rw [← ho]; exact g1) fun x a b => dj x (g2 x b) a
  unfold dFun at hf
  split at hf
  · split at hf
    · rename_i t e h1
      cases hf
      exact ⟨F0, _, S0, _, _, ⟨le, hst⟩, h1, fun F' H' S' R σ' st ok of dj v rv => tail st ok of dj rfl rv⟩
    · rename_i e h1
      cases hf
      exact ⟨F0, _, S0, _, _, ⟨le, hst⟩, h1, fun F' H' S' R σ' st ok of dj => tail (R := Emp) (st.weak fun _ z => z.elim .inl fun z => z.elim) ok of dj_emp rfl (.lf rfl fun _ z => z)⟩
    · cases hf
  · cases hf
theorem ok_def {n : Nat} {x qual : Str} {st : Stmt} {f : Addr} {fd : FuncData} {N ps : List Str} {k : Nat} {W : List Nat} {d : DS} {keep : List Bool} (F : Fun K x qual st f fd) (S : FnScope N ps (defScope st)) (hk : keep.length = ps.length) (hN : N.length = n) (hW : ∀ i ∈ W, keep[i]? ≠ some true)
    (hb : ∀ (cdv : Value) (A : Around) (outer : List Env) (s : Shared) (H : Hp) (E : XK), Room k (A.deeper (envOfC qual (defScope st) s.heap.objs.size f cdv)) →
      SSs (cxOf CX0 P w K mg base N qual (defScope st) f cdv A outer s H E).nox (defBody st) W d) : FnOk P w K mg base CX0 (k + 1) f fd ps (spD K mg ps.length (dFun keep n d)) := by
  refine F.ok S (fun vs H Q E h => h.1) (fun cdv A outer s H vs Q E hr h => ?_)
  exact ⟨_, hb cdv A outer s H E hr, def_end hk hN hW h⟩
end
end Tr


set_option Elab.async false
set_option linter.all false
set_option maxRecDepth 100000
set_option maxHeartbeats 4000000
/-! D8: what is walked; comprehensions. -/
namespace Tr
open PySem PySem.Spec PyProof.Rows L2

section
variable {K : PySem.W.Frag} {mg : Mg} {F H : Hp}
/-- a range -/
def dRng (d : DE) : DI := fun env => match d env with
  | some (.lf (.int j), e) => if -(2 ^ 62) ≤ j ∧ j < 2 ^ 62 then some ((List.range j.toNat).map fun (k : Nat) => lfI k, e) else none
  | _ => none
def dRng2 (a b : DV) : DI := fun env => match a env, b env with
  | some (.lf (.int i)), some (.lf (.int j)) => if (-(2 ^ 62) ≤ i ∧ i < 2 ^ 62) ∧ -(2 ^ 62) ≤ j ∧ j < 2 ^ 62 then some ((List.range (j - i).toNat).map fun (k : Nat) => lfI (i + k), env) else none
  | _, _ => none
theorem good_rng {lo : Int} {n : Nat} {S : AS} : Good K mg ((List.range n).map fun (k : Nat) => lfI (lo + k)) (Itr lo n) F H S := fun i F2 H2 S2 st le => by
  refine ⟨fun t h => ?_, fun h => by
    have h' : n ≤ i := by simpa using h
    exact h'⟩
  have hi : i < n := by
    have := (List.getElem?_eq_some_iff.mp h).1
    simpa using this
  rw [List.getElem?_map, List.getElem?_range hi] at h
  cases h
  refine ⟨hi, fun x H3 y => ?_⟩
  obtain ⟨e1, e2⟩ := y
  subst e1 e2
  exact ⟨F2, .refl, le, .lf rfl fun _ z => z⟩
theorem si_rng {X : Cx} {tg e : Expr} {d : DE} {p pos : Pos} (hg : Gl X "range") (hm : X.mg "range" = none) (ha : SR X e d) (hs : starEach [e] X.env = [(false, eval e X.env)] := by rfl) : SI X tg (.Call (.Name "range" p) [e] [] pos) (dRng d) :=
  piw (pi_range1 hg hm (pa_cons ha pa_nil hs) hs) fun σ H R ⟨F, env, S, its, env', ok, hd, q⟩ => by
    unfold dRng at hd
    split at hd
    · rename_i j e1 h1
      split at hd
      · rename_i hj
        cases hd
        refine ⟨F, env, S, _, _, ok, h1, fun v F1 H1 S1 R1 st ok1 r => ⟨j, by rw [r.lf_inv.1], hj.1, hj.2, ?_⟩⟩
        refine q (Itr 0 j.toNat) F1 H1 S1 st ok1 ?_
        have := good_rng (K := X.K) (mg := X.mg) (F := F1) (H := H1) (lo := 0) (n := j.toNat) (S := S1)
        simpa using this
      · cases hd
    · cases hd
theorem si_rng2 {X : Cx} {tg a b : Expr} {da db : DV} {p pos : Pos} (hg : Gl X "range") (hm : X.mg "range" = none) (ha : SV X a da) (hb : SV X b db) (hs : starEach [a, b] X.env = [(false, eval a X.env), (false, eval b X.env)] := by rfl) (hs2 : starEach [b] X.env = [(false, eval b X.env)] := by rfl) :
    SI X tg (.Call (.Name "range" p) [a, b] [] pos) (dRng2 da db) :=
  piw (pi_range2 hg hm (pa_cons ha (pa_cons hb pa_nil hs2) (hs.trans (by rw [hs2]))) hs hs2) fun σ H R ⟨F, env, S, its, env', ok, hd, q⟩ => by
    unfold dRng2 at hd
    split at hd
    · rename_i i j h1 h2
      split at hd
      · rename_i hj
        cases hd
        refine ⟨F, _, S, _, ok, h1, fun v R1 r1 => ⟨F, _, S, _, ok, h2, fun w R2 r2 => ⟨i, j, by rw [r1.lf_inv.1, r2.lf_inv.1], ⟨hj.1.1, hj.1.2, hj.2.1, hj.2.2⟩, ?_⟩⟩⟩
        exact q (Itr i (j - i).toNat) F H S .refl ok good_rng
      · cases hd
    · cases hd

/-! ### lists, tuples -/
/-- where a node stands is nobody else's -/
theorem Rep.stays {v : V} {o : Bool} {k : Kd} {xs : List T} {R S : AS} (le : Le F H) (r : Rep K mg F H v (.nd o k xs) R) (dj : Dj S R) (hS : ∀ x, S x → F x = none) :
    ∃ a vs S0, v = .ref a ∧ Reps K mg F H vs xs S0 ∧ (∀ x, S0 x → R x) ∧ ∀ F2 H2 S2, Stp F H S F2 H2 S2 → Le F2 H2 → Here K mg H2 a k vs := by
  cases r with
  | own h1 h2 c r na hS' => exact ⟨_, _, _, rfl, r, fun x z => (hS' x).mpr (.inr z), fun F2 H2 S2 st le2 => .of (st.kp _ _ h1 fun z => dj _ z ((hS' _).mpr (.inl rfl))) c⟩
  | frz h c r => exact ⟨_, _, _, rfl, r, fun _ z => z, fun F2 H2 S2 st le2 => .of (le2 _ _ (st.ff _ _ h)) c⟩
  | rol h r => exact ⟨_, _, _, rfl, r, fun _ z => z, fun F2 H2 S2 st le2 => (st.ff.trans le2).sqL h⟩
  | rot h r => exact ⟨_, _, _, rfl, r, fun _ z => z, fun F2 H2 S2 st le2 => (st.ff.trans le2).sqT h⟩
def itemsL : T → Option (List T)
  | .nd _ .lst xs => some (frzs xs)
  | .nd _ .rol xs => some (frzs xs)
  | _ => none
def itemsT : T → Option (List T)
  | .nd _ .tup xs => some (frzs xs)
  | .nd _ .rot xs => some (frzs xs)
  | _ => none
def dIt (f : T → Option (List T)) (d : DE) : DI := fun env => (d env).bind fun p => (f p.1).map fun its => (its, p.2)
theorem frzs_get {xs : List T} {i : Nat} {t : T} (h : (frzs xs)[i]? = some t) : ∃ u, xs[i]? = some u ∧ t = frz u := by
  rw [frzs_map, List.getElem?_map] at h
  obtain ⟨u, h1, h2⟩ := Option.map_eq_some_iff.mp h
  exact ⟨u, h1, h2.symm⟩
mutual
theorem cln_frz : ∀ t : T, cln (frz t) = true
  | .no => by rw [frz, cln]
  | .lf _ => by rw [frz, cln]
  | .nd _ _ xs => by rw [frz, cln, clns_frz xs]; rfl
theorem clns_frz : ∀ ts : List T, clns (frzs ts) = true
  | [] => by rw [frzs, clns]
  | t :: ts => by rw [frzs, clns, cln_frz t, clns_frz ts]; rfl
end
mutual
theorem frz_cln : ∀ t : T, cln t = true → frz t = t
  | .no, _ => by rw [frz]
  | .lf _, _ => by rw [frz]
  | .nd o k xs, h => by
    simp only [cln, Bool.and_eq_true, Bool.not_eq_true'] at h
    rw [frz, frzs_cln xs h.2, h.1]
theorem frzs_cln : ∀ ts : List T, clns ts = true → frzs ts = ts
  | [], _ => by rw [frzs]
  | t :: ts, h => by
    simp only [clns, Bool.and_eq_true] at h
    rw [frzs, frz_cln t h.1, frzs_cln ts h.2]
end
/-- the things of a value of one's own, all frozen -/
theorem items_frozen {σ : L2.St} {env : List T} {F0 H0 : Hp} {S0 S R : AS} {v : V} {o : Bool} {k : Kd} {xs : List T} (st : Stp F0 H0 S0 F H (Cup S R)) (ok : Ok K mg F H σ env S) (r : Rep K mg F H v (.nd o k xs) R) (dj : Dj S R) :
    ∃ F' a vs, v = .ref a ∧ Stp F0 H0 S0 F' H S ∧ Ok K mg F' H σ env S ∧ Reps K mg F' H vs (frzs xs) Emp ∧ ∀ F2 H2 S2, Stp F' H S F2 H2 S2 → Le F2 H2 → Here K mg H2 a k vs := by
  have ff := frF_le (A := R) ok.le
  have stF : Stp F H (Cup S R) (frF F H R) H S := frF_stp ok.le (fun _ z => .inr z) fun _ z => .inl z
  have stF' : Stp F H R (frF F H R) H Emp := frF_stp ok.le (fun _ z => z) fun _ z => z.elim
  have ok' := ok.keep stF' dj.symm ff.2
  have r' : Rep K mg (frF F H R) H v (frz (.nd o k xs)) Emp := r.freeze ff.1 (fun x z => frF_in z) fun _ z => z
  rw [frz] at r'
  obtain ⟨a, vs, S1, rfl, p, hs, hr⟩ := r'.stays (S := S) ff.2 dj_emp fun x z => (ok'.st.dom x z).2
  exact ⟨frF F H R, a, vs, rfl, st.trans stF, ok', p.clean0 (clns_frz xs), hr⟩
theorem good_list {a : Addr} {vs : List V} {its : List T} {S : AS} (r : Reps K mg F H vs its Emp) (hr : ∀ F2 H2 S2, Stp F H S F2 H2 S2 → Le F2 H2 → SqL K H2 a vs) : Good K mg its (Itl K a) F H S := fun i F2 H2 S2 st le => by
  have hq := hr F2 H2 S2 st le
  refine ⟨fun t h => ?_, fun h => ⟨vs, hq, by rw [r.length (S := Emp)]; exact h⟩⟩
  obtain ⟨v, R, e1, e2, e3⟩ := r.get h
  refine ⟨⟨vs, v, hq, e1⟩, fun x H3 y => ?_⟩
  obtain ⟨e4, y⟩ := y
  subst e4
  have e5 := (y vs hq).symm.trans e1
  cases e5
  exact ⟨F2, .refl, le, (e2.iff (S' := Emp) fun x => ⟨fun z => z.elim, fun z => e3 x z⟩).frame st.ff fun _ z => z.elim⟩
theorem good_tup {a : Addr} {vs : List V} {its : List T} {S : AS} (r : Reps K mg F H vs its Emp) (hr : ∀ F2 H2 S2, Stp F H S F2 H2 S2 → Le F2 H2 → SqT K H2 a vs) : Good K mg its (Itt K a) F H S := fun i F2 H2 S2 st le => by
  have hq := hr F2 H2 S2 st le
  refine ⟨fun t h => ?_, fun h => ⟨vs, hq, by rw [r.length (S := Emp)]; exact h⟩⟩
  obtain ⟨v, R, e1, e2, e3⟩ := r.get h
  refine ⟨⟨vs, v, hq, e1⟩, fun x H3 y => ?_⟩
  obtain ⟨e4, y⟩ := y
  subst e4
  have e5 := (y vs hq).symm.trans e1
  cases e5
  exact ⟨F2, .refl, le, (e2.iff (S' := Emp) fun x => ⟨fun z => z.elim, fun z => e3 x z⟩).frame st.ff fun _ z => z.elim⟩
theorem dIt_some {f : T → Option (List T)} {d : DE} {env its e : List T} (h : dIt f d env = some (its, e)) : ∃ t, d env = some (t, e) ∧ f t = some its := by
  obtain ⟨⟨t, e1⟩, h1, h2⟩ := Option.bind_eq_some_iff.mp h
  obtain ⟨its', h3, h4⟩ := Option.map_eq_some_iff.mp h2
  cases h4
  exact ⟨t, h1, h3⟩
theorem itemsL_some {t : T} {its : List T} (h : itemsL t = some its) : ∃ o k xs, t = .nd o k xs ∧ its = frzs xs ∧ ∀ (K : PySem.W.Frag) (mg : Mg) (H : Hp) (a : Addr) (vs : List V), Here K mg H a k vs → SqL K H a vs := by
  unfold itemsL at h
  split at h
  · cases h; exact ⟨_, _, _, rfl, rfl, fun _ _ _ _ _ z => SqL.of z⟩
  · cases h; exact ⟨_, _, _, rfl, rfl, fun _ _ _ _ _ z => z⟩
  · cases h
theorem itemsT_some {t : T} {its : List T} (h : itemsT t = some its) : ∃ o k xs, t = .nd o k xs ∧ its = frzs xs ∧ ∀ (K : PySem.W.Frag) (mg : Mg) (H : Hp) (a : Addr) (vs : List V), Here K mg H a k vs → SqT K H a vs := by
  unfold itemsT at h
  split at h
  · cases h; exact ⟨_, _, _, rfl, rfl, fun _ _ _ _ _ z => SqT.of z⟩
  · cases h; exact ⟨_, _, _, rfl, rfl, fun _ _ _ _ _ z => z⟩
  · cases h
theorem si_list {X : Cx} {tg l : Expr} {d : DE} (hl : SE X l d) : SI X tg l (dIt itemsL d) := piw (pi_list hl) fun σ H Rk ⟨F, env, S, its, e, ok, hd, q⟩ => by
  obtain ⟨t, h1, h2⟩ := dIt_some hd
  obtain ⟨o, k, xs, rfl, rfl, hk⟩ := itemsL_some h2
  refine ⟨F, env, S, _, e, ok, h1, fun v F1 H1 S1 R1 st ok1 r dj => ?_⟩
  obtain ⟨F', a, vs, rfl, st', ok', p, hr⟩ := items_frozen st ok1 r dj
  exact ⟨a, rfl, ⟨vs, hk _ _ _ _ _ (hr F' H1 S1 .refl ok'.le)⟩, q _ F' H1 S1 st' ok' (good_list p fun F2 H2 S2 s l => hk _ _ _ _ _ (hr F2 H2 S2 s l))⟩
theorem si_tup {X : Cx} {tg l : Expr} {d : DE} (hl : SE X l d) : SI X tg l (dIt itemsT d) := piw (pi_tup hl) fun σ H Rk ⟨F, env, S, its, e, ok, hd, q⟩ => by
  obtain ⟨t, h1, h2⟩ := dIt_some hd
  obtain ⟨o, k, xs, rfl, rfl, hk⟩ := itemsT_some h2
  refine ⟨F, env, S, _, e, ok, h1, fun v F1 H1 S1 R1 st ok1 r dj => ?_⟩
  obtain ⟨F', a, vs, rfl, st', ok', p, hr⟩ := items_frozen st ok1 r dj
  exact ⟨a, rfl, ⟨vs, hk _ _ _ _ _ (hr F' H1 S1 .refl ok'.le)⟩, q _ F' H1 S1 st' ok' (good_tup p fun F2 H2 S2 s l => hk _ _ _ _ _ (hr F2 H2 S2 s l))⟩
/-- a text, sign by sign -/
def itemsS : T → Option (List T)
  | .lf (.str x) => some (x.cps.toList.map fun c => .lf (.str ⟨#[c]⟩))
  | _ => none
theorem si_str {X : Cx} {tg l : Expr} {d : DE} (hl : SR X l d) : SI X tg l (dIt itemsS d) := piw (pi_str hl) fun σ H Rk ⟨F, env, S, its, e, ok, hd, q⟩ => by
  obtain ⟨t, h1, h2⟩ := dIt_some hd
  unfold itemsS at h2
  split at h2
  · rename_i x
    cases h2
    refine ⟨F, env, S, _, e, ok, h1, fun v F1 H1 S1 R1 st ok1 r => ⟨x, r.lf_inv.1, q _ F1 H1 S1 st ok1 fun i F2 H2 S2 st2 le => ⟨fun t h => ?_, fun h => ?_⟩⟩⟩
    · have hi : i < x.cps.size := by
        have := (List.getElem?_eq_some_iff.mp h).1
        simpa using this
      refine ⟨hi, fun y H3 z => ?_⟩
      obtain ⟨e1, c, e2, e3⟩ := z
      subst e1 e3
      rw [List.getElem?_map] at h
      obtain ⟨c', h3, h4⟩ := Option.map_eq_some_iff.mp h
      have : c' = c := by
        have e2' : x.cps.toList[i]? = some c := by simpa using e2
        rw [e2'] at h3
        exact (Option.some.inj h3).symm
      subst this h4
      exact ⟨F2, .refl, le, .lf rfl fun _ z => z⟩
    · have : x.cps.size ≤ i := by simpa using h
      exact this
  · cases h2
end
end Tr


set_option Elab.async false
set_option linter.all false
set_option maxRecDepth 100000
set_option maxHeartbeats 4000000
/-! D9: list comprehensions. -/
namespace Tr
open PySem PySem.Spec PyProof.Rows L2

/-- the block's own slots emptied -/
def wipeT : List T → List Nat → List T
  | env, [] => env
  | env, v :: vs => (wipeT env vs).set v .no
/-- .. and given back -/
def backT (old : List T) : List T → List Nat → List T
  | env, [] => env
  | env, v :: vs => backT old (env.set v (old.getD v .no)) vs
/-- the slots hold nothing owned -/
def cleanAt (env : List T) (vs : List Nat) : Bool := vs.all fun v => decide (v < env.length) && cln (env.getD v .no)
/-- the turns: the things made so far -/
def dLr (dg : DG) (dc de : DE) (vs : List Nat) : List T → List T → List T → Option (List T × List T)
  | [], acc, env => some (acc, env)
  | t :: ts, acc, env => (dg t env).bind fun e => match dc e with
    | some (.lf (.bl true), e1) => (de e1).bind fun p => if acc.length < sizeLine then dLr dg dc de vs ts (acc ++ [p.1]) (wipeT p.2 vs) else none
    | some (.lf (.bl false), e1) => dLr dg dc de vs ts acc (wipeT e1 vs)
    | _ => none
def dLc (di : DI) (dg : DG) (dc de : DE) (vs : List Nat) : DE := fun env => (di env).bind fun p => if cleanAt p.2 vs = true then
  (dLr dg dc de vs p.1 [] (wipeT p.2 vs)).map fun q => (.nd true .lst q.1, backT p.2 q.2 vs) else none
section
variable {K : PySem.W.Frag} {mg : Mg} {F H : Hp} {σ : L2.St}
theorem wipe_rep {env : List T} {S : AS} (ok : Ok K mg F H σ env S) : ∀ vs : List Nat, ∃ S', Ok K mg F H (wipe σ vs) (wipeT env vs) S' ∧ ∀ x, S' x → S x
  | [] => ⟨S, ok, fun _ z => z⟩
  | v :: vs => by
    obtain ⟨S1, ok1, h1⟩ := wipe_rep ok vs
    by_cases hv : v < (wipeT env vs).length
    · obtain ⟨s, A, B, e1, e2, e3, e4, rest⟩ := ok1.st.split (List.getElem?_eq_getElem hv)
      refine ⟨Cup Emp B, ⟨ok.le, ?_⟩, fun x z => z.elim (fun z => z.elim) fun z => h1 x ((e4 x).mpr (.inr z))⟩
      exact rest F H none .no Emp (Le.refl _) (fun y z => ⟨rfl, (ok1.st.dom y ((e4 y).mpr (.inr z))).2⟩) ⟨rfl, fun _ z => z⟩ emp_dj
    · refine ⟨S1, ⟨ok.le, ?_⟩, h1⟩
      have hl := ok1.st.length
      rw [wipe, wipeT, List.set_eq_of_length_le (by omega), List.set_eq_of_length_le (by omega)]
      exact ok1.st
theorem wipeT_length (env : List T) : ∀ vs : List Nat, (wipeT env vs).length = env.length
  | [] => rfl
  | v :: vs => by rw [wipeT, List.length_set, wipeT_length env vs]
/-- what stands in the slots, clean, wherever one is -/
def SlotsOk (K : PySem.W.Frag) (mg : Mg) (F H : Hp) (σ : L2.St) (old : List T) (vs : List Nat) : Prop := ∀ v ∈ vs, ∃ s, σ[v]? = some s ∧ RepO K mg F H s (old.getD v .no) Emp
theorem slots_ok {env : List T} {S : AS} (ok : Ok K mg F H σ env S) {vs : List Nat} (c : cleanAt env vs = true) : SlotsOk K mg F H σ env vs := fun v hv => by
  have h := List.all_eq_true.mp c v hv
  simp only [Bool.and_eq_true, decide_eq_true_eq] at h
  obtain ⟨s, A, B, e1, e2, _⟩ := ok.st.split (List.getElem?_eq_getElem h.1)
  have e : env.getD v .no = env[v] := by rw [List.getD_eq_getElem?_getD, List.getElem?_eq_getElem h.1]; rfl
  refine ⟨s, e1, ?_⟩
  rw [e]
  rw [e] at h
  cases s with
  | none => exact ⟨e2.1, fun _ z => z⟩
  | some w => exact Rep.clean0 e2 h.2
theorem SlotsOk.stay {F' H' : Hp} {old : List T} {vs : List Nat} (ff : Le F F') (h : SlotsOk K mg F H σ old vs) : SlotsOk K mg F' H' σ old vs := fun v hv => by
  obtain ⟨s, e, r⟩ := h v hv
  exact ⟨s, e, r.frame ff fun _ z => z.elim⟩
theorem back_rep {old : List T} : ∀ {vs : List Nat} {env : List T} {S : AS}, vs.Nodup → Ok K mg F H (wipe σ vs) env S → SlotsOk K mg F H σ old vs → ∃ S', Ok K mg F H σ (backT old env vs) S' ∧ ∀ x, S' x → S x
  | [], env, S, _, ok, _ => ⟨S, ok, fun _ z => z⟩
  | v :: vs, env, S, nd, ok, so => by
    have nd' := List.nodup_cons.mp nd
    obtain ⟨s, e, r⟩ := so v (List.mem_cons_self ..)
    have hl := ok.st.length
    have hvσ : v < σ.length := (List.getElem?_eq_some_iff.mp e).1
    have hv : v < env.length := by rw [← hl, wipe_length]; exact hvσ
    obtain ⟨s0, A, B, e1, e2, e3, e4, rest⟩ := ok.st.split (List.getElem?_eq_getElem hv)
    have q := rest F H s (old.getD v .no) Emp (Le.refl _) (fun y z => ⟨rfl, (ok.st.dom y ((e4 y).mpr (.inr z))).2⟩) r emp_dj
    have es : (wipe σ (v :: vs)).set v s = wipe σ vs := by
      rw [wipe, List.set_set]
      exact set_self' ((wipe_out nd'.1).trans e)
    rw [es] at q
    obtain ⟨S2, ok2, h2⟩ := back_rep nd'.2 ⟨ok.le, q⟩ fun w hw => so w (List.mem_cons_of_mem _ hw)
    exact ⟨S2, ok2, fun x z => (h2 x z).elim (fun z => z.elim) fun z => (e4 x).mpr (.inr z)⟩
/-- a thing put behind a list of one's own -/
theorem snoc_rep {D : Addr} {acc : List V} {ts : List T} {RD R : AS} {y : V} {t : T} (h1 : H D = some (.lst acc)) (h2 : F D = none) (rs : Reps K mg F H acc ts RD) (nD : ¬ RD D) (r : Rep K mg F H y t R) (dj : Dj RD R) (nR : ¬ R D) :
    Reps K mg F (upd H D (.lst (acc ++ [y]))) (acc ++ [y]) (ts ++ [t]) (Cup RD R) := by
  have up : ∀ x, Cup RD R x → upd H D (.lst (acc ++ [y])) x = H x ∧ F x = none := fun x z => by
    have hx : x ≠ D := fun e => z.elim (fun z => nD (e ▸ z)) fun z => nR (e ▸ z)
    exact ⟨upd_ne hx, z.elim (fun z => (rs.dom x z).2) fun z => (r.dom x z).2⟩
  have one : Reps K mg F H [y] [t] R := .cons (S1 := R) (S2 := Emp) r (.nil fun _ z => z) dj_emp fun x => ⟨.inl, fun z => z.elim id fun z => z.elim⟩
  exact (Reps.append one rs dj).frame (Le.refl _) up
/-- a written list is a step of its own custody -/
theorem write_step {D : Addr} {o : HO} {S : AS} (hD : S D) : Stp F H S F (upd H D o) S :=
  ⟨Le.refl _, fun a o' e n => by rw [upd_ne fun z => n (by rw [z]; exact hD)]; exact e, fun _ _ e => .inl e, fun _ z => .inl z⟩
theorem wipe_in {τ : L2.St} {j : Nat} : ∀ {vs : List Nat}, j ∈ vs → (wipe τ vs)[j]? = if j < τ.length then some none else none
  | [], h => by simp at h
  | v :: vs, h => by
    rw [wipe]
    by_cases e : v = j
    · subst e
      by_cases hlt : v < τ.length
      · rw [if_pos hlt, List.getElem?_set_self (by rw [wipe_length]; exact hlt)]
      · rw [if_neg hlt, List.getElem?_eq_none (by rw [List.length_set, wipe_length]; omega)]
    · rw [List.getElem?_set_ne e]
      exact wipe_in ((List.mem_cons.mp h).elim (fun z => (e z.symm).elim) id)
theorem wipe_off {τ : L2.St} {vs W : List Nat} (of : Off W (wipe σ vs) τ) (hW : ∀ i ∈ W, i ∈ vs) : wipe τ vs = wipe σ vs := by
  refine List.ext_getElem? fun j => ?_
  have hl : τ.length = σ.length := of.len.trans (wipe_length _ _)
  by_cases hj : j ∈ vs
  · rw [wipe_in hj, wipe_in hj, hl]
  · rw [wipe_out hj, of.at_ j fun z => hj (hW j z)]
theorem lc_imp {di : DI} {dg : DG} {dc de : DE} {vs W : List Nat} {tt : TT} {Q : VK} (nd : vs.Nodup) (hW : ∀ i ∈ W, i ∈ vs) (htt : ∀ σ H Q, tTest (tR K mg dc) σ H Q → tt σ H Q) (h : tE K mg (dLc di dg dc de vs) σ H Q) :
    tLc (tI K mg di) (tG K mg W dg) tt (tE K mg de) vs σ H Q := by
  obtain ⟨F, env, S, t, env', ok, hd, q⟩ := h
  obtain ⟨⟨its, e0⟩, h1, h2⟩ := Option.bind_eq_some_iff.mp hd
  split at h2
  · rename_i hc
    obtain ⟨⟨acc, e9⟩, h3, h4⟩ := Option.map_eq_some_iff.mp h2
    cases h4
    refine ⟨F, env, S, its, e0, ok, h1, fun J F1 H1 S1 st1 ok1 good => fun D hD => ?_⟩
    have so1 := slots_ok ok1 hc
    have fD : F1 D = none := ok1.le.nn hD
    have sD : ¬ S1 D := fun z => by obtain ⟨⟨o, e⟩, _⟩ := ok1.st.dom D z; rw [hD] at e; cases e
    -- the new list
    have st2 : Stp F1 H1 Emp F1 (upd H1 D (.lst [])) (fun y => y = D) := ⟨Le.refl _, fun a o e _ => by rw [upd_ne (ne_of_none e hD)]; exact e, fun _ _ e => .inl e, fun a e => .inr (by rw [e]; exact hD)⟩
    have le2 : Le F1 (upd H1 D (.lst [])) := fun a o e => st2.kp a o (ok1.le a o e) fun z => z
    obtain ⟨Sw, okw, subw⟩ := wipe_rep ok1 vs
    have okw2 := okw.keep st2 emp_dj le2
    -- the invariant of the turns
    refine ⟨fun i m H => m = its.length - i ∧ i ≤ its.length ∧ ∃ F2 e2 S2 accV accT RA, Stp F1 (upd H1 D (.lst [])) (Cup S1 (fun y => y = D)) F2 H (Cup S2 (Cup (fun y => y = D) RA)) ∧ Ok K mg F2 H (wipe σ vs) e2 S2 ∧
      H D = some (.lst accV) ∧ F2 D = none ∧ ¬ S2 D ∧ ¬ RA D ∧ Reps K mg F2 H accV accT RA ∧ Dj S2 RA ∧ dLr dg dc de vs (its.drop i) accT e2 = some (acc, e9), ⟨its.length, rfl, Nat.zero_le _, F1, wipeT e0 vs, Sw, [], [], Emp, ?_, okw2, upd_same, fD, fun z => sD (subw _ z), fun z => z, .nil fun _ z => z, dj_emp, h3⟩, ?_⟩
    · exact Stp.refl.weak fun x z => z.elim (fun z => .inl (subw x z)) fun z => .inr (z.elim id fun z => z.elim)
    rintro i m H2 ⟨rfl, hi, F2, e2, S2, accV, accT, RA, st3, ok3, hD3, fD3, sD3, rD3, rs3, dj3, hd3⟩
    -- from the good iterator's start to here
    have stg : Stp F1 H1 S1 F2 H2 (Cup S2 (Cup (fun y => y = D) RA)) := by
      have b1 := (st2.frameL S1)
      exact (b1.big fun x z => z.elim id fun z => z.elim).trans st3
    obtain ⟨g1, g2⟩ := good i F2 H2 _ stg ok3.le
    by_cases hlt : i < its.length
    · obtain ⟨go, yl⟩ := g1 _ (List.getElem?_eq_getElem hlt)
      rw [List.drop_eq_getElem_cons hlt, dLr] at hd3
      obtain ⟨e4, h5, h6⟩ := Option.bind_eq_some_iff.mp hd3
      refine .inr ⟨go, fun H' => ∃ F2 e2 S2 accV accT RA, Stp F1 (upd H1 D (.lst [])) (Cup S1 (fun y => y = D)) F2 H' (Cup S2 (Cup (fun y => y = D) RA)) ∧ Ok K mg F2 H' (wipe σ vs) e2 S2 ∧
        H' D = some (.lst accV) ∧ F2 D = none ∧ ¬ S2 D ∧ ¬ RA D ∧ Reps K mg F2 H' accV accT RA ∧ Dj S2 RA ∧ dLr dg dc de vs (its.drop (i + 1)) accT e2 = some (acc, e9), fun H' z => ⟨its.length - (i + 1), by omega, rfl, hlt, z⟩, fun x H3 y => ?_⟩
      obtain ⟨F3, st4, le4, r4⟩ := yl x H3 y
      have ok4 := ok3.keep st4 emp_dj le4
      have rs4 := rs3.keep st4 emp_dj
      have hD4 : H3 D = some (.lst accV) := st4.kp _ _ hD3 fun z => z
      have fD4 : F3 D = none := (st4.keeps (R := fun y => y = D) (fun z e => by subst e; exact ⟨⟨_, hD3⟩, fD3⟩) emp_dj D rfl).2
      refine ⟨F3, e2, S2, Emp, its[i], e4, ok4, r4, dj_emp, h5, fun σ5 S5 ok5 sub5 of5 => ⟨?_, ?_⟩⟩
      · -- the block's slots alone were stored
        exact wipe_off of5 hW
      · have sub5' : ∀ z, S5 z → S2 z := fun z u => (sub5 z u).elim id fun u => u.elim
        have stA : Stp F1 (upd H1 D (.lst [])) (Cup S1 (fun y => y = D)) F3 H3 (Cup S5 (Cup (fun y => y = D) RA)) := by
          have b1 := (st4.frame (Cup S2 (Cup (fun y => y = D) RA))).big (R := Cup S2 (Cup (fun y => y = D) RA)) fun z u => u.elim (fun u => u.elim) id
          exact (st3.trans b1).weak fun z u => u.elim (fun u => .inr (.inl (sub5' z u))) fun u => .inr (.inr u)
        have cust : ∀ z, Cup (fun y => y = D) RA z → (∃ o, H3 z = some o) ∧ F3 z = none := fun z u => u.elim (fun e => by subst e; exact ⟨⟨_, hD4⟩, fD4⟩) fun u => rs4.dom z u
        have dj5 : Dj S5 (Cup (fun y => y = D) RA) := fun z a b => b.elim (fun e => sD3 (by rw [← e]; exact sub5' z a)) fun b => dj3 z (sub5' z a) b
        -- the wiping behind a turn
        have wp : ∀ {F6 H6 : Hp} {e6 : List T} {S6 : AS}, Ok K mg F6 H6 σ5 e6 S6 → ∃ S', Ok K mg F6 H6 (wipe σ vs) (wipeT e6 vs) S' ∧ ∀ x, S' x → S6 x := fun {F6 H6 e6 S6} ok6 => by
          obtain ⟨S', a, b⟩ := wipe_rep ok6 vs
          refine ⟨S', ?_, b⟩
          have ew : wipe σ5 vs = wipe σ vs := wipe_off of5 hW
          rw [← ew]
          exact a
        refine htt _ _ _ ?_
        split at h6
        · rename_i e6 h7
          obtain ⟨⟨t8, e8⟩, h8, h9⟩ := Option.bind_eq_some_iff.mp h6
          split at h9
          · rename_i hz
            refine ⟨F3, e4, S5, _, e6, ok5, h7, fun v F6 H6 S6 R6 st6 ok6 r6 => ⟨true, r6.lf_inv.1, iteT ?_⟩⟩
            refine ⟨F6, e6, S6, t8, e8, ok6, h8, fun y F7 H7 S7 R7 st7 ok7 r7 dj7 => ?_⟩
            have st67 : Stp F3 H3 S5 F7 H7 (Cup S7 R7) := st6.trans st7
            have k7 := st67.keeps cust dj5
            have hD7 : H7 D = some (.lst accV) := (k7 D (.inl rfl)).1.trans hD4
            have fD7 : F7 D = none := (k7 D (.inl rfl)).2
            have dj7' : Dj (Cup S7 R7) (Cup (fun y => y = D) RA) := st67.dj (fun z u => (cust z u).1) dj5
            have rs7 := rs4.keep st67 fun z a b => dj5 z a (.inr b)
            have nR7 : ¬ R7 D := fun z => dj7' D (.inr z) (.inl rfl)
            refine ⟨accV, hD7, by rw [rs7.length (S := Emp)]; exact hz, ?_⟩
            obtain ⟨S8, ok8, sub8⟩ := wp ok7
            have nS8 : ¬ S8 D := fun z => dj7' D (.inl (sub8 D z)) (.inl rfl)
            have rs8 := snoc_rep hD7 fD7 rs7 rD3 r7 (fun z a b => dj7' z (.inr b) (.inr a)) nR7
            have stw : Stp F7 H7 (fun y => y = D) F7 (upd H7 D (.lst (accV ++ [y]))) (fun y => y = D) := write_step rfl
            have ok9 := ok8.keep stw (fun z a b => nS8 (a ▸ b)) (fun a o e => by
              rw [upd_ne fun z => by rw [z, fD7] at e; cases e]
              exact ok7.le a o e)
            refine ⟨F7, _, S8, accV ++ [y], accT ++ [t8], Cup RA R7, ?_, ok9, upd_same, fD7, nS8, fun z => z.elim rD3 nR7, rs8, fun z a b => b.elim (fun b => dj7' z (.inl (sub8 z a)) (.inr b)) fun b => dj7 z (sub8 z a) b, h9⟩
            have b2 := st67.frame (Cup (fun y => y = D) RA)
            have b3 : Stp F7 H7 (Cup (Cup S7 R7) (Cup (fun y => y = D) RA)) F7 (upd H7 D (.lst (accV ++ [y]))) (Cup (Cup S7 R7) (Cup (fun y => y = D) RA)) := write_step (.inr (.inl rfl))
            refine (stA.trans (b2.trans b3)).weak fun z u => ?_
            rcases u with u | u | u | u
            · exact .inl (.inl (sub8 z u))
            · exact .inr (.inl u)
            · exact .inr (.inr u)
            · exact .inl (.inr u)
          · cases h9
        · rename_i e6 h7
          refine ⟨F3, e4, S5, _, e6, ok5, h7, fun v F6 H6 S6 R6 st6 ok6 r6 => ⟨false, r6.lf_inv.1, iteF ?_⟩⟩
          have k6 := st6.keeps cust dj5
          have dj6' : Dj S6 (Cup (fun y => y = D) RA) := st6.dj (fun z u => (cust z u).1) dj5
          obtain ⟨S8, ok8, sub8⟩ := wp ok6
          refine ⟨F6, _, S8, accV, accT, RA, ?_, ok8, (k6 D (.inl rfl)).1.trans hD4, (k6 D (.inl rfl)).2, fun z => dj6' D (sub8 D z) (.inl rfl), rD3, rs4.keep st6 fun z a b => dj5 z a (.inr b), fun z a b => dj6' z (sub8 z a) (.inr b), h6⟩
          exact (stA.trans (st6.frame (Cup (fun y => y = D) RA))).weak fun z u => u.elim (fun u => .inl (sub8 z u)) .inr
        · cases h6
    · have e : i = its.length := by omega
      subst e
      rw [List.drop_length] at hd3
      cases hd3
      refine .inl ⟨g2 (Nat.le_refl _), ?_⟩
      obtain ⟨S9, ok9, sub9⟩ := back_rep nd ok3 (so1.stay (stg.ff))
      refine q (.ref D) F2 H2 S9 (Cup (fun y => y = D) RA) ((st1.trans stg).weak fun z u => u.elim (fun u => .inl (sub9 z u)) .inr) ok9 (.own hD3 fD3 rfl rs3 rD3 fun _ => Iff.rfl) fun z a b => b.elim (fun e => sD3 (by rw [← e]; exact sub9 z a)) fun b => dj3 z (sub9 z a) b
  · cases h2
end
/-- no if -/
def dYes : DE := vr (gC (.bl true))
theorem yes_imp {K : PySem.W.Frag} {mg : Mg} (σ : L2.St) (H : Hp) (Q : Bool → Hp → Prop) (h : tTest (tR K mg dYes) σ H Q) : tYes σ H Q := by
  obtain ⟨F, env, S, t, e, ok, hd, q⟩ := h
  cases hd
  obtain ⟨k, e1, e2⟩ := q (.bl true) F H S Emp .refl ok (.lf rfl fun _ z => z)
  cases e1
  exact e2
section
variable {X : Cx} {elt tg iter c : Expr} {scope : Scope} {own : List (Str × Nat)} {pos : Pos} {W vs : List Nat} {di : DI} {dg : DG} {dc de : DE}
theorem se_lc (hc : X.calm = true) (hN : X.N.Nodup) (hi : SI X tg iter di) (ok : BlkOk X.N X.env.scope scope own) (hvs : own.map (·.2) = vs) (nd : vs.Nodup) (hW : ∀ i ∈ W, i ∈ vs)
    (hg : ∀ (s : Shared) (H : Hp) (C : Addr) (cl : List (Str × Addr)) (fp : List Addr), SG (X.blk s H scope (compEnvC scope cl C X.env) fp) tg W dg)
    (he : ∀ (s : Shared) (H : Hp) (C : Addr) (cl : List (Str × Addr)) (fp : List Addr), SE (X.blk s H scope (compEnvC scope cl C X.env) fp) elt de) (hs : ∀ x, foldedSetIterable iter X.env x = pure x := by intro _; rfl) :
    SE X (.ListComp elt [⟨tg, iter, [], 0⟩] scope pos) (dLc di dg dYes de vs) := by
  subst hvs
  exact pew (pe_lc (g := tG X.K X.mg W dg) (tt := tYes) (te := tE X.K X.mg de) hc hN hi ok hg (fun _ _ _ _ _ => pts_nil) he hs) fun _ _ _ h => lc_imp nd hW yes_imp h
theorem se_lcIf (hc : X.calm = true) (hN : X.N.Nodup) (hi : SI X tg iter di) (ok : BlkOk X.N X.env.scope scope own) (hvs : own.map (·.2) = vs) (nd : vs.Nodup) (hW : ∀ i ∈ W, i ∈ vs)
    (hg : ∀ (s : Shared) (H : Hp) (C : Addr) (cl : List (Str × Addr)) (fp : List Addr), SG (X.blk s H scope (compEnvC scope cl C X.env) fp) tg W dg)
    (ht : ∀ (s : Shared) (H : Hp) (C : Addr) (cl : List (Str × Addr)) (fp : List Addr), ST (X.blk s H scope (compEnvC scope cl C X.env) fp) c dc)
    (he : ∀ (s : Shared) (H : Hp) (C : Addr) (cl : List (Str × Addr)) (fp : List Addr), SE (X.blk s H scope (compEnvC scope cl C X.env) fp) elt de) (hs : ∀ x, foldedSetIterable iter X.env x = pure x := by intro _; rfl) :
    SE X (.ListComp elt [⟨tg, iter, [c], 0⟩] scope pos) (dLc di dg dc de vs) := by
  subst hvs
  exact pew (pe_lc (g := tG X.K X.mg W dg) (tt := tTest (tR X.K X.mg dc)) (te := tE X.K X.mg de) hc hN hi ok hg (fun s H C cl fp => pts_one (ht s H C cl fp)) he hs) fun _ _ _ h => lc_imp nd hW (fun _ _ _ z => z) h
theorem ss_setLc {i : Nat} {y : Str} {py : Pos} {spos : Pos} (hc : X.calm = true) (hN : X.N.Nodup) (hy : X.N[i]? = some y) (hyl : X.env.scope.names.lookup y = some .local)
    (hsw : swapsWith (.ListComp elt [⟨tg, iter, [], 0⟩] scope pos) (some (.Name y py)) spos.line X.env = pure true) (hi : SI X tg iter di) (ok : BlkOk X.N X.env.scope scope own) (hvs : own.map (·.2) = vs) (nd : vs.Nodup) (hW : ∀ i ∈ W, i ∈ vs)
    (hg : ∀ (s : Shared) (H : Hp) (C : Addr) (cl : List (Str × Addr)) (fp : List Addr), SG (X.blk s H scope (compEnvC scope cl C X.env) fp) tg W dg)
    (he : ∀ (s : Shared) (H : Hp) (C : Addr) (cl : List (Str × Addr)) (fp : List Addr), SE (X.blk s H scope (compEnvC scope cl C X.env) fp) elt de) (hs : ∀ x, foldedSetIterable iter X.env x = pure x := by intro _; rfl) :
    SS X (.Assign [.Name y py] (.ListComp elt [⟨tg, iter, [], 0⟩] scope pos) spos) [i] (dSet i (dLc di dg dYes de vs)) :=
  by
  subst hvs
  exact psw (ps_setLc (g := tG X.K X.mg W dg) (tt := tYes) (te := tE X.K X.mg de) hc hN hy hyl hsw hi ok hg (fun _ _ _ _ _ => pts_nil) he hs) fun D σ H h => lc_imp nd hW yes_imp (set_imp h)
theorem ss_setLcIf {i : Nat} {y : Str} {py : Pos} {spos : Pos} (hc : X.calm = true) (hN : X.N.Nodup) (hy : X.N[i]? = some y) (hyl : X.env.scope.names.lookup y = some .local)
    (hsw : swapsWith (.ListComp elt [⟨tg, iter, [c], 0⟩] scope pos) (some (.Name y py)) spos.line X.env = pure true) (hi : SI X tg iter di) (ok : BlkOk X.N X.env.scope scope own) (hvs : own.map (·.2) = vs) (nd : vs.Nodup) (hW : ∀ i ∈ W, i ∈ vs)
    (hg : ∀ (s : Shared) (H : Hp) (C : Addr) (cl : List (Str × Addr)) (fp : List Addr), SG (X.blk s H scope (compEnvC scope cl C X.env) fp) tg W dg)
    (ht : ∀ (s : Shared) (H : Hp) (C : Addr) (cl : List (Str × Addr)) (fp : List Addr), ST (X.blk s H scope (compEnvC scope cl C X.env) fp) c dc)
    (he : ∀ (s : Shared) (H : Hp) (C : Addr) (cl : List (Str × Addr)) (fp : List Addr), SE (X.blk s H scope (compEnvC scope cl C X.env) fp) elt de) (hs : ∀ x, foldedSetIterable iter X.env x = pure x := by intro _; rfl) :
    SS X (.Assign [.Name y py] (.ListComp elt [⟨tg, iter, [c], 0⟩] scope pos) spos) [i] (dSet i (dLc di dg dc de vs)) :=
  by
  subst hvs
  exact psw (ps_setLc (g := tG X.K X.mg W dg) (tt := tTest (tR X.K X.mg dc)) (te := tE X.K X.mg de) hc hN hy hyl hsw hi ok hg (fun s H C cl fp => pts_one (ht s H C cl fp)) he hs) fun D σ H h => lc_imp nd hW (fun _ _ _ z => z) (set_imp h)
end
end Tr


set_option Elab.async false
set_option linter.all false
set_option maxRecDepth 100000
set_option maxHeartbeats 4000000
/-! D10: things changed in place. -/
namespace Tr
open PySem PySem.Spec PyProof.Rows L2

section
variable (K : PySem.W.Frag) (mg : Mg)
/-- a method that changes its receiver: what it hands back, the receiver behind it -/
def OpM (r : V → List V → Hp → VK → Prop) (op : T → List T → Option (T × T)) : Prop := ∀ (F H : Hp) (x : V) (t : T) (A : AS) (vs : List V) (ts : List T) (R : AS) (res t' : T) (Q : VK), Le F H → Rep K mg F H x t A → Reps K mg F H vs ts R → Dj A R → op t ts = some (res, t') →
  (∀ v H' A' Rv, Stp F H (Cup A R) F H' (Cup A' Rv) → Le F H' → Rep K mg F H' x t' A' → Rep K mg F H' v res Rv → Dj A' Rv → Q v H') → r x vs H Q
end
/-- the receiver is a list, a dict -/
def isTy (ty : String) : T → Bool
  | .nd _ .lst _ => ty == "list"
  | .nd _ (.dK _) _ => ty == "dict"
  | _ => false
/-- x.m(..): the name in slot i is changed -/
def dMut (ty : String) (i : Nat) (op : T → List T → Option (T × T)) (da : DA) : DE := fun env => match gV i env with
  | some t0 => if isTy ty t0 = true then (da env).bind fun p => match gV i p.2 with
    | some t => (op t p.1).map fun q => (q.1, p.2.set i q.2)
    | none => none
    else none
  | none => none
section
variable {K : PySem.W.Frag} {mg : Mg} {F H : Hp} {σ : L2.St}
theorem isTy_ok {ty : String} {v : V} {t : T} {R : AS} (le : Le F H) (r : Rep K mg F H v t R) (h : isTy ty t = true) : tyV K ty v H := by
  unfold isTy at h
  split at h
  · obtain ⟨a, vs, S0, rfl, _, _, hr⟩ := r.nd_inv le
    exact .inl ⟨by simpa using h, vs, SqL.of hr⟩
  · obtain ⟨a, vs, S0, rfl, _, _, hl, hr⟩ := r.nd_inv le
    exact .inr (.inr (.inl ⟨by simpa using h, .inl ⟨_, hr⟩⟩))
  · cases h
theorem dMut_some {ty : String} {i : Nat} {op : T → List T → Option (T × T)} {da : DA} {env : List T} {res : T} {e : List T} (h : dMut ty i op da env = some (res, e)) :
    ∃ t0 ts e1 t t', gV i env = some t0 ∧ isTy ty t0 = true ∧ da env = some (ts, e1) ∧ gV i e1 = some t ∧ op t ts = some (res, t') ∧ e = e1.set i t' := by
  unfold dMut at h
  split at h
  · rename_i t0 h0
    split at h
    · rename_i hi
      obtain ⟨⟨ts, e1⟩, h1, h2⟩ := Option.bind_eq_some_iff.mp h
      split at h2
      · rename_i t h3
        obtain ⟨⟨r', t'⟩, h4, h5⟩ := Option.map_eq_some_iff.mp h2
        cases h5
        exact ⟨t0, ts, e1, t, t', h0, hi, h1, h3, h4, rfl⟩
      · cases h2
    · cases h
  · cases h
/-- the end of a change in slot i -/
theorem mut_end {r : V → List V → Hp → VK → Prop} {op : T → List T → Option (T × T)} {F0 H0 : Hp} {S0 S R : AS} {i : Nat} {e1 : List T} {ts : List T} {vs : List V} {t t' res : T} {x : V} {Q : VK} (ho : OpM K mg r op) (st : Stp F0 H0 S0 F H (Cup S R)) (ok : Ok K mg F H σ e1 S) (rs : Reps K mg F H vs ts R) (dj : Dj S R) (hx : σ[i]? = some (some x)) (ht : gV i e1 = some t) (hop : op t ts = some (res, t'))
    (q : ∀ v F' H' S' R', Stp F0 H0 S0 F' H' (Cup S' R') → Ok K mg F' H' σ (e1.set i t') S' → Rep K mg F' H' v res R' → Dj S' R' → Q v H') : r x vs H Q := by
  obtain ⟨g1, g2⟩ := gV_some ht
  obtain ⟨v, A, B, ev, rx, d, hS, rest⟩ := ok.st.slot g1 g2
  rw [hx] at ev
  cases ev
  have djAR : Dj A R := fun y a b => dj y ((hS y).mpr (.inl a)) b
  refine ho F H x t A vs ts R res t' Q ok.le rx rs djAR hop fun w H' A' Rv stm le rx' rw' dj' => ?_
  have djB : Dj (Cup A R) B := fun y a b => a.elim (fun a => d y a b) fun a => dj y ((hS y).mpr (.inr b)) a
  have kB := stm.keeps (R := B) (fun y z => ok.st.dom y ((hS y).mpr (.inr z))) djB
  have djB' : Dj (Cup A' Rv) B := stm.dj (fun y z => (ok.st.dom y ((hS y).mpr (.inr z))).1) djB
  have hn := rest F H' (some x) t' A' (Le.refl _) kB rx' fun y a b => djB' y (.inl a) b
  rw [set_self' hx] at hn
  refine q w F H' (Cup A' B) Rv ?_ ⟨le, hn⟩ rw' fun y a b => a.elim (fun a => dj' y a b) fun a => djB' y (.inr b) a
  have b1 := stm.frame B
  have b2 : Stp F H (Cup S R) F H' (Cup (Cup A' Rv) B) := b1.big fun y z => z.elim (fun z => z.elim (fun z => .inl ((hS y).mpr (.inl z))) .inr) fun z => .inl ((hS y).mpr (.inr z))
  exact (st.trans b2).weak fun y z => z.elim (fun z => z.elim (fun z => .inl (.inl z)) .inr) fun z => .inl (.inr z)
theorem mut_imp {ty : String} {i : Nat} {r : V → List V → Hp → VK → Prop} {op : T → List T → Option (T × T)} {da : DA} {bs : List (Option Nat)} {Q : VK} (ho : OpM K mg r op) (h : tE K mg (dMut ty i op da) σ H Q) : tBM K ty r (tVar i) (tA K mg bs da) σ H Q := by
  obtain ⟨F, env, S, res, e, ok, hd, q⟩ := h
  obtain ⟨t0, ts, e1, t, t', h0, hi, h1, h2, h3, rfl⟩ := dMut_some hd
  obtain ⟨g1, g2⟩ := gV_some h0
  obtain ⟨x, A, B, ev, rx, _⟩ := ok.st.slot g1 g2
  exact ⟨x, ev, isTy_ok ok.le rx hi, F, env, S, ts, e1, ok, h1, fun vs F1 H1 S1 R st ok1 rs dj bo => mut_end ho st ok1 rs dj ev h2 h3 q⟩
theorem mut0_imp {ty : String} {i : Nat} {r : V → List V → Hp → VK → Prop} {op : T → List T → Option (T × T)} {Q : VK} (ho : OpM K mg r op) (h : tE K mg (dMut ty i op aNil) σ H Q) : tBM0 K ty r (tVar i) σ H Q := by
  obtain ⟨x, ev, ty, k⟩ := mut_imp (bs := []) ho h
  obtain ⟨F, env, S, ts, e, ok, hd, q⟩ := k
  cases hd
  exact ⟨x, ev, ty, q [] F H S Emp (Stp.refl.weak fun _ z => z.elim id fun z => z.elim) ok (.nil fun _ z => z) dj_emp fun j i h => by simp at h⟩
end
section
variable {X : Cx} {x : Str} {i : Nat} {e : Expr} {es : List Expr} {name : Str} {ty id : String} {px apos cpos : Pos} {r : V → List V → Hp → VK → Prop} {op : T → List T → Option (T × T)} {da : DA} {bs : List (Option Nat)}
theorem se_mut (pa : PlainAttrs ty) (slot : Slot ty name id) (hty : typeOf (.builtin id) = pure (.type "method_descriptor")) (hm : MtR X id r) (ho : OpM X.K X.mg r op) (ha : SA X (e :: es) bs da)
    (hN : X.N[i]? = some x := by rfl) (hv : Vis X.env.scope x := by first | exact Or.inl rfl | exact Or.inr (Or.inl rfl) | exact Or.inr (Or.inr rfl)) (hd : (x == ("__debug__" : Str)) = false := by decide) (hcd : (x == ("__classdict__" : Str)) = false := by decide)
    (hbase : attributeBase (.Name x px) name X.env (eval (.Name x px) X.env) = eval (.Name x px) X.env := by rfl)
    (hfew : ((backTo cpos (starEach (e :: es) X.env)).all (fun x => !x.1) && (backToKw cpos (keywordEach [] X.env)).all (fun x => x.1.isSome)
      && decide ((e :: es).length + ([] : List Keyword).length + (if ([] : List Keyword).isEmpty then 0 else 1) < 30)) = true := by rfl)
    (hline : (apos.endLine == cpos.line) = true := by rfl) (hs : starEach (e :: es) X.env = (false, eval e X.env) :: starEach es X.env := by rfl) (hplain : (backTo cpos (starEach es X.env)).any (·.1) = false := by rfl) :
    SE X (.Call (.Attribute (.Name x px) name apos) (e :: es) [] cpos) (dMut ty i op da) := pew (pe_bm pa slot hty hm (pe_var hN hv hd hcd) ha hbase hfew hline hs hplain) fun _ _ _ h => mut_imp ho h
theorem se_mut0 (pa : PlainAttrs ty) (slot : Slot ty name id) (hty : typeOf (.builtin id) = pure (.type "method_descriptor")) (hm : MtR X id r) (ho : OpM X.K X.mg r op)
    (hN : X.N[i]? = some x := by rfl) (hv : Vis X.env.scope x := by first | exact Or.inl rfl | exact Or.inr (Or.inl rfl) | exact Or.inr (Or.inr rfl)) (hd : (x == ("__debug__" : Str)) = false := by decide) (hcd : (x == ("__classdict__" : Str)) = false := by decide)
    (hbase : attributeBase (.Name x px) name X.env (eval (.Name x px) X.env) = eval (.Name x px) X.env := by rfl) (hline : (apos.endLine == cpos.line) = true := by rfl) :
    SE X (.Call (.Attribute (.Name x px) name apos) [] [] cpos) (dMut ty i op aNil) := pew (pe_bm0 pa slot hty hm (pe_var hN hv hd hcd) hbase hline) fun _ _ _ h => mut0_imp ho h
end

/-! ### the methods of a list -/
def mAppend : T → List T → Option (T × T)
  | .nd true .lst xs, [t] => if xs.length < sizeLine then some (.lf .non, .nd true .lst (xs ++ [t])) else none
  | _, _ => none
def mExtend : T → List T → Option (T × T)
  | .nd true .lst xs, [.nd _ .lst ys] => if xs.length + ys.length ≤ sizeLine then some (.lf .non, .nd true .lst (xs ++ ys)) else none
  | _, _ => none
def mPop : T → List T → Option (T × T)
  | .nd true .lst xs, [] => (xs[xs.length - 1]?).map fun t => (t, .nd true .lst xs.dropLast)
  | _, _ => none
def mReverse : T → List T → Option (T × T)
  | .nd true .lst xs, [] => some (.lf .non, .nd true .lst xs.reverse)
  | _, _ => none
def mClear : T → List T → Option (T × T)
  | .nd true .lst _, [] => some (.lf .non, .nd true .lst [])
  | _, _ => none
section
variable {K : PySem.W.Frag} {mg : Mg} {F H : Hp}
theorem Rep.own_inv {v : V} {k : Kd} {xs : List T} {R : AS} (r : Rep K mg F H v (.nd true k xs) R) : ∃ a o vs S0, v = .ref a ∧ H a = some o ∧ F a = none ∧ Cont mg k o vs ∧ Reps K mg F H vs xs S0 ∧ ¬ S0 a ∧ ∀ x, R x ↔ x = a ∨ S0 x := by
  cases r with
  | own h1 h2 c r na hS => exact ⟨_, _, _, _, rfl, h1, h2, c, r, na, hS⟩
theorem Reps.dropLast : ∀ {vs : List V} {ts : List T} {S : AS}, Reps K mg F H vs ts S → ∀ {t : T}, ts[ts.length - 1]? = some t → ∃ v A B, vs[vs.length - 1]? = some v ∧ Rep K mg F H v t A ∧ Reps K mg F H vs.dropLast ts.dropLast B ∧ Dj A B ∧ ∀ x, S x ↔ A x ∨ B x
  | _, _, _, .nil _, _, h => by simp at h
  | _, _, S, .cons (v := v) (t := t0) (vs := vs) (ts := ts) (S1 := S1) (S2 := S2) r q d hS, t, h => by
    cases q with
    | nil hn =>
      simp at h
      subst h
      exact ⟨v, S1, Emp, rfl, r, .nil fun _ z => z, dj_emp, fun x => by
        rw [hS x]
        exact ⟨fun z => z.elim .inl fun z => (hn x z).elim, fun z => z.elim .inl fun z => z.elim⟩⟩
    | @cons v2 t2 vs2 ts2 _ S3 S4 r2 q2 d2 hS2 =>
      have hh : (t2 :: ts2)[(t2 :: ts2).length - 1]? = some t := by simpa using h
      obtain ⟨w, A, B, e1, e2, e3, e4, e5⟩ := Reps.dropLast (Reps.cons r2 q2 d2 hS2) hh
      refine ⟨w, A, Cup S1 B, by simpa using e1, e2, ?_, fun x a b => b.elim (fun b => d x b ((e5 x).mpr (.inl a))) (e4 x a), fun x => ?_⟩
      · show Reps K mg F H (v :: (v2 :: vs2).dropLast) (t0 :: (t2 :: ts2).dropLast) (Cup S1 B)
        exact .cons r e3 (fun x a b => d x a ((e5 x).mpr (.inr b))) fun _ => Iff.rfl
      · rw [hS x, e5 x]
        unfold Cup
        exact ⟨fun z => z.elim (fun z => .inr (.inl z)) fun z => z.elim .inl fun z => .inr (.inr z), fun z => z.elim (fun z => .inr (.inl z)) fun z => z.elim .inl fun z => .inr (.inr z)⟩
theorem Reps.reverse : ∀ {vs : List V} {ts : List T} {S : AS}, Reps K mg F H vs ts S → Reps K mg F H vs.reverse ts.reverse S
  | _, _, _, .nil h => .nil h
  | _, _, S, .cons (S1 := S1) (S2 := S2) r q d hS => by
    rw [List.reverse_cons, List.reverse_cons]
    have one := Reps.cons (S := S1) (S1 := S1) (S2 := Emp) r (.nil fun _ z => z) dj_emp fun x => ⟨.inl, fun z => z.elim id fun z => z.elim⟩
    exact (Reps.append one (Reps.reverse q) d.symm).iff fun x => by rw [hS x]; exact ⟨fun z => z.elim .inr .inl, fun z => z.elim .inr .inl⟩
/-- a list of one's own, written anew -/
theorem own_write {a : Addr} {o : HO} {vs : List V} {xs : List T} {S0 : AS} (le : Le F H) (h2 : F a = none) (r : Reps K mg F H vs xs S0) (na : ¬ S0 a) (o' : HO) (k : Kd) (c : Cont mg k o' vs) {R : AS} (hR : ∀ x, x = a ∨ S0 x → R x) :
    Stp F H R F (upd H a o') (Cup (fun x => x = a ∨ S0 x) Emp) ∧ Le F (upd H a o') ∧ Rep K mg F (upd H a o') (.ref a) (.nd true k xs) (fun x => x = a ∨ S0 x) := by
  refine ⟨⟨Le.refl _, fun x o e n => by rw [upd_ne fun z => n (hR x (.inl z))]; exact e, fun _ _ e => .inl e, fun x z => .inl (hR x (z.elim id fun z => z.elim))⟩, fun x o e => by
    rw [upd_ne fun z => by rw [z, h2] at e; cases e]; exact le x o e, .own upd_same h2 c (r.frame (Le.refl _) fun x z => ⟨upd_ne fun e => na (e ▸ z), (r.dom x z).2⟩) na fun _ => Iff.rfl⟩
theorem m_append : OpM K mg rAppend mAppend := by
  intro F H x t A vs ts R res t' Q le rx rs dj h q
  unfold mAppend at h
  split at h
  · rename_i xs y
    split at h
    · rename_i hl
      cases h
      obtain ⟨a, o, ws, S0, rfl, h1, h2, rfl, r, na, hA⟩ := rx.own_inv
      cases rs with
      | @cons v _ vs _ _ R1 R2 ry rn dy hR =>
        cases rn with
        | nil hn =>
          have nRa : ¬ R1 a := fun z => dj a ((hA a).mpr (.inl rfl)) ((hR a).mpr (.inl z))
          refine ⟨a, ws, v, rfl, rfl, h1, by rw [r.length (S := Emp)]; exact hl, ?_⟩
          have rn := snoc_rep h1 h2 r na ry (fun x z y => dj x ((hA x).mpr (.inr z)) ((hR x).mpr (.inl y))) nRa
          refine q .non _ (fun x => x = a ∨ Cup S0 R1 x) Emp ?_ ?_ (.own upd_same h2 rfl rn (fun z => z.elim na nRa) fun _ => Iff.rfl) (.lf rfl fun _ z => z) dj_emp
          · refine ⟨Le.refl _, fun x o e n => by rw [upd_ne fun z => n (.inl ((hA x).mpr (.inl z)))]; exact e, fun _ _ e => .inl e, fun x z => .inl ?_⟩
            rcases z with (z | z | z) | z
            · exact .inl ((hA x).mpr (.inl z))
            · exact .inl ((hA x).mpr (.inr z))
            · exact .inr ((hR x).mpr (.inl z))
            · exact z.elim
          · exact fun x o e => by rw [upd_ne fun z => by rw [z, h2] at e; cases e]; exact le x o e
    · cases h
  · cases h
theorem m_extend : OpM K mg rExtend mExtend := by
  intro F H x t A vs ts R res t' Q le rx rs dj h q
  unfold mExtend at h
  split at h
  · rename_i xs ob ys
    split at h
    · rename_i hl
      cases h
      obtain ⟨a, o, ws, S0, rfl, h1, h2, rfl, r, na, hA⟩ := rx.own_inv
      cases rs with
      | @cons v _ vs _ _ R1 R2 ry rn dy hR =>
        cases rn with
        | nil hn =>
          obtain ⟨b, zs, S1, rfl, p, hs, hb⟩ := ry.nd_inv le
          have nRa : ¬ S1 a := fun z => dj a ((hA a).mpr (.inl rfl)) ((hR a).mpr (.inl (hs a z)))
          refine ⟨a, b, ws, zs, rfl, rfl, h1, hb, by rw [r.length (S := Emp), p.length (S := Emp)]; exact hl, ?_⟩
          have rn := Reps.append p r fun x z y => dj x ((hA x).mpr (.inr z)) ((hR x).mpr (.inl (hs x y)))
          have rn' : Reps K mg F (upd H a (.lst (ws ++ zs))) (ws ++ zs) (xs ++ ys) (Cup S0 S1) := rn.frame (Le.refl _) fun x z => ⟨upd_ne fun e => z.elim (fun z => na (e ▸ z)) fun z => nRa (e ▸ z), (rn.dom x z).2⟩
          refine q .non _ (fun x => x = a ∨ Cup S0 S1 x) Emp ?_ ?_ (.own upd_same h2 rfl rn' (fun z => z.elim na nRa) fun _ => Iff.rfl) (.lf rfl fun _ z => z) dj_emp
          · refine ⟨Le.refl _, fun x o e n => by rw [upd_ne fun z => n (.inl ((hA x).mpr (.inl z)))]; exact e, fun _ _ e => .inl e, fun x z => .inl ?_⟩
            rcases z with (z | z | z) | z
            · exact .inl ((hA x).mpr (.inl z))
            · exact .inl ((hA x).mpr (.inr z))
            · exact .inr ((hR x).mpr (.inl (hs x z)))
            · exact z.elim
          · exact fun x o e => by rw [upd_ne fun z => by rw [z, h2] at e; cases e]; exact le x o e
    · cases h
  · cases h
theorem Reps.nil_inv {vs : List V} {S : AS} (r : Reps K mg F H vs [] S) : vs = [] := by cases r with | nil _ => rfl
theorem m_pop : OpM K mg rPop mPop := by
  intro F H x t A vs ts R res t' Q le rx rs dj h q
  unfold mPop at h
  split at h
  · rename_i xs
    obtain ⟨t1, e1, e2⟩ := Option.map_eq_some_iff.mp h
    cases e2
    obtain ⟨a, o, ws, S0, rfl, h1, h2, rfl, r, na, hA⟩ := rx.own_inv
    obtain rfl := rs.nil_inv
    obtain ⟨w, A1, B1, g1, g2, g3, g4, g5⟩ := r.dropLast e1
    refine ⟨a, ws, w, rfl, rfl, h1, g1, ?_⟩
    have nB : ¬ B1 a := fun z => na ((g5 a).mpr (.inr z))
    have nA : ¬ A1 a := fun z => na ((g5 a).mpr (.inl z))
    obtain ⟨k1, k2, k3⟩ := own_write (K := K) (mg := mg) (o := .lst ws) le h2 g3 nB (.lst ws.dropLast) .lst rfl (R := Cup A R) fun x z => .inl ((hA x).mpr (z.imp id fun z => (g5 x).mpr (.inr z)))
    refine q w _ (fun x => x = a ∨ B1 x) A1 ?_ k2 k3 (g2.frame (Le.refl _) fun x z => ⟨upd_ne fun e => nA (e ▸ z), (g2.dom x z).2⟩) fun x z y => z.elim (fun e => nA (e ▸ y)) fun z => g4 x y z
    exact ⟨k1.ff, k1.kp, k1.nf, fun x z => .inl (.inl ((hA x).mpr (z.elim (fun z => z.imp id fun z => (g5 x).mpr (.inr z)) fun z => .inr ((g5 x).mpr (.inl z)))))⟩
  · cases h
theorem m_reverse : OpM K mg rReverse mReverse := by
  intro F H x t A vs ts R res t' Q le rx rs dj h q
  unfold mReverse at h
  split at h
  · cases h
    obtain ⟨a, o, ws, S0, rfl, h1, h2, rfl, r, na, hA⟩ := rx.own_inv
    obtain rfl := rs.nil_inv
    obtain ⟨k1, k2, k3⟩ := own_write (K := K) (mg := mg) (o := .lst ws) le h2 r.reverse na (.lst ws.reverse) .lst rfl (R := Cup A R) fun x z => .inl ((hA x).mpr z)
    exact ⟨a, ws, rfl, rfl, h1, q .non _ _ Emp k1 k2 k3 (.lf rfl fun _ z => z) dj_emp⟩
  · cases h
theorem m_clear : OpM K mg rClear mClear := by
  intro F H x t A vs ts R res t' Q le rx rs dj h q
  unfold mClear at h
  split at h
  · cases h
    obtain ⟨a, o, ws, S0, rfl, h1, h2, rfl, r, na, hA⟩ := rx.own_inv
    obtain rfl := rs.nil_inv
    obtain ⟨k1, k2, k3⟩ := own_write (K := K) (mg := mg) (vs := []) (xs := []) (S0 := Emp) (o := .lst ws) le h2 (.nil fun _ z => z) (fun z => z) (.lst []) .lst rfl (R := Cup A R) fun x z => .inl ((hA x).mpr (.inl (z.elim id fun z => z.elim)))
    exact ⟨a, ws, rfl, rfl, h1, q .non _ _ Emp k1 k2 k3 (.lf rfl fun _ z => z) dj_emp⟩
  · cases h
end

/-! ### x[k] = e -/
def putKT : List Key → List T → Key → T → List Key × List T
  | a :: ks, x :: xs, k, t => if a = k then (a :: ks, t :: xs) else let p := putKT ks xs k t; (a :: p.1, x :: p.2)
  | _, _, k, t => ([k], [t])
def nodupK : List Key → Bool
  | [] => true
  | a :: ks => !hasK ks a && nodupK ks
def putFT : List Str → List T → Str → T → List Str × List T
  | a :: ns, x :: xs, f, t => if a = f then (a :: ns, t :: xs) else let p := putFT ns xs f t; (a :: p.1, x :: p.2)
  | _, _, f, t => ([f], [t])
/-- a list's item, a dict's, an instance's attribute is stored -/
def mSetL (k : V) : T → List T → Option (T × T)
  | .nd true .lst xs, [t] => match k with
    | .int i => (ixN xs.length i).map fun j => (.lf .non, .nd true .lst (xs.set j t))
    | _ => none
  | _, _ => none
def mSetD (k : V) : T → List T → Option (T × T)
  | .nd true (.dK ks) xs, [t] => (keyOf k).bind fun k => if ks.length < sizeLine ∧ nodupK ks = true then some (.lf .non, .nd true (.dK (putKT ks xs k t).1) (putKT ks xs k t).2) else none
  | _, _ => none
def mFld (c f : Str) : T → List T → Option (T × T)
  | .nd true (.ins c' ns) xs, [t] => if c' = c ∧ ns.length < 1000 then some (.lf .non, .nd true (.ins c' (putFT ns xs f t).1) (putFT ns xs f t).2) else none
  | _, _ => none
/-- the value, then the key, then the store in slot i -/
def dPut (i : Nat) (mk : V → T → List T → Option (T × T)) (dv : DE) (dk : DV) : DS := fun env => (dv env).bind fun p => match gV i p.2, dk p.2 with
  | some t, some (.lf k) => (mk k t [p.1]).map fun q => (.nx, p.2.set i q.2)
  | _, _ => none
section
variable {K : PySem.W.Frag} {mg : Mg} {F H : Hp} {σ : L2.St}
theorem Reps.setAt {w : V} {t : T} {R : AS} (rt : Rep K mg F H w t R) : ∀ {j : Nat} {vs : List V} {ts : List T} {S : AS}, Reps K mg F H vs ts S → Dj S R → j < ts.length → ∃ S', Reps K mg F H (vs.set j w) (ts.set j t) S' ∧ ∀ x, S' x → S x ∨ R x
  | _, _, _, _, .nil _, _, h => by simp at h
  | 0, _, _, S, .cons (S1 := S1) (S2 := S2) r q d hS, dj, h => ⟨Cup R S2, .cons rt q (fun x a b => dj x ((hS x).mpr (.inr b)) a) fun _ => Iff.rfl, fun x z => z.elim .inr fun z => .inl ((hS x).mpr (.inr z))⟩
  | j + 1, _, _, S, .cons (S1 := S1) (S2 := S2) r q d hS, dj, h => by
    obtain ⟨S', g1, g2⟩ := Reps.setAt rt q (fun x a b => dj x ((hS x).mpr (.inr a)) b) (by simpa using h)
    exact ⟨Cup S1 S', .cons r g1 (fun x a b => (g2 x b).elim (d x a) (dj x ((hS x).mpr (.inl a)))) fun _ => Iff.rfl, fun x z => z.elim (fun z => .inl ((hS x).mpr (.inl z))) fun z => (g2 x z).imp (fun z => (hS x).mpr (.inr z)) id⟩
theorem putK_cons {a k : Key} {v w : V} {kvs : List (Key × V)} (h : ¬ a = k) : putK ((a, v) :: kvs) k w = (a, v) :: putK kvs k w := by
  unfold putK
  simp only [List.any_cons, decide_eq_false h, Bool.false_or]
  split
  · simp [h]
  · rfl
theorem map_no {k : Key} {w : V} : ∀ {ks : List Key} {vs : List V}, k ∉ ks → ((ks.zip vs).map fun kv => if kv.1 = k then (kv.1, w) else kv) = ks.zip vs
  | [], _, _ => rfl
  | _ :: _, [], _ => rfl
  | a :: ks, v :: vs, h => by
    have h1 : ¬ a = k := fun e => h (by simp [e])
    have h2 : k ∉ ks := fun e => h (List.mem_cons_of_mem _ e)
    rw [List.zip_cons_cons, List.map_cons, map_no h2]
    simp [h1]
/-- the keys, each once -/
theorem putKT_rep {k : Key} {w : V} {t : T} {R : AS} (rt : Rep K mg F H w t R) : ∀ {ks : List Key} {vs : List V} {ts : List T} {S : AS}, Reps K mg F H vs ts S → Dj S R → ks.length = vs.length → ks.Nodup →
    ∃ vs' S', putK (ks.zip vs) k w = (putKT ks ts k t).1.zip vs' ∧ (putKT ks ts k t).1.length = vs'.length ∧ Reps K mg F H vs' (putKT ks ts k t).2 S' ∧ ∀ x, S' x → S x ∨ R x
  | [], _, _, S, .nil h, dj, _, _ => ⟨[w], R, rfl, rfl, .cons (S1 := R) (S2 := Emp) rt (.nil fun _ z => z) dj_emp fun x => ⟨.inl, fun z => z.elim id fun z => z.elim⟩, fun x z => .inr z⟩
  | _ :: _, _, _, _, .nil _, _, h, _ => by simp at h
  | [], _, _, _, .cons .., _, h, _ => by simp at h
  | a :: ks, _, _, S, .cons (v := v) (t := t0) (vs := vs) (ts := ts) (S1 := S1) (S2 := S2) r q d hS, dj, hl, nd => by
    have nd' := List.nodup_cons.mp nd
    by_cases e : a = k
    · subst e
      have ek : putKT (a :: ks) (t0 :: ts) a t = (a :: ks, t :: ts) := by rw [putKT, if_pos rfl]
      rw [ek]
      refine ⟨w :: vs, Cup R S2, ?_, hl, .cons rt q (fun x a b => dj x ((hS x).mpr (.inr b)) a) fun _ => Iff.rfl, fun x z => z.elim .inr fun z => .inl ((hS x).mpr (.inr z))⟩
      unfold putK
      rw [List.zip_cons_cons, List.any_cons, decide_eq_true rfl, Bool.true_or, if_pos rfl, List.map_cons, if_pos rfl, map_no nd'.1]
      rfl
    · have ek : putKT (a :: ks) (t0 :: ts) k t = (a :: (putKT ks ts k t).1, t0 :: (putKT ks ts k t).2) := by rw [putKT, if_neg e]
      rw [ek]
      obtain ⟨vs', S', g1, g2, g3, g4⟩ := putKT_rep rt q (fun x a b => dj x ((hS x).mpr (.inr a)) b) (by simpa using hl) nd'.2
      refine ⟨v :: vs', Cup S1 S', ?_, by simp [g2], .cons r g3 (fun x a b => (g4 x b).elim (d x a) (dj x ((hS x).mpr (.inl a)))) fun _ => Iff.rfl, fun x z => z.elim (fun z => .inl ((hS x).mpr (.inl z))) fun z => (g4 x z).imp (fun z => (hS x).mpr (.inr z)) id⟩
      rw [List.zip_cons_cons, putK_cons e, g1]
      rfl
theorem nodupK_ok : ∀ {ks : List Key}, nodupK ks = true → ks.Nodup
  | [], _ => .nil
  | a :: ks, h => by
    simp only [nodupK, Bool.and_eq_true, Bool.not_eq_true'] at h
    refine List.nodup_cons.mpr ⟨fun z => ?_, nodupK_ok h.2⟩
    have : hasK ks a = true := List.any_eq_true.mpr ⟨a, z, by simp⟩
    rw [h.1] at this
    cases this
theorem putF_zip {f : Str} {w : V} {t : T} {R : AS} (rt : Rep K mg F H w t R) : ∀ {ns : List Str} {vs : List V} {ts : List T} {S : AS}, Reps K mg F H vs ts S → Dj S R → ns.length = vs.length →
    ∃ vs' S', putF f w (ns.zip vs) = (putFT ns ts f t).1.zip vs' ∧ (putFT ns ts f t).1.length = vs'.length ∧ Reps K mg F H vs' (putFT ns ts f t).2 S' ∧ ∀ x, S' x → S x ∨ R x
  | [], _, _, S, .nil h, dj, _ => ⟨[w], R, rfl, rfl, .cons (S1 := R) (S2 := Emp) rt (.nil fun _ z => z) dj_emp fun x => ⟨.inl, fun z => z.elim id fun z => z.elim⟩, fun x z => .inr z⟩
  | _ :: _, _, _, _, .nil _, _, h => by simp at h
  | [], _, _, _, .cons .., _, h => by simp at h
  | a :: ns, _, _, S, .cons (v := v) (t := t0) (vs := vs) (ts := ts) (S1 := S1) (S2 := S2) r q d hS, dj, hl => by
    by_cases e : a = f
    · have ek : putFT (a :: ns) (t0 :: ts) f t = (a :: ns, t :: ts) := by rw [putFT, if_pos e]
      rw [ek]
      refine ⟨w :: vs, Cup R S2, ?_, hl, .cons rt q (fun x a b => dj x ((hS x).mpr (.inr b)) a) fun _ => Iff.rfl, fun x z => z.elim .inr fun z => .inl ((hS x).mpr (.inr z))⟩
      rw [List.zip_cons_cons, putF, if_pos e]
      rw [List.zip_cons_cons]
    · have ek : putFT (a :: ns) (t0 :: ts) f t = (a :: (putFT ns ts f t).1, t0 :: (putFT ns ts f t).2) := by rw [putFT, if_neg e]
      rw [ek]
      obtain ⟨vs', S', g1, g2, g3, g4⟩ := putF_zip rt q (fun x a b => dj x ((hS x).mpr (.inr a)) b) (by simpa using hl)
      refine ⟨v :: vs', Cup S1 S', ?_, by simp [g2], .cons r g3 (fun x a b => (g4 x b).elim (d x a) (dj x ((hS x).mpr (.inl a)))) fun _ => Iff.rfl, fun x z => z.elim (fun z => .inl ((hS x).mpr (.inl z))) fun z => (g4 x z).imp (fun z => (hS x).mpr (.inr z)) id⟩
      rw [List.zip_cons_cons, putF, if_neg e, g1]
      rw [List.zip_cons_cons]
/-- the end of a write: a node of one's own with new parts -/
theorem write_end {a : Addr} {k : Kd} {o' : HO} {vs' : List V} {xs' : List T} {A R S0 S' : AS} {Q : VK} {t' : T} (le : Le F H) (h2 : F a = none) (hA : ∀ x, A x ↔ x = a ∨ S0 x) (na : ¬ S0 a) (nR : ¬ R a) (r : Reps K mg F H vs' xs' S') (hs : ∀ x, S' x → S0 x ∨ R x) (c : Cont mg k o' vs') (et : t' = .nd true k xs')
    (q : ∀ v H' A' Rv, Stp F H (Cup A R) F H' (Cup A' Rv) → Le F H' → Rep K mg F H' (.ref a) t' A' → Rep K mg F H' v (.lf .non) Rv → Dj A' Rv → Q v H') : Q .non (upd H a o') := by
  subst et
  have na' : ¬ S' a := fun z => (hs a z).elim na nR
  refine q .non _ (fun x => x = a ∨ S' x) Emp ?_ ?_ (.own upd_same h2 c (r.frame (Le.refl _) fun x z => ⟨upd_ne fun e => na' (e ▸ z), (r.dom x z).2⟩) na' fun _ => Iff.rfl) (.lf rfl fun _ z => z) dj_emp
  · refine ⟨Le.refl _, fun x o e n => by rw [upd_ne fun z => n (.inl ((hA x).mpr (.inl z)))]; exact e, fun _ _ e => .inl e, fun x z => .inl ?_⟩
    rcases z with (z | z) | z
    · exact .inl ((hA x).mpr (.inl z))
    · exact (hs x z).elim (fun z => .inl ((hA x).mpr (.inr z))) .inr
    · exact z.elim
  · exact fun x o e => by rw [upd_ne fun z => by rw [z, h2] at e; cases e]; exact le x o e
def rSetLM (k : V) : V → List V → Hp → VK → Prop := fun x vs H Q => ∃ v, vs = [v] ∧ rSetL x k v H fun H' => Q .non H'
def rSetDM (k : V) : V → List V → Hp → VK → Prop := fun x vs H Q => ∃ v a H4, vs = [v] ∧ x = .ref a ∧ DPut H a k v H4 ∧ Q .non H4
def rFldM (K : PySem.W.Frag) (f : Str) : V → List V → Hp → VK → Prop := fun x vs H Q => ∃ v a C dx fs, vs = [v] ∧ x = .ref a ∧ H a = some (.ins C dx fs) ∧ Cls K C ∧ NoAttr K C f ∧ fs.length < 1000 ∧ Q .non (upd H a (.ins C dx (putF f v fs)))
theorem m_setL (k : V) : OpM K mg (rSetLM k) (mSetL k) := by
  intro F H x t A vs ts R res t' Q le rx rs dj h q
  unfold mSetL at h
  split at h
  · rename_i xs y
    split at h
    · obtain ⟨j, e1, e2⟩ := Option.map_eq_some_iff.mp h
      cases e2
      obtain ⟨a, o, ws, S0, rfl, h1, h2, rfl, r, na, hA⟩ := rx.own_inv
      cases rs with
      | @cons v _ vs _ _ R1 R2 ry rn dy hR =>
        cases rn with
        | nil hn =>
          have hj := (ixN_seq e1).2.1
          have nRa : ¬ R1 a := fun z => dj a ((hA a).mpr (.inl rfl)) ((hR a).mpr (.inl z))
          obtain ⟨S', g1, g2⟩ := Reps.setAt ry r (fun x z y => dj x ((hA x).mpr (.inr z)) ((hR x).mpr (.inl y))) hj
          refine ⟨v, rfl, a, ws, _, j, rfl, rfl, h1, by rw [r.length (S := Emp)]; exact e1, ?_⟩
          exact write_end (k := .lst) (vs' := ws.set j v) (xs' := xs.set j y) (S' := S') (R := R) le h2 hA na (fun z => nRa (((hR a).mp z).elim id fun z => (hn a z).elim)) g1 (fun x z => (g2 x z).imp id fun z => (hR x).mpr (.inl z)) rfl rfl q
    · cases h
  · cases h
theorem m_setD (k : V) : OpM K mg (rSetDM k) (mSetD k) := by
  intro F H x t A vs ts R res t' Q le rx rs dj h q
  unfold mSetD at h
  split at h
  · rename_i ks xs y
    obtain ⟨k', e1, h⟩ := Option.bind_eq_some_iff.mp h
    split at h
    · rename_i hc
      cases h
      obtain ⟨a, o, ws, S0, rfl, h1, h2, ⟨hl, rfl⟩, r, na, hA⟩ := rx.own_inv
      cases rs with
      | @cons v _ vs _ _ R1 R2 ry rn dy hR =>
        cases rn with
        | nil hn =>
          have nRa : ¬ R1 a := fun z => dj a ((hA a).mpr (.inl rfl)) ((hR a).mpr (.inl z))
          obtain ⟨vs', S', g1, g2, g3, g4⟩ := putKT_rep (k := k') ry r (fun x z y => dj x ((hA x).mpr (.inr z)) ((hR x).mpr (.inl y))) hl (nodupK_ok hc.2)
          refine ⟨v, a, _, rfl, rfl, .inl ⟨_, k', h1, keyOf_some e1, by rw [List.length_zip, ← hl, Nat.min_self]; exact hc.1, rfl⟩, ?_⟩
          exact write_end (k := .dK (putKT ks xs k' y).1) (vs' := vs') (S' := S') (R := R) le h2 hA na (fun z => nRa (((hR a).mp z).elim id fun z => (hn a z).elim)) g3 (fun x z => (g4 x z).imp id fun z => (hR x).mpr (.inl z)) ⟨g2, by rw [g1]⟩ rfl q
    · cases h
  · cases h
theorem m_fld {c f : Str} {C : Addr} (hc : mg c = some (.ref C)) (cl : Cls K C) (nA : NoAttr K C f) : OpM K mg (rFldM K f) (mFld c f) := by
  intro F H x t A vs ts R res t' Q le rx rs dj h q
  unfold mFld at h
  split at h
  · rename_i c' ns xs y
    split at h
    · rename_i hcc
      cases h
      obtain ⟨e0, hlen⟩ := hcc
      subst e0
      obtain ⟨a, o, ws, S0, rfl, h1, h2, ⟨hl, C', dx, rfl, hm⟩, r, na, hA⟩ := rx.own_inv
      rw [hc] at hm
      cases hm
      cases rs with
      | @cons v _ vs _ _ R1 R2 ry rn dy hR =>
        cases rn with
        | nil hn =>
          have nRa : ¬ R1 a := fun z => dj a ((hA a).mpr (.inl rfl)) ((hR a).mpr (.inl z))
          obtain ⟨vs', S', g1, g2, g3, g4⟩ := putF_zip (f := f) ry r (fun x z y => dj x ((hA x).mpr (.inr z)) ((hR x).mpr (.inl y))) hl
          refine ⟨v, a, C, dx, _, rfl, rfl, h1, cl, nA, by rw [List.length_zip, ← hl, Nat.min_self]; exact hlen, ?_⟩
          exact write_end (k := .ins c' (putFT ns xs f y).1) (vs' := vs') (S' := S') (R := R) le h2 hA na (fun z => nRa (((hR a).mp z).elim id fun z => (hn a z).elim)) g3 (fun x z => (g4 x z).imp id fun z => (hR x).mpr (.inl z)) ⟨g2, C, dx, by rw [g1], hc⟩ rfl q
    · cases h
  · cases h
/-- the store at the end -/
theorem put_imp {D : Ends} {i : Nat} {mk : V → T → List T → Option (T × T)} {r : V → V → List V → Hp → VK → Prop} {dv : DE} {dk : DV} (ho : ∀ k, OpM K mg (r k) (mk k)) (h : tS K mg [] (dPut i mk dv dk) D σ H) :
    tE K mg dv σ H fun v H1 => ∃ x, σ[i]? = some (some x) ∧ tV K mg dk σ H1 fun k H2 => r k x [v] H2 fun _ H3 => D.nx σ H3 := by
  obtain ⟨F, env, S, rr, env', ok, hd, q⟩ := h
  obtain ⟨⟨t, e⟩, h1, h2⟩ := Option.bind_eq_some_iff.mp hd
  split at h2
  · rename_i t0 k h3 h4
    obtain ⟨⟨res, t'⟩, h5, h6⟩ := Option.map_eq_some_iff.mp h2
    cases h6
    refine ⟨F, env, S, t, e, ok, h1, fun v F1 H1 S1 R1 st1 ok1 r1 dj1 => ?_⟩
    obtain ⟨g1, g2⟩ := gV_some h3
    obtain ⟨x, A, B, ev, rx, _⟩ := ok1.st.slot g1 g2
    refine ⟨x, ev, F1, e, S1, .lf k, ok1, h4, fun w R2 rw' => ?_⟩
    obtain ⟨rfl, _, _⟩ := rw'.lf_inv
    have rs : Reps K mg F1 H1 [v] [t] R1 := .cons (S1 := R1) (S2 := Emp) r1 (.nil fun _ z => z) dj_emp fun x => ⟨.inl, fun z => z.elim id fun z => z.elim⟩
    exact mut_end (ho w) st1 ok1 rs dj1 ev h3 h5 fun v' F' H' S' R' st ok' _ _ => q.now (st.weak fun _ z => .inl z) ok' .refl
  · cases h2
end
section
variable {X : Cx} {x : Str} {i : Nat} {k value : Expr} {px pos pos' : Pos} {dv : DE} {dk : DV}
theorem ss_setL (hv : SE X value dv) (hk : SV X k dk) (hN : X.N[i]? = some x := by rfl) (hvis : Vis X.env.scope x := by first | exact Or.inl rfl | exact Or.inr (Or.inl rfl) | exact Or.inr (Or.inr rfl)) (hd : (x == ("__debug__" : Str)) = false := by decide) (hcd : (x == ("__classdict__" : Str)) = false := by decide)
    (ha : ∀ v, assign (.Subscript (.Name x px) k pos) X.env v = (do
      let ov ← holding [v] (eval (.Name x px) X.env)
      let iv ← holding [v, ov] (eval k X.env)
      standAt pos
      holding [v, ov, iv] (setItem ov iv v)
      release [v, ov, iv] []) := by intro _; rfl) (hs : swapsWithSole [.Subscript (.Name x px) k pos] value pos'.line X.env = pure false := by rfl) (hw : swappedStores [.Subscript (.Name x px) k pos] value X.env = pure none := by rfl)
    (h1 : (assignEach [.Subscript (.Name x px) k pos] X.env).map (·.2) = [assign (.Subscript (.Name x px) k pos) X.env] := by rfl) :
    SS X (.Assign [.Subscript (.Name x px) k pos] value pos') [] (dPut i mSetL dv dk) :=
  psw (ps_asg hv (pg_sub (pe_var hN hvis hd hcd) hk set_list ha) hs hw h1) fun D σ H h => by
    obtain ⟨F, env, S, t, e, ok, hd, q⟩ := put_imp (r := rSetLM) (fun k => m_setL k) h
    exact ⟨F, env, S, t, e, ok, hd, fun v F' H' S' R a b c d => by
      obtain ⟨x, e1, F2, en2, S2, t2, ok2, hd2, q2⟩ := q v F' H' S' R a b c d
      exact ⟨x, e1, F2, en2, S2, t2, ok2, hd2, fun w R' r' => by
        obtain ⟨v', e3, q3⟩ := q2 w R' r'
        cases e3
        exact q3⟩⟩
theorem ss_setD (hu : X.A.units + 1 < cLine) (hv : SE X value dv) (hk : SV X k dk) (hN : X.N[i]? = some x := by rfl) (hvis : Vis X.env.scope x := by first | exact Or.inl rfl | exact Or.inr (Or.inl rfl) | exact Or.inr (Or.inr rfl)) (hd : (x == ("__debug__" : Str)) = false := by decide) (hcd : (x == ("__classdict__" : Str)) = false := by decide)
    (hs : swapsWith value (some (.Subscript (.Name x px) k pos)) pos'.line X.env = pure false := by rfl) :
    SS X (.Assign [.Subscript (.Name x px) k pos] value pos') [] (dPut i mSetD dv dk) :=
  psw (ps_dput hu (pe_var hN hvis hd hcd) hk hv hs) fun D σ H h => by
    obtain ⟨F, env, S, t, e, ok, hd, q⟩ := put_imp (r := rSetDM) (fun k => m_setD k) h
    exact ⟨F, env, S, t, e, ok, hd, fun v F' H' S' R a b c d => by
      obtain ⟨x, e1, F2, en2, S2, t2, ok2, hd2, q2⟩ := q v F' H' S' R a b c d
      exact ⟨x, e1, F2, en2, S2, t2, ok2, hd2, fun w R' r' => by
        obtain ⟨v', a', H4, e3, e4, e5, q3⟩ := q2 w R' r'
        cases e3
        exact ⟨a', H4, e4, e5, q3⟩⟩⟩
theorem ss_fld {c f : Str} {C : Addr} (hc : X.mg c = some (.ref C)) (cl : Cls X.K C) (nA : NoAttr X.K C f) (hv : SE X value dv) (hN : X.N[i]? = some x := by rfl) (hvis : Vis X.env.scope x := by first | exact Or.inl rfl | exact Or.inr (Or.inl rfl) | exact Or.inr (Or.inr rfl)) (hd : (x == ("__debug__" : Str)) = false := by decide) (hcd : (x == ("__classdict__" : Str)) = false := by decide)
    (hs : swapsWith value (some (.Attribute (.Name x px) f pos)) pos'.line X.env = pure false := by rfl) :
    SS X (.Assign [.Attribute (.Name x px) f pos] value pos') [] (dPut i (fun _ => mFld c f) dv (gC .non)) :=
  psw (ps_fld (pe_var hN hvis hd hcd) hv hs) fun D σ H h => by
    obtain ⟨F, env, S, t, e, ok, hd, q⟩ := put_imp (r := fun _ => rFldM X.K f) (fun _ => m_fld hc cl nA) h
    exact ⟨F, env, S, t, e, ok, hd, fun v F' H' S' R a b c d => by
      obtain ⟨x, e1, q2⟩ := q v F' H' S' R a b c d
      obtain ⟨F2, en2, S2, t2, ok2, hd2, q2⟩ := q2
      cases hd2
      obtain ⟨v', a', C', dx, fs, e3, e4, e5, e6, e7, e8, q3⟩ := q2 .non Emp (.lf rfl fun _ z => z)
      cases e3
      exact ⟨x, e1, a', C', dx, fs, e4, e5, e6, e7, e8, q3⟩⟩
/-- a, b = e -/
theorem ss_asg {tg : Expr} {W : List Nat} {dg : DG} (hv : SE X value dv) (hg : SG X tg W dg) (hs : swapsWithSole [tg] value pos.line X.env = pure false := by rfl) (hw : swappedStores [tg] value X.env = pure none := by rfl)
    (h1 : (assignEach [tg] X.env).map (·.2) = [assign tg X.env] := by rfl) : SS X (.Assign [tg] value pos) W (fun env => (dv env).bind fun p => (dg p.1 p.2).map fun e => (.nx, e)) :=
  psw (ps_asg hv hg hs hw h1) fun D σ H ⟨F, env, S, r, env', ok, hd, q⟩ => by
    obtain ⟨⟨t, e⟩, h1, h2⟩ := Option.bind_eq_some_iff.mp hd
    obtain ⟨e', h3, h4⟩ := Option.map_eq_some_iff.mp h2
    cases h4
    exact ⟨F, env, S, t, e, ok, h1, fun v F1 H1 S1 R1 st1 ok1 r1 dj1 => ⟨F1, e, S1, R1, t, _, ok1, r1, dj1, h3, fun σ' S' ok' sub of => q.now (st1.weak sub) ok' of⟩⟩
/-- x += e, of whole numbers, of texts -/
def dAug (i : Nat) (o : T → T → Option T) (d : DE) : DS := fun env => match gV i env with
  | some t => if cln t = true then (d env).bind fun p => (o t p.1).bind fun u => if cln u = true then some (.nx, p.2.set i u) else none else none
  | none => none
theorem ss_aug {op : Operator} {r : R2} {o : T → T → Option T} (hN : X.N.Nodup) (hi : X.N[i]? = some x) (hx : Loc X.env.scope x) (he : SE X value dv) (ho : OpR X (inplaceOp op) r) (hv : Op2V X.K X.mg r o) (hf : X.fn x = true ∨ X.env.scope.names.lookup x = some .local := by first | exact .inl rfl | exact .inr rfl | assumption) :
    SS X (.AugAssign (.Name x px) op value pos) [i] (dAug i o dv) :=
  psw (ps_aug (ti := r) hN hi hx he (fun pins s σ H x y v u Q I rx ry h => ho pins s σ H x y v u Q I rx ry h) hf) fun D σ H ⟨F, env, S, rr, env', ok, hd, q⟩ => by
    unfold dAug at hd
    split at hd
    · rename_i t h0
      split at hd
      · rename_i hc
        obtain ⟨⟨y, e⟩, h1, h2⟩ := Option.bind_eq_some_iff.mp hd
        obtain ⟨u, h3, h4⟩ := Option.bind_eq_some_iff.mp h2
        split at h4
        · rename_i hcu
          cases h4
          obtain ⟨g1, g2⟩ := gV_some h0
          obtain ⟨w, A, B, ev, rx, _⟩ := ok.st.slot g1 g2
          refine ⟨w, ev, F, env, S, y, e, ok, h1, fun v F1 H1 S1 R1 st1 ok1 r1 dj1 => ?_⟩
          have hie : i < e.length := by
            have := ok.st.length
            have := ok1.st.length
            have := (List.getElem?_eq_some_iff.mp ev).1
            omega
          refine hv F1 H1 w v t y Emp R1 u _ ok1.le (rx.stay st1.ff hc) r1 h3 fun z R' rz => ?_
          obtain ⟨S2, ok2, sub⟩ := store_ok' ok1 (rz.clean0 hcu) dj_emp hie
          exact q.now (st1.weak fun x z => .inl ((sub x z).elim id fun z => z.elim)) ok2 Off.set
        · cases h4
      · cases hd
    · cases hd
end
end Tr


set_option Elab.async false
set_option linter.all false
set_option maxRecDepth 100000
set_option maxHeartbeats 4000000
/-! D11: a walk over a list that a name lends; the law's end. -/
namespace Tr
open PySem PySem.Spec PyProof.Rows L2

/-- the things, none owned -/
def itemsC : T → Option (List T)
  | .nd _ .lst xs => if clns xs = true then some xs else none
  | .nd _ .rol xs => if clns xs = true then some xs else none
  | _ => none
def dForL (i : Nat) (dg : DG) (d : DS) : DS := fun env => match gV i env with
  | some t0 => match itemsC t0 with
    | some its => match dFr dg d its (env.set i .no) with
      | some (r, e) => match e[i]? with
        | some .no => some (r, e.set i t0)
        | _ => none
      | none => none
    | none => none
  | none => none
section
variable {K : PySem.W.Frag} {mg : Mg} {D : Ends} {σ σ' : L2.St} {H H' F F' : Hp} {S S' R : AS} {W1 W2 : List Nat} {env env' : List T} {r : Fl}
theorem itemsC_some {t : T} {its : List T} (h : itemsC t = some its) : ∃ o k, t = .nd o k its ∧ clns its = true ∧ ∀ (K : PySem.W.Frag) (mg : Mg) (H : Hp) (a : Addr) (vs : List V), Here K mg H a k vs → SqL K H a vs := by
  unfold itemsC at h
  split at h
  · split at h
    · cases h; exact ⟨_, _, rfl, by assumption, fun _ _ _ _ _ z => SqL.of z⟩
    · cases h
  · split at h
    · cases h; exact ⟨_, _, rfl, by assumption, fun _ _ _ _ _ z => z⟩
    · cases h
  · cases h
theorem forL_imp {i : Nat} {dg : DG} {d : DS} (hi : i ∉ W1 ++ W2) (h : tS K mg (W1 ++ W2) (dForL i dg d) D σ H) : tFor (iList K (tVar i)) (tG K mg W1 dg) (tS K mg W2 d) D σ H := by
  obtain ⟨F, env, S, r, env', ok, hd, q⟩ := h
  unfold dForL at hd
  split at hd
  · rename_i t0 h0
    split at hd
    · rename_i its h1
      split at hd
      · rename_i r' e h2
        split at hd
        · rename_i h3
          cases hd
          obtain ⟨g1, g2⟩ := gV_some h0
          obtain ⟨v, A, B, ev, rv, dAB, hS, rest⟩ := ok.st.slot g1 g2
          obtain ⟨o, k, rfl, hc, hk⟩ := itemsC_some h1
          have hB : ∀ x, B x → (∃ o, H x = some o) ∧ F x = none := fun x z => ok.st.dom x ((hS x).mpr (.inr z))
          obtain ⟨a, vs, S0, rfl, p, hs, hr⟩ := rv.stays (S := B) ok.le dAB.symm fun x z => (hB x z).2
          have okB : Ok K mg F H σ (env.set i .no) (Cup Emp B) := ⟨ok.le, by
            have := rest F H (some (.ref a)) .no Emp (Le.refl _) (fun y z => ⟨rfl, (hB y z).2⟩) (.no fun _ z => z) emp_dj
            rwa [set_self' ev] at this⟩
          have okB' : Ok K mg F H σ (env.set i .no) B := ⟨okB.le, okB.st.iff fun x => ⟨.inr, fun z => z.elim (fun z => z.elim) id⟩⟩
          refine ⟨.ref a, ev, a, rfl, ⟨vs, hk _ _ _ _ _ (hr F H B .refl ok.le)⟩, ?_⟩
          have good : Good K mg its (Itl K a) F H B := good_list (p.clean0 hc) fun F2 H2 S2 s l => hk _ _ _ _ _ (hr F2 H2 S2 s l)
          refine for_core good okB' h2 fun F' H' S' R σ' st ok' of dj => ?_
          have e' : σ'[i]? = some (some (.ref a)) := (of.at_ i hi).trans ev
          have rv' := rv.keep st dAB.symm
          have djA : Dj (Cup S' R) A := st.dj (fun x z => (rv.dom x z).1) dAB.symm
          obtain ⟨s, A2, B2, k1, k2, k3, k4, rest2⟩ := ok'.st.split h3
          rw [e'] at k1
          cases k1
          have hn := rest2 F' H' (some (.ref a)) (.nd o k its) A (Le.refl _) (fun y z => ⟨rfl, (ok'.st.dom y ((k4 y).mpr (.inr z))).2⟩) rv' fun y z u => djA y (.inl ((k4 y).mpr (.inr u))) z
          rw [set_self' e'] at hn
          refine q F' H' (Cup A B2) R σ' ?_ ⟨ok'.le, hn⟩ of fun y z u => z.elim (fun z => djA y (.inr u) z) fun z => dj y ((k4 y).mpr (.inr z)) u
          have b1 := st.frameL A
          exact (b1.big fun y z => (hS y).mpr z).weak fun y z => z.elim (fun z => z.elim .inl fun z => .inr (.inl ((k4 y).mpr (.inr z)))) fun z => .inr (.inr z)
        · cases hd
      · cases hd
    · cases hd
  · cases hd
theorem ss_forL {X : Cx} {tg : Expr} {x : Str} {i : Nat} {px : Pos} {body : List Stmt} {dg : DG} {d : DS} {pos : Pos} (hi : i ∉ W1 ++ W2) (hp : PassesOwn (model X.prog X.w) X.A X.env X.xe) (hc : X.calm = true) (hg : SG X tg W1 dg) (hb : SSs X body W2 d)
    (hN : X.N[i]? = some x := by rfl) (hvis : Vis X.env.scope x := by first | exact Or.inl rfl | exact Or.inr (Or.inl rfl) | exact Or.inr (Or.inr rfl)) (hd : (x == ("__debug__" : Str)) = false := by decide) (hcd : (x == ("__classdict__" : Str)) = false := by decide)
    (hs : ∀ y, foldedSetIterable (.Name x px) X.env y = pure y := by intro _; rfl) : SS X (.For tg (.Name x px) body [] pos) (W1 ++ W2) (dForL i dg d) :=
  psw (ps_for hp hc (pi_list (pe_var hN hvis hd hcd)) hg hb hs) fun _ _ _ => forL_imp hi
end

/-! ### the law's own end -/
def scrT (ns : List Int) : T := .nd false .rol (ns.map lfI)
/-- what the law's row asks -/
def spLaw (K : PySem.W.Frag) : Sp := fun vs H Q _ => ∃ (a : Addr) (ns : List Int), vs = [.ref a] ∧ SqL K H a (ns.map V.int) ∧ ns.length ≤ 63 ∧ ∀ H', Q (.bl true) H'
theorem law_imp {K : PySem.W.Frag} {mg : Mg} {f : FT} (hf : ∀ ns : List Int, ns.length ≤ 63 → ∃ ts, f [scrT ns] = some (.lf (.bl true), ts)) : ∀ vs H Q E, spLaw K vs H Q E → spD K mg 1 f vs H Q E := by
  rintro vs H Q E ⟨a, ns, rfl, hS, hl, q⟩
  obtain ⟨ts, h⟩ := hf ns hl
  refine ⟨rfl, H, Emp, [scrT ns], _, ts, Le.refl _, .cons (S1 := Emp) (S2 := Emp) (.rol hS (ints_reps ns)) (.nil fun _ z => z) dj_emp fun x => ⟨fun z => z.elim, fun z => z.elim id id⟩, h, fun v F' H' R S' _ _ r _ _ => ?_⟩
  rw [r.lf_inv.1]
  exact q H'
/-- a def with defaults -/
theorem ok_defD {P : Program} {w : World} {K : PySem.W.Frag} {mg : Mg} {base : Heap} {n : Nat} {x qual : Str} {params : Arguments} {body : List Stmt} {scope : Scope} {dvs : List V} {kws : List (Str × V)} {f : Addr} {fd : FuncData} {N ps : List Str} {k : Nat} {W : List Nat} {d : DS} {keep : List Bool} (F : FunD K x qual params body scope dvs kws f fd) (S : FnScope N ps scope) (hk : keep.length = ps.length) (hN : N.length = n) (hW : ∀ i ∈ W, keep[i]? ≠ some true)
    (hb : ∀ (cdv : Value) (A : Around) (outer : List Env) (s : Shared) (H : Hp) (E : XK), Room k (A.deeper (envOfC qual scope s.heap.objs.size f cdv)) →
      SSs (cxOf CX0 P w K mg base N qual scope f cdv A outer s H E).nox body W d) : FnOk P w K mg base CX0 (k + 1) f fd ps (spD K mg ps.length (dFun keep n d)) := by
  refine F.ok S (fun vs H Q E h => h.1) (fun cdv A outer s H vs Q E hr h => ?_)
  exact ⟨_, PSs.nox (hb cdv A outer s H E hr), def_end hk hN hW h⟩

/-! ### the first operand a name, the second one anything -/
def o2n (o : T → T → Option T) (i : Nat) (db : DE) : DE := fun env => (gV i env).bind fun _ => (db env).bind fun q => (gV i q.2).bind fun t => (o t q.1).map fun u => (u, q.2)
section
variable {K : PySem.W.Frag} {mg : Mg} {σ : L2.St} {H : Hp} {Q : VK} {p : T → T → Option T} {db : DE} {r : R2} {i : Nat}
theorem o2n_some {env : List T} {t : T} {e : List T} (h : o2n p i db env = some (t, e)) : ∃ x0 y x, gV i env = some x0 ∧ db env = some (y, e) ∧ gV i e = some x ∧ p x y = some t := by
  obtain ⟨x0, h1, h2⟩ := Option.bind_eq_some_iff.mp h
  obtain ⟨⟨y, e2⟩, h3, h4⟩ := Option.bind_eq_some_iff.mp h2
  obtain ⟨x, h5, h6⟩ := Option.bind_eq_some_iff.mp h4
  obtain ⟨u, h7, h8⟩ := Option.map_eq_some_iff.mp h6
  cases h8
  exact ⟨x0, y, x, h1, h3, h5, h7⟩
theorem i2n (h : Op2V K mg r p) (q : tR K mg (o2n p i db) σ H Q) : tOp r (tVar i) (tR K mg db) σ H Q := by
  obtain ⟨F, env, S, t, env', ok, hd, q⟩ := q
  obtain ⟨x0, y, x, h1, h2, h3, h4⟩ := o2n_some hd
  obtain ⟨g1, g2⟩ := gV_some h1
  obtain ⟨v, A, B, ev, _⟩ := ok.st.slot g1 g2
  refine ⟨v, ev, F, env, S, y, _, ok, h2, fun w F1 H1 S1 R st ok1 rw' => ?_⟩
  obtain ⟨k1, k2⟩ := gV_some h3
  obtain ⟨v', A', B', ev', rv, _⟩ := ok1.st.slot k1 k2
  rw [ev] at ev'
  cases ev'
  exact h F1 H1 v w x y A' R t Q ok1.le rv rw' h4 fun z R' rz => q z F1 H1 S1 R' st ok1 rz
theorem i2nE (h : Op2E K mg r p) (q : tE K mg (o2n p i db) σ H Q) : tOp r (tVar i) (tR K mg db) σ H Q := by
  obtain ⟨F, env, S, t, env', ok, hd, q⟩ := q
  obtain ⟨x0, y, x, h1, h2, h3, h4⟩ := o2n_some hd
  obtain ⟨g1, g2⟩ := gV_some h1
  obtain ⟨v, A, B, ev, _⟩ := ok.st.slot g1 g2
  refine ⟨v, ev, F, env, S, y, _, ok, h2, fun w F1 H1 S1 R st ok1 rw' => ?_⟩
  obtain ⟨k1, k2⟩ := gV_some h3
  obtain ⟨v', A', B', ev', rv, _⟩ := ok1.st.slot k1 k2
  rw [ev] at ev'
  cases ev'
  refine h F1 H1 v w x y A' R t Q ok1.le rv rw' h4 fun z F2 H2 R' st2 le2 rz => ?_
  obtain ⟨a, b, c⟩ := fin_new st ok1 st2 le2
  exact q z F2 H2 S1 R' a b rz c
end
section
variable {X : Cx} {op : Operator} {co : CmpOp} {x : Str} {px : Pos} {b : Expr} {pos : Pos} {r : R2} {o : T → T → Option T} {db : DE} {i : Nat}
theorem sr_binn (ho : OpR X (binaryOp op) r) (hv : Op2V X.K X.mg r o) (hb : SR X b db) (hN : X.N[i]? = some x := by rfl) (hvis : Vis X.env.scope x := by first | exact Or.inl rfl | exact Or.inr (Or.inl rfl) | exact Or.inr (Or.inr rfl)) (hd : (x == ("__debug__" : Str)) = false := by decide) (hcd : (x == ("__classdict__" : Str)) = false := by decide) :
    SR X (.BinOp (.Name x px) op b pos) (o2n o i db) := pew (pe_op ho (pe_var hN hvis hd hcd) hb) fun _ _ _ => i2n hv
theorem se_binn (ho : OpR X (binaryOp op) r) (hv : Op2E X.K X.mg r o) (hb : SR X b db) (hN : X.N[i]? = some x := by rfl) (hvis : Vis X.env.scope x := by first | exact Or.inl rfl | exact Or.inr (Or.inl rfl) | exact Or.inr (Or.inr rfl)) (hd : (x == ("__debug__" : Str)) = false := by decide) (hcd : (x == ("__classdict__" : Str)) = false := by decide) :
    SE X (.BinOp (.Name x px) op b pos) (o2n o i db) := pew (pe_op ho (pe_var hN hvis hd hcd) hb) fun _ _ _ => i2nE hv
theorem sr_cmpn (ho : OpR X (compareOp co) r) (hv : Op2V X.K X.mg r o) (hm : behindInMarks co b = false) (hb : SR X b db) (hN : X.N[i]? = some x := by rfl) (hvis : Vis X.env.scope x := by first | exact Or.inl rfl | exact Or.inr (Or.inl rfl) | exact Or.inr (Or.inr rfl)) (hd : (x == ("__debug__" : Str)) = false := by decide) (hcd : (x == ("__classdict__" : Str)) = false := by decide) :
    SR X (.Compare (.Name x px) [co] [b] pos) (o2n o i db) := pew (pe_cmpR ho (pe_var hN hvis hd hcd) hb hm) fun _ _ _ => i2n hv
theorem st_cmpn (ho : OpR X (compareOp co) r) (hv : Op2V X.K X.mg r o) (hm : behindInMarks co b = false) (hb : SR X b db) (hN : X.N[i]? = some x := by rfl) (hvis : Vis X.env.scope x := by first | exact Or.inl rfl | exact Or.inr (Or.inl rfl) | exact Or.inr (Or.inr rfl)) (hd : (x == ("__debug__" : Str)) = false := by decide) (hcd : (x == ("__classdict__" : Str)) = false := by decide) :
    ST X (.Compare (.Name x px) [co] [b] pos) (o2n o i db) := ptw (pt_cmpR ho (pe_var hN hvis hd hcd) hb hm) fun _ _ _ h => i2n hv h
end

/-! ### a name's thing is frozen ahead: nothing is done for it -/
def fz (i : Nat) (d : DE) : DE := fun env => match env[i]? with
  | some t => d (env.set i (frz t))
  | none => none
section
variable {K : PySem.W.Frag} {mg : Mg} {σ : L2.St} {F H : Hp} {env : List T} {S : AS} {i : Nat}
theorem freeze_ok {t : T} (ok : Ok K mg F H σ env S) (h : env[i]? = some t) : ∃ F' S', Stp F H S F' H S' ∧ Ok K mg F' H σ (env.set i (frz t)) S' := by
  obtain ⟨s, A, B, e1, e2, e3, e4, rest⟩ := ok.st.split h
  have ff := frF_le (A := A) ok.le
  have kB : ∀ y, B y → H y = H y ∧ frF F H A y = none := fun y z => ⟨rfl, by rw [frF_out fun a => e3 y a z]; exact (ok.st.dom y ((e4 y).mpr (.inr z))).2⟩
  have r' : RepO K mg (frF F H A) H s (frz t) Emp := by
    cases s with
    | none =>
      obtain ⟨rfl, _⟩ := e2
      exact ⟨by rw [frz], fun _ z => z⟩
    | some v => exact Rep.freeze ff.1 e2 (fun y z => frF_in z) fun _ z => z
  have := rest (frF F H A) H s (frz t) Emp ff.1 kB r' emp_dj
  rw [set_self' e1] at this
  exact ⟨frF F H A, Cup Emp B, frF_stp ok.le (fun y z => (e4 y).mpr (.inl z)) fun y z => (e4 y).mpr (.inr (z.elim (fun z => z.elim) id)), ⟨ff.2, this⟩⟩
theorem fzE_imp {d : DE} {Q : VK} (h : tE K mg (fz i d) σ H Q) : tE K mg d σ H Q := by
  obtain ⟨F, env, S, t, e, ok, hd, q⟩ := h
  unfold fz at hd
  split at hd
  · rename_i u hu
    obtain ⟨F', S', st, ok'⟩ := freeze_ok ok hu
    exact ⟨F', _, S', t, e, ok', hd, fun v F2 H2 S2 R st2 ok2 r dj => q v F2 H2 S2 R (st.trans st2) ok2 r dj⟩
  · cases hd
end
theorem SE.fz {X : Cx} {e : Expr} {d : DE} (i : Nat) (h : SE X e d) : SE X e (Tr.fz i d) := pew h fun _ _ _ => fzE_imp
end Tr


set_option Elab.async false
set_option linter.all false
set_option maxRecDepth 100000
set_option maxHeartbeats 4000000
/-! D12: places within things, changed in place; built-ins of two. -/
namespace Tr
open PySem PySem.Spec PyProof.Rows L2

section
variable (K : PySem.W.Frag) (mg : Mg)
/-- a place within the slots: what stands there, whose it is, and how the rest goes on -/
def Foc (F H : Hp) (σ : L2.St) (S : AS) (v : V) (t : T) (put : T → List T) : Prop :=
  ∃ A B, Rep K mg F H v t A ∧ Dj A B ∧ (∀ x, S x ↔ A x ∨ B x) ∧
    ∀ (H' : Hp) (t' : T) (A' : AS), (∀ x, B x → H' x = H x) → Rep K mg F H' v t' A' → Dj A' B → StR K mg F H' σ (put t') (Cup A' B)
/-- what a place's expression looks at -/
abbrev DP := List T → Option (T × (T → List T))
def tP (d : DP) : TE := fun σ H Q => ∃ F env S t put, Ok K mg F H σ env S ∧ d env = some (t, put) ∧ ∀ v, Foc K mg F H σ S v t put → Q v H
end
def SP (X : Cx) (e : Expr) (d : DP) : Prop := PE X e (tP X.K X.mg d)
def dpV (i : Nat) : DP := fun env => (gV i env).map fun t => (t, fun t' => env.set i t')
def dpIx (da : DP) (db : DV) : DP := fun env => match da env, db env with
  | some (.nd o .lst xs, put), some (.lf (.int i)) => (ixN xs.length i).bind fun j => (xs[j]?).map fun t => (t, fun t' => put (.nd o .lst (xs.set j t')))
  | some (.nd o .tup xs, put), some (.lf (.int i)) => (ixN xs.length i).bind fun j => (xs[j]?).map fun t => (t, fun t' => put (.nd o .tup (xs.set j t')))
  | _, _ => none
section
variable {K : PySem.W.Frag} {mg : Mg} {F H : Hp} {σ : L2.St} {env : List T} {S : AS}
theorem foc_slot {i : Nat} {t : T} (ok : Ok K mg F H σ env S) (h : gV i env = some t) : ∃ v, σ[i]? = some (some v) ∧ Foc K mg F H σ S v t (fun t' => env.set i t') := by
  obtain ⟨g1, g2⟩ := gV_some h
  obtain ⟨v, A, B, ev, rx, d, hS, rest⟩ := ok.st.slot g1 g2
  refine ⟨v, ev, A, B, rx, d, hS, fun H' t' A' k r dj => ?_⟩
  have := rest F H' (some v) t' A' (Le.refl _) (fun x z => ⟨k x z, (ok.st.dom x ((hS x).mpr (.inr z))).2⟩) r dj
  rwa [set_self' ev] at this
theorem Reps.focus : ∀ {vs : List V} {ts : List T} {S0 : AS}, Reps K mg F H vs ts S0 → ∀ {j : Nat} {t : T}, ts[j]? = some t →
    ∃ v A B, vs[j]? = some v ∧ Rep K mg F H v t A ∧ Dj A B ∧ (∀ x, S0 x ↔ A x ∨ B x) ∧
      ∀ (H' : Hp) (t' : T) (A' : AS), (∀ x, B x → H' x = H x) → Rep K mg F H' v t' A' → Dj A' B → Reps K mg F H' vs (ts.set j t') (Cup A' B)
  | _, _, _, .nil _, j, t, h => by simp at h
  | _, _, S0, .cons (vs := vs) (ts := ts) (v := v) (t := t0) (S1 := S1) (S2 := S2) r q d hS, 0, t, h => by
    have e : t0 = t := by simpa using h
    subst e
    exact ⟨v, S1, S2, rfl, r, d, hS, fun H' t' A' k r' dj => .cons r' (q.frame (Le.refl _) fun x z => ⟨k x z, (q.dom x z).2⟩) dj fun _ => Iff.rfl⟩
  | _, _, S0, .cons (vs := vs) (ts := ts) (v := w) (S1 := S1) (S2 := S2) r q d hS, j + 1, t, h => by
    obtain ⟨v, A, B, h1, h2, h3, h4, h5⟩ := Reps.focus q (by simpa using h)
    refine ⟨v, A, Cup S1 B, by simpa using h1, h2, fun x a b => b.elim (fun b => d x b ((h4 x).mpr (.inl a))) (h3 x a), fun x => ?_, fun H' t' A' k r' dj => ?_⟩
    · rw [hS x, h4 x]
      exact ⟨fun z => z.elim (fun z => .inr (.inl z)) fun z => z.elim .inl fun z => .inr (.inr z), fun z => z.elim (fun z => .inr (.inl z)) fun z => z.elim .inl fun z => .inr (.inr z)⟩
    · have q' := h5 H' t' A' (fun x z => k x (.inr z)) r' fun x a b => dj x a (.inr b)
      refine .cons (r.frame (Le.refl _) fun x z => ⟨k x (.inl z), (r.dom x z).2⟩) q' (fun x a b => b.elim (fun b => dj x b (.inl a)) fun b => d x a ((h4 x).mpr (.inr b))) fun x => ?_
      exact ⟨fun z => z.elim (fun z => .inr (.inl z)) fun z => z.elim .inl fun z => .inr (.inr z), fun z => z.elim (fun z => .inr (.inl z)) fun z => z.elim .inl fun z => .inr (.inr z)⟩
/-- a part of what stands at a place -/
theorem foc_child {v : V} {o : Bool} {k : Kd} {xs : List T} {put : T → List T} (f : Foc K mg F H σ S v (.nd o k xs) put) {j : Nat} {t : T} (h : xs[j]? = some t) :
    ∃ a vs w R, v = .ref a ∧ (Le F H → Here K mg H a k vs) ∧ vs[j]? = some w ∧ vs.length = xs.length ∧ (∀ x, R x → S x) ∧ Rep K mg F H w t R ∧ Foc K mg F H σ S w t (fun t' => put (.nd o k (xs.set j t'))) := by
  obtain ⟨A, B, r, d, hS, rest⟩ := f
  cases r with
  | @own a _ ho vs _ _ S0 h1 h2 c r na hA =>
    obtain ⟨w, A1, B1, g1, g2, g3, g4, g5⟩ := r.focus h
    refine ⟨a, vs, w, A1, rfl, fun _ => .of h1 c, g1, r.length (S := Emp), fun x z => (hS x).mpr (.inl ((hA x).mpr (.inr ((g4 x).mpr (.inl z))))), g2, A1, fun x => x = a ∨ B1 x ∨ B x, g2, fun x z y => ?_, fun x => ?_, fun H' t' A' kp r' dj => ?_⟩
    · rcases y with y | y | y
      · subst y; exact na ((g4 x).mpr (.inl z))
      · exact g3 x z y
      · exact d x ((hA x).mpr (.inr ((g4 x).mpr (.inl z)))) y
    · rw [hS x, hA x, g4 x]
      constructor
      · rintro ((z | z | z) | z)
        · exact .inr (.inl z)
        · exact .inl z
        · exact .inr (.inr (.inl z))
        · exact .inr (.inr (.inr z))
      · rintro (z | z | z | z)
        · exact .inl (.inr (.inl z))
        · exact .inl (.inl z)
        · exact .inl (.inr (.inr z))
        · exact .inr z
    · have q' := g5 H' t' A' (fun x z => kp x (.inr (.inl z))) r' fun x a b => dj x a (.inr (.inl b))
      have na' : ¬ Cup A' B1 a := fun z => z.elim (fun z => dj a z (.inl rfl)) fun z => na ((g4 a).mpr (.inr z))
      have ow : Rep K mg F H' (.ref a) (.nd true k (xs.set j t')) (fun x => x = a ∨ Cup A' B1 x) := .own ((kp a (.inl rfl)).trans h1) h2 c q' na' fun _ => Iff.rfl
      have := rest H' _ _ (fun x z => kp x (.inr (.inr z))) ow fun x z y => ?_
      · refine this.iff fun x => ?_
        constructor
        · rintro (z | z | z | z)
          · exact .inl (.inr (.inl z))
          · exact .inl (.inl z)
          · exact .inl (.inr (.inr z))
          · exact .inr z
        · rintro ((z | z | z) | z)
          · exact .inr (.inl z)
          · exact .inl z
          · exact .inr (.inr (.inl z))
          · exact .inr (.inr (.inr z))
      · rcases z with z | z | z
        · subst z; exact d x ((hA x).mpr (.inl rfl)) y
        · exact dj x z (.inr (.inr y))
        · exact d x ((hA x).mpr (.inr ((g4 x).mpr (.inr z)))) y
  | @frz a _ ho vs _ _ h1 c r =>
    obtain ⟨w, A1, B1, g1, g2, g3, g4, g5⟩ := r.focus h
    refine ⟨a, vs, w, A1, rfl, fun le => .of (le _ _ h1) c, g1, r.length (S := Emp), fun x z => (hS x).mpr (.inl ((g4 x).mpr (.inl z))), g2, A1, fun x => B1 x ∨ B x, g2, fun x z y => y.elim (g3 x z) (d x ((g4 x).mpr (.inl z))), fun x => ?_, fun H' t' A' kp r' dj => ?_⟩
    · rw [hS x, g4 x]; exact or_assoc
    · have q' := g5 H' t' A' (fun x z => kp x (.inl z)) r' fun x a b => dj x a (.inl b)
      have := rest H' (.nd false k (xs.set j t')) _ (fun x z => kp x (.inr z)) (.frz h1 c q') fun x z y => z.elim (fun z => dj x z (.inr y)) fun z => d x ((g4 x).mpr (.inr z)) y
      exact this.iff fun x => ⟨fun z => z.elim (fun z => .inl (.inl z)) fun z => z.elim (fun z => .inl (.inr z)) .inr, fun z => z.elim (fun z => z.elim .inl fun z => .inr (.inl z)) fun z => .inr (.inr z)⟩
  | @rol a vs _ _ h1 r =>
    obtain ⟨w, A1, B1, g1, g2, g3, g4, g5⟩ := r.focus h
    refine ⟨a, vs, w, A1, rfl, fun le => le.sqL h1, g1, r.length (S := Emp), fun x z => (hS x).mpr (.inl ((g4 x).mpr (.inl z))), g2, A1, fun x => B1 x ∨ B x, g2, fun x z y => y.elim (g3 x z) (d x ((g4 x).mpr (.inl z))), fun x => ?_, fun H' t' A' kp r' dj => ?_⟩
    · rw [hS x, g4 x]; exact or_assoc
    · have q' := g5 H' t' A' (fun x z => kp x (.inl z)) r' fun x a b => dj x a (.inl b)
      have := rest H' (.nd false .rol (xs.set j t')) _ (fun x z => kp x (.inr z)) (.rol h1 q') fun x z y => z.elim (fun z => dj x z (.inr y)) fun z => d x ((g4 x).mpr (.inr z)) y
      exact this.iff fun x => ⟨fun z => z.elim (fun z => .inl (.inl z)) fun z => z.elim (fun z => .inl (.inr z)) .inr, fun z => z.elim (fun z => z.elim .inl fun z => .inr (.inl z)) fun z => .inr (.inr z)⟩
  | @rot a vs _ _ h1 r =>
    obtain ⟨w, A1, B1, g1, g2, g3, g4, g5⟩ := r.focus h
    refine ⟨a, vs, w, A1, rfl, fun le => le.sqT h1, g1, r.length (S := Emp), fun x z => (hS x).mpr (.inl ((g4 x).mpr (.inl z))), g2, A1, fun x => B1 x ∨ B x, g2, fun x z y => y.elim (g3 x z) (d x ((g4 x).mpr (.inl z))), fun x => ?_, fun H' t' A' kp r' dj => ?_⟩
    · rw [hS x, g4 x]; exact or_assoc
    · have q' := g5 H' t' A' (fun x z => kp x (.inl z)) r' fun x a b => dj x a (.inl b)
      have := rest H' (.nd false .rot (xs.set j t')) _ (fun x z => kp x (.inr z)) (.rot h1 q') fun x z y => z.elim (fun z => dj x z (.inr y)) fun z => d x ((g4 x).mpr (.inr z)) y
      exact this.iff fun x => ⟨fun z => z.elim (fun z => .inl (.inl z)) fun z => z.elim (fun z => .inl (.inr z)) .inr, fun z => z.elim (fun z => z.elim .inl fun z => .inr (.inl z)) fun z => .inr (.inr z)⟩
theorem ixN_atI {vs : List V} {n j : Nat} {i : Int} {w : V} (h : ixN n i = some j) (hl : vs.length = n) (hw : vs[j]? = some w) : atI vs i = some w := by
  unfold L2.atI
  rw [hl, h]
  exact hw
theorem pix_imp {da : DP} {db : DV} {Q : VK} (h : tP K mg (dpIx da db) σ H Q) : tOp (rIxA K) (tP K mg da) (tV K mg db) σ H Q := by
  obtain ⟨F, env, S, t, put, ok, hd, q⟩ := h
  unfold dpIx at hd
  split at hd
  · rename_i o xs p i h1 h2
    obtain ⟨j, e1, e2⟩ := Option.bind_eq_some_iff.mp hd
    obtain ⟨t', e3, e4⟩ := Option.map_eq_some_iff.mp e2
    cases e4
    refine ⟨F, env, S, _, _, ok, h1, fun v f => ⟨F, env, S, _, ok, h2, fun w R rw' => ?_⟩⟩
    obtain ⟨a, vs, u, R', rfl, hh, g1, g2, g3, g4, g5⟩ := foc_child f e3
    exact .inl ⟨a, vs, _, u, rfl, rw'.lf_inv.1, SqL.of (hh ok.le), ixN_atI e1 g2 g1, q u g5⟩
  · rename_i o xs p i h1 h2
    obtain ⟨j, e1, e2⟩ := Option.bind_eq_some_iff.mp hd
    obtain ⟨t', e3, e4⟩ := Option.map_eq_some_iff.mp e2
    cases e4
    refine ⟨F, env, S, _, _, ok, h1, fun v f => ⟨F, env, S, _, ok, h2, fun w R rw' => ?_⟩⟩
    obtain ⟨a, vs, u, R', rfl, hh, g1, g2, g3, g4, g5⟩ := foc_child f e3
    exact .inr (.inl ⟨a, vs, _, u, rfl, rw'.lf_inv.1, SqT.of (hh ok.le), ixN_atI e1 g2 g1, q u g5⟩)
  · cases hd
/-- a change at a place -/
theorem foc_mut {r : V → List V → Hp → VK → Prop} {op : T → List T → Option (T × T)} {vs : List V} {ts : List T} {t t' res : T} {put : T → List T} {v : V} {Q : VK} (ho : OpM K mg r op) (le : Le F H) (f : Foc K mg F H σ S v t put) (rs : Reps K mg F H vs ts Emp) (hop : op t ts = some (res, t'))
    (q : ∀ w F' H' S' R', Stp F H S F' H' (Cup S' R') → Ok K mg F' H' σ (put t') S' → Rep K mg F' H' w res R' → Dj S' R' → Q w H') (dom : ∀ x, S x → (∃ o, H x = some o) ∧ F x = none) : r v vs H Q := by
  obtain ⟨A, B, rx, d, hS, rest⟩ := f
  refine ho F H v t A vs ts Emp res t' Q le rx rs (fun _ _ z => z.elim) hop fun w H' A' Rv stm le' rx' rw' dj' => ?_
  have djB : Dj (Cup A Emp) B := fun y a b => a.elim (fun a => d y a b) fun a => a.elim
  have kB := stm.keeps (R := B) (fun y z => dom y ((hS y).mpr (.inr z))) djB
  have djB' : Dj (Cup A' Rv) B := stm.dj (fun y z => (dom y ((hS y).mpr (.inr z))).1) djB
  have hn := rest H' t' A' (fun x z => (kB x z).1) rx' fun y a b => djB' y (.inl a) b
  refine q w F H' (Cup A' B) Rv ?_ ⟨le', hn⟩ rw' fun y a b => a.elim (fun a => dj' y a b) fun a => djB' y (.inr b) a
  have b1 := stm.frame B
  have b2 : Stp F H S F H' (Cup (Cup A' Rv) B) := b1.big fun y z => z.elim (fun z => z.elim (fun z => (hS y).mpr (.inl z)) fun z => z.elim) fun z => (hS y).mpr (.inr z)
  exact b2.weak fun y z => z.elim (fun z => z.elim (fun z => .inl (.inl z)) .inr) fun z => .inl (.inr z)
/-- p.m(), p.m(e): what stands at a place is changed -/
def dMutP0 (ty : String) (dp : DP) (op : T → List T → Option (T × T)) : DE := fun env => (dp env).bind fun p => if isTy ty p.1 = true then (op p.1 []).map fun q => (q.1, p.2 q.2) else none
def dMutP (ty : String) (dp : DP) (op : T → List T → Option (T × T)) (da : DV) : DE := fun env => (dp env).bind fun p => (da env).bind fun u => if isTy ty p.1 = true ∧ cln u = true then (op p.1 [u]).map fun q => (q.1, p.2 q.2) else none
theorem mutP0_imp {ty : String} {dp : DP} {r : V → List V → Hp → VK → Prop} {op : T → List T → Option (T × T)} {Q : VK} (ho : OpM K mg r op) (h : tE K mg (dMutP0 ty dp op) σ H Q) : tBM0 K ty r (tP K mg dp) σ H Q := by
  obtain ⟨F, env, S, res, e, ok, hd, q⟩ := h
  obtain ⟨⟨t, put⟩, h1, h2⟩ := Option.bind_eq_some_iff.mp hd
  split at h2
  · rename_i hi
    obtain ⟨⟨r', t'⟩, h4, h5⟩ := Option.map_eq_some_iff.mp h2
    cases h5
    refine ⟨F, env, S, t, put, ok, h1, fun v f => ⟨?_, foc_mut ho ok.le f (.nil fun _ z => z) h4 q ok.st.dom⟩⟩
    obtain ⟨A, B, rx, _⟩ := f
    exact isTy_ok ok.le rx hi
  · cases h2
theorem mutP_imp {ty : String} {dp : DP} {da : DV} {r : V → List V → Hp → VK → Prop} {op : T → List T → Option (T × T)} {Q : VK} (ho : OpM K mg r op) (h : tE K mg (dMutP ty dp op da) σ H Q) : tBM K ty r (tP K mg dp) (tCons (tV K mg da) tNil) σ H Q := by
  obtain ⟨F, env, S, res, e, ok, hd, q⟩ := h
  obtain ⟨⟨t, put⟩, h1, h2⟩ := Option.bind_eq_some_iff.mp hd
  obtain ⟨u, h3, h4⟩ := Option.bind_eq_some_iff.mp h2
  split at h4
  · rename_i hi
    obtain ⟨⟨r', t'⟩, h5, h6⟩ := Option.map_eq_some_iff.mp h4
    cases h6
    refine ⟨F, env, S, t, put, ok, h1, fun v f => ⟨?_, F, env, S, u, ok, h3, fun w R rw' => foc_mut ho ok.le f (.cons (S1 := Emp) (S2 := Emp) (rw'.clean0 hi.2) (.nil fun _ z => z) (fun _ z => z.elim) fun _ => ⟨.inl, fun z => z.elim id id⟩) h5 q ok.st.dom⟩⟩
    obtain ⟨A, B, rx, _⟩ := f
    exact isTy_ok ok.le rx hi.1
  · cases h4
end
section
variable {X : Cx} {x : Str} {i : Nat} {a b e o : Expr} {es : List Expr} {name : Str} {ty id : String} {px pos apos cpos : Pos} {r : V → List V → Hp → VK → Prop} {op : T → List T → Option (T × T)} {da dp : DP} {db dv : DV}
theorem sp_name (hN : X.N[i]? = some x := by rfl) (hv : Vis X.env.scope x := by first | exact Or.inl rfl | exact Or.inr (Or.inl rfl) | exact Or.inr (Or.inr rfl)) (hd : (x == ("__debug__" : Str)) = false := by decide)
    (hcd : (x == ("__classdict__" : Str)) = false := by decide) : SP X (.Name x px) (dpV i) := pew (pe_var hN hv hd hcd) fun σ H Q ⟨F, env, S, t, put, ok, h, q⟩ => by
  obtain ⟨t', e1, e2⟩ := Option.map_eq_some_iff.mp h
  cases e2
  obtain ⟨v, e3, f⟩ := foc_slot ok e1
  exact ⟨v, e3, q v f⟩
theorem sp_ix (hu : X.A.units + 1 < cLine) (ha : SP X a da) (hb : SV X b db) (hs : PlainIx b := by exact fun _ _ => rfl) : SP X (.Subscript a b pos) (dpIx da db) := pew (pe_ix (ix_all hu) ha hb hs) fun _ _ _ => pix_imp
theorem se_mutP (pa : PlainAttrs ty) (slot : Slot ty name id) (hty : typeOf (.builtin id) = pure (.type "method_descriptor")) (hm : MtR X id r) (ho : OpM X.K X.mg r op) (hp : SP X o dp) (ha : SV X e dv)
    (hbase : attributeBase o name X.env (eval o X.env) = eval o X.env := by rfl)
    (hfew : ((backTo cpos (starEach (e :: []) X.env)).all (fun y => !y.1) && (backToKw cpos (keywordEach [] X.env)).all (fun y => y.1.isSome) && decide ((e :: []).length + ([] : List Keyword).length + (if ([] : List Keyword).isEmpty then 0 else 1) < 30)) = true := by rfl)
    (hline : (apos.endLine == cpos.line) = true := by rfl) (hs : starEach (e :: []) X.env = (false, eval e X.env) :: starEach [] X.env := by rfl) (hplain : (backTo cpos (starEach [] X.env)).any (·.1) = false := by rfl) :
    SE X (.Call (.Attribute o name apos) [e] [] cpos) (dMutP ty dp op dv) := pew (pe_bm pa slot hty hm hp (pa_cons ha pa_nil hs) hbase hfew hline hs hplain) fun _ _ _ h => mutP_imp ho h
theorem se_mutP0 (pa : PlainAttrs ty) (slot : Slot ty name id) (hty : typeOf (.builtin id) = pure (.type "method_descriptor")) (hm : MtR X id r) (ho : OpM X.K X.mg r op) (hp : SP X o dp)
    (hbase : attributeBase o name X.env (eval o X.env) = eval o X.env := by rfl) (hline : (apos.endLine == cpos.line) = true := by rfl) :
    SE X (.Call (.Attribute o name apos) [] [] cpos) (dMutP0 ty dp op) := pew (pe_bm0 pa slot hty hm hp hbase hline) fun _ _ _ h => mutP0_imp ho h
end

/-! ### built-ins of two -/
section
variable {X : Cx} {e1 e2 : Expr} {x : Str} {id : String} {p pos : Pos} {d1 d2 : DV} {r : List V → Hp → VK → Prop} {o : T → T → Option T}
theorem sv_b2 (hc : CallR X (.builtin id) r) (hv : Op2V X.K X.mg (fun x y H Q => r [x, y] H Q) o) (hb : bootBuiltins x = some (.builtin id)) (hg : Gl X x) (hm : X.mg x = none) (h1 : SV X e1 d1) (h2 : SV X e2 d2) (hn : x ≠ "__name__" := by decide) (hdb : (x == ("__debug__" : Str)) = false := by decide)
    (hs : starEach (e1 :: [e2]) X.env = (false, eval e1 X.env) :: starEach [e2] X.env := by rfl) (hs2 : starEach (e2 :: []) X.env = (false, eval e2 X.env) :: starEach [] X.env := by rfl) (hpl : (backTo pos (starEach [e2] X.env)).any (·.1) = false := by rfl) :
    SV X (.Call (.Name x p) [e1, e2] [] pos) (o2V o d1 d2) := pew (pe_callB hc hg hm hb (pa_cons h1 (pa_cons h2 pa_nil hs2) hs) hn hdb (he := hs) (hpl := hpl)) fun _ _ _ h => i2V hv h
end
def oMax : T → T → Option T
  | .lf (.int i), .lf (.int j) => some (.lf (.int (if j > i then j else i)))
  | _, _ => none
def oMin : T → T → Option T
  | .lf (.int i), .lf (.int j) => some (.lf (.int (if j < i then j else i)))
  | _, _ => none
theorem v_max {K : PySem.W.Frag} {mg : Mg} : Op2V K mg (fun x y H Q => ∃ i j, [x, y] = [.int i, .int j] ∧ Q (.int (if j > i then j else i)) H) oMax := fun F H x y t s R R2 u Q le r1 r2 h q => by
  unfold oMax at h
  split at h
  · cases h
    exact ⟨_, _, by rw [r1.lf_inv.1, r2.lf_inv.1], q _ Emp (.lf rfl fun _ z => z)⟩
  · cases h
theorem v_min {K : PySem.W.Frag} {mg : Mg} : Op2V K mg (fun x y H Q => ∃ i j, [x, y] = [.int i, .int j] ∧ Q (.int (if j < i then j else i)) H) oMin := fun F H x y t s R R2 u Q le r1 r2 h q => by
  unfold oMin at h
  split at h
  · cases h
    exact ⟨_, _, by rw [r1.lf_inv.1, r2.lf_inv.1], q _ Emp (.lf rfl fun _ z => z)⟩
  · cases h
/-- int(x) of a number or a truth -/
def oInt : T → Option T
  | .lf (.int i) => some (.lf (.int i))
  | .lf (.bl k) => some (.lf (.int (if k = true then 1 else 0)))
  | _ => none
theorem v_int {K : PySem.W.Frag} {mg : Mg} : Op1V K mg (fun x H Q => (∃ i, [x] = [.int i] ∧ Q (.int i) H) ∨ ∃ k, [x] = [.bl k] ∧ Q (.int (if k then 1 else 0)) H) oInt := fun F H x t R u Q le r1 h q => by
  unfold oInt at h
  split at h
  · cases h
    exact .inl ⟨_, by rw [r1.lf_inv.1], q _ Emp (.lf rfl fun _ z => z)⟩
  · cases h
    exact .inr ⟨_, by rw [r1.lf_inv.1], q _ Emp (.lf rfl fun _ z => z)⟩
  · cases h
/-! ### lent to an answer that is no thing: all stays as it was -/
section
variable {K : PySem.W.Frag} {mg : Mg} {F F' H : Hp} {σ : L2.St}
theorem StR.freeze (ff : Le F F') {env : List T} {S : AS} (r : StR K mg F H σ env S) : (∀ x, S x → F' x = H x) → StR K mg F' H σ (frzs env) Emp := by
  induction r with
  | nil h => intro _; rw [frzs]; exact .nil fun _ z => z
  | @cons s t σ env S S1 S2 r _ d hS ih =>
    intro k
    rw [frzs]
    refine .cons (S1 := Emp) (S2 := Emp) ?_ (ih fun x z => k x ((hS x).mpr (.inr z))) (fun _ z => z.elim) fun x => ⟨.inl, fun z => z.elim id id⟩
    cases s with
    | none => obtain ⟨rfl, _⟩ := r; exact ⟨by rw [frz], fun _ z => z⟩
    | some v => exact Rep.freeze ff r (fun x z => k x ((hS x).mpr (.inl z))) fun _ z => z
mutual
/-- a thing newly made, all of it one's own -/
def pureT : T → Bool
  | .no => false
  | .lf _ => true
  | .nd o _ xs => o && pureTs xs
def pureTs : List T → Bool
  | [] => true
  | t :: ts => pureT t && pureTs ts
end
mutual
theorem Rep.unfreeze (ff : Le F F') : ∀ {v : V} {t : T} {R : AS}, Rep K mg F' H v t R → pureT t = true → Rep K mg F H v t R
  | _, _, _, .no _, c => by simp [pureT] at c
  | _, _, _, .lf h g, _ => .lf h g
  | _, _, _, .own h1 h2 c r na hS, p => .own h1 (by
      cases e : F _ with
      | none => rfl
      | some o => rw [ff _ _ e] at h2; cases h2) c (Reps.unfreeze ff r (by simpa [pureT] using p)) na hS
  | _, _, _, .frz _ _ _, c => by simp [pureT] at c
  | _, _, _, .rol _ _, c => by simp [pureT] at c
  | _, _, _, .rot _ _, c => by simp [pureT] at c
theorem Reps.unfreeze (ff : Le F F') : ∀ {vs : List V} {ts : List T} {R : AS}, Reps K mg F' H vs ts R → pureTs ts = true → Reps K mg F H vs ts R
  | _, _, _, .nil h, _ => .nil h
  | _, _, _, .cons r q d hS, p => .cons (Rep.unfreeze ff r (by simp [pureTs] at p; exact p.1)) (Reps.unfreeze ff q (by simp [pureTs] at p; exact p.2)) d hS
end
def bw (d : DE) : DE := fun env => match d (frzs env) with
  | some (t, _) => if pureT t = true then some (t, env) else none
  | none => none
theorem bw_imp {d : DE} {Q : VK} (h : tE K mg (bw d) σ H Q) : tE K mg d σ H Q := by
  obtain ⟨F, env, S, t, e, ok, hd, q⟩ := h
  unfold bw at hd
  split at hd
  · rename_i t' e2 h2
    split at hd
    · rename_i hp
      cases hd
      have ff := frF_le (A := S) ok.le
      refine ⟨frF F H S, frzs env, Emp, t, e2, ⟨ff.2, ok.st.freeze ff.1 fun x z => frF_in z⟩, h2, fun v F2 H2 S2 R st2 ok2 r dj => ?_⟩
      have kp : ∀ a o, H a = some o → H2 a = some o := fun a o z => st2.kp a o z fun z => z
      have nw : ∀ a, R a → H a = none := fun a z => (st2.no a (.inr z)).elim (fun z => z.elim) id
      refine q v F H2 S R ⟨Le.refl _, fun a o z _ => kp a o z, fun _ _ z => .inl z, fun a z => z.elim .inl fun z => .inr (nw a z)⟩ ⟨fun a o z => kp a o (ok.le a o z), ok.st.frame (Le.refl _) fun x z => ?_⟩ (r.unfreeze (ff.1.trans st2.ff) hp) fun x z y => ?_
      · obtain ⟨⟨o, e1⟩, e3⟩ := ok.st.dom x z
        exact ⟨(kp x o e1).trans e1.symm, e3⟩
      · obtain ⟨⟨o, e1⟩, e3⟩ := ok.st.dom x z
        rw [nw x y] at e1
        cases e1
    · cases hd
  · cases hd
end
theorem SE.bw {X : Cx} {e : Expr} {d : DE} (h : SE X e d) : SE X e (Tr.bw d) := pew h fun _ _ _ => bw_imp
section
variable {X : Cx} {elt tg iter c : Expr} {scope : Scope} {own : List (Str × Nat)} {pos : Pos} {W vs : List Nat} {di : DI} {dg : DG} {dc de : DE}
theorem ss_setLcB {i : Nat} {y : Str} {py : Pos} {spos : Pos} (hc : X.calm = true) (hN : X.N.Nodup) (hy : X.N[i]? = some y) (hyl : X.env.scope.names.lookup y = some .local)
    (hsw : swapsWith (.ListComp elt [⟨tg, iter, [], 0⟩] scope pos) (some (.Name y py)) spos.line X.env = pure true) (hi : SI X tg iter di) (ok : BlkOk X.N X.env.scope scope own) (hvs : own.map (·.2) = vs) (nd : vs.Nodup) (hW : ∀ i ∈ W, i ∈ vs)
    (hg : ∀ (s : Shared) (H : Hp) (C : Addr) (cl : List (Str × Addr)) (fp : List Addr), SG (X.blk s H scope (compEnvC scope cl C X.env) fp) tg W dg)
    (he : ∀ (s : Shared) (H : Hp) (C : Addr) (cl : List (Str × Addr)) (fp : List Addr), SE (X.blk s H scope (compEnvC scope cl C X.env) fp) elt de) (hs : ∀ x, foldedSetIterable iter X.env x = pure x := by intro _; rfl) :
    SS X (.Assign [.Name y py] (.ListComp elt [⟨tg, iter, [], 0⟩] scope pos) spos) [i] (dSet i (bw (dLc di dg dYes de vs))) :=
  by
  subst hvs
  exact psw (ps_setLc (g := tG X.K X.mg W dg) (tt := tYes) (te := tE X.K X.mg de) hc hN hy hyl hsw hi ok hg (fun _ _ _ _ _ => pts_nil) he hs) fun D σ H h => lc_imp nd hW yes_imp (bw_imp (set_imp h))
theorem ss_setLcIfB {i : Nat} {y : Str} {py : Pos} {spos : Pos} (hc : X.calm = true) (hN : X.N.Nodup) (hy : X.N[i]? = some y) (hyl : X.env.scope.names.lookup y = some .local)
    (hsw : swapsWith (.ListComp elt [⟨tg, iter, [c], 0⟩] scope pos) (some (.Name y py)) spos.line X.env = pure true) (hi : SI X tg iter di) (ok : BlkOk X.N X.env.scope scope own) (hvs : own.map (·.2) = vs) (nd : vs.Nodup) (hW : ∀ i ∈ W, i ∈ vs)
    (hg : ∀ (s : Shared) (H : Hp) (C : Addr) (cl : List (Str × Addr)) (fp : List Addr), SG (X.blk s H scope (compEnvC scope cl C X.env) fp) tg W dg)
    (ht : ∀ (s : Shared) (H : Hp) (C : Addr) (cl : List (Str × Addr)) (fp : List Addr), ST (X.blk s H scope (compEnvC scope cl C X.env) fp) c dc)
    (he : ∀ (s : Shared) (H : Hp) (C : Addr) (cl : List (Str × Addr)) (fp : List Addr), SE (X.blk s H scope (compEnvC scope cl C X.env) fp) elt de) (hs : ∀ x, foldedSetIterable iter X.env x = pure x := by intro _; rfl) :
    SS X (.Assign [.Name y py] (.ListComp elt [⟨tg, iter, [c], 0⟩] scope pos) spos) [i] (dSet i (bw (dLc di dg dc de vs))) :=
  by
  subst hvs
  exact psw (ps_setLc (g := tG X.K X.mg W dg) (tt := tTest (tR X.K X.mg dc)) (te := tE X.K X.mg de) hc hN hy hyl hsw hi ok hg (fun s H C cl fp => pts_one (ht s H C cl fp)) he hs) fun D σ H h => lc_imp nd hW (fun _ _ _ z => z) (bw_imp (set_imp h))
end
section
variable {X : Cx} {a b : Expr} {pos : Pos} {da db : DE}
theorem sr_ixo (hu : X.A.units + 1 < cLine) (ha : SE X a da) (hb : SR X b db) (hs : PlainIx b := by exact fun _ _ => rfl) : SR X (.Subscript a b pos) (o2o oIx da db) := pew (pe_ix (ix_all hu) ha hb hs) fun _ _ _ => i2o v_ix
end
end Tr


set_option Elab.async false
set_option linter.all false
set_option maxRecDepth 100000
set_option maxHeartbeats 4000000
/-! D13: enumerate; least, greatest, sum; a dict of one key; chains; list(range). -/
namespace Tr
open PySem PySem.Spec PyProof.Rows L2

/-! ### enumerate -/
def enT (n : Nat) : List T → List T
  | [] => []
  | t :: ts => .nd false .tup [lfI n, t] :: enT (n + 1) ts
def itemsE : T → Option (List T)
  | .nd _ .lst xs => some (enT 0 (frzs xs))
  | _ => none
theorem enT_get : ∀ (ts : List T) (n i : Nat), (enT n ts)[i]? = (ts[i]?).map fun t => .nd false .tup [lfI (n + i : Nat), t]
  | [], n, i => by simp [enT]
  | t :: ts, n, 0 => by simp [enT]
  | t :: ts, n, i + 1 => by
    rw [enT, List.getElem?_cons_succ, enT_get ts (n + 1) i, List.getElem?_cons_succ]
    congr 1
    funext u
    rw [show n + 1 + i = n + (i + 1) by omega]
theorem enT_length : ∀ (ts : List T) (n : Nat), (enT n ts).length = ts.length
  | [], _ => rfl
  | t :: ts, n => by rw [enT, List.length_cons, List.length_cons, enT_length ts]
section
variable {K : PySem.W.Frag} {mg : Mg} {F H : Hp}
theorem good_enum {a : Addr} {vs : List V} {its : List T} {S : AS} (r : Reps K mg F H vs its Emp) (hr : ∀ F2 H2 S2, Stp F H S F2 H2 S2 → Le F2 H2 → SqL K H2 a vs) : Good K mg (enT 0 its) (Ite K a) F H S := fun i F2 H2 S2 st le => by
  have hq := hr F2 H2 S2 st le
  refine ⟨fun t h => ?_, fun h => ⟨vs, hq, by rw [r.length (S := Emp)]; rwa [enT_length] at h⟩⟩
  rw [enT_get] at h
  obtain ⟨u, hu, rfl⟩ := Option.map_eq_some_iff.mp h
  obtain ⟨v, R, e1, e2, e3⟩ := r.get hu
  refine ⟨⟨vs, v, hq, e1⟩, fun x H3 y => ?_⟩
  obtain ⟨A, x', rfl, hA, rfl, y⟩ := y
  have e5 := (y vs hq).symm.trans e1
  cases e5
  have nA : ∀ b o, F2 b = some o → b ≠ A := fun b o e z => by rw [z] at e; rw [le A o e] at hA; cases hA
  let F3 : Hp := upd F2 A (.tup [.int (i : Nat), v])
  have l3 : Le F2 F3 := fun b o e => by show upd F2 A _ b = _; rw [upd_ne (nA b o e)]; exact e
  have rx : Rep K mg F3 (upd H2 A (.tup [.int (i : Nat), v])) v u Emp := ((e2.iff (S' := Emp) fun x => ⟨fun z => z.elim, fun z => e3 x z⟩).frame st.ff (F' := F2) (H' := H2) fun _ z => z.elim).frame l3 fun _ z => z.elim
  refine ⟨F3, ⟨l3, fun b o e _ => by rw [upd_ne fun z => by rw [z, hA] at e; cases e]; exact e, fun b o e => ?_, fun _ z => z.elim⟩, fun b o e => ?_, ?_⟩
  · by_cases hb : b = A
    · subst hb; exact .inr (.inr hA)
    · have : F3 b = F2 b := upd_ne hb
      rw [this] at e; exact .inl e
  · by_cases hb : b = A
    · subst hb
      have : F3 b = some (.tup [.int (i : Nat), v]) := upd_same
      rw [this] at e; rw [upd_same]; exact e
    · have : F3 b = F2 b := upd_ne hb
      rw [this] at e; rw [upd_ne hb]; exact le b o e
  · refine .frz (o := .tup [.int (i : Nat), v]) (vs := [.int (i : Nat), v]) upd_same rfl (.cons (S1 := Emp) (S2 := Emp) ?_ (.cons (S1 := Emp) (S2 := Emp) rx (.nil fun _ z => z) dj_emp fun _ => ⟨.inl, fun z => z.elim id id⟩) dj_emp fun _ => ⟨.inl, fun z => z.elim id id⟩)
    rw [show lfI ((0 + i : Nat) : Int) = T.lf (.int (i : Nat)) by rw [Nat.zero_add]; rfl]
    exact .lf rfl fun _ z => z
end
theorem si_enum {X : Cx} {l : Expr} {d : DE} {p pos tpos : Pos} {elts : List Expr} {kk : Nat} (hg : Gl X "enumerate") (hm : X.mg "enumerate" = none) (hl : SE X l d) (hs : starEach [l] X.env = [(false, eval l X.env)] := by rfl) : SI X (.Tuple elts kk tpos) (.Call (.Name "enumerate" p) [l] [] pos) (dIt itemsE d) :=
  piw (pi_enum hg hm (pa_cons hl pa_nil hs) hs) fun σ H Rk ⟨F, env, S, its, e, ok, hd, q⟩ => by
    obtain ⟨t, h1, h2⟩ := dIt_some hd
    unfold itemsE at h2
    split at h2
    · rename_i o xs
      cases h2
      refine ⟨F, env, S, _, e, ok, h1, fun v F1 H1 S1 R1 st ok1 r dj => ?_⟩
      obtain ⟨F', a, vs, rfl, st', ok', p, hr⟩ := items_frozen st ok1 r dj
      exact ⟨a, vs, rfl, SqL.of (hr F' H1 S1 .refl ok'.le), q _ F' H1 S1 st' ok' (good_enum p fun F2 H2 S2 s l => SqL.of (hr F2 H2 S2 s l))⟩
    · cases h2

/-! ### least, greatest, sum of a list of whole numbers -/
def oMinL : T → Option T
  | .nd _ .lst xs => (intsOf xs).bind fun is => ((isort is).head?).map fun m => .lf (.int m)
  | _ => none
def oSum : T → Option T
  | .nd _ .lst xs => (intsOf xs).map fun is => .lf (.int is.sum)
  | _ => none
section
variable {K : PySem.W.Frag} {mg : Mg} {F H : Hp}
theorem least_is {ns : List Int} {m k : Int} (h : (isort ns).head? = some k) (hm : m ∈ ns) (hl : ∀ y ∈ ns, m ≤ y) : m = k := by
  have hs := isort_sorted ns
  cases e : isort ns with
  | nil => rw [e] at h; cases h
  | cons a as =>
    rw [e] at h hs
    cases h
    have h1 : m ∈ k :: as := by rw [← e]; exact (isort_perm ns).mem_iff.mpr hm
    have h2 : k ∈ ns := (isort_perm ns).mem_iff.mp (by rw [e]; exact List.mem_cons_self ..)
    have h3 := hl k h2
    rcases List.mem_cons.mp h1 with z | z
    · exact z
    · have := (List.pairwise_cons.mp hs).1 m z
      omega
theorem v_minL : Op1V K mg (fun x H Q => rMin K [x] H Q) oMinL := fun F H x t R u Q le r1 h q => by
  unfold oMinL at h
  split at h
  · rename_i o xs
    obtain ⟨is, h1, h2⟩ := Option.bind_eq_some_iff.mp h
    obtain ⟨k, h3, rfl⟩ := Option.map_eq_some_iff.mp h2
    obtain ⟨a, vs, S0, rfl, p, _, hr⟩ := r1.nd_inv le
    have ev : vs = is.map V.int := by
      have := intsOf_some h1
      subst this
      exact reps_ints p
    subst ev
    refine ⟨a, is, rfl, SqL.of hr, ?_, fun m hm hl => ?_⟩
    · cases is with
      | nil => simp [isort] at h3
      | cons a as => simp
    · rw [least_is h3 hm hl]
      exact q _ Emp (.lf rfl fun _ z => z)
  · cases h
theorem v_sum : Op1V K mg (fun x H Q => rSum K [x] H Q) oSum := fun F H x t R u Q le r1 h q => by
  unfold oSum at h
  split at h
  · rename_i o xs
    obtain ⟨is, h1, rfl⟩ := Option.map_eq_some_iff.mp h
    obtain ⟨a, vs, S0, rfl, p, _, hr⟩ := r1.nd_inv le
    have ev : vs = is.map V.int := by
      have := intsOf_some h1
      subst this
      exact reps_ints p
    subst ev
    exact ⟨a, is, rfl, SqL.of hr, q _ Emp (.lf rfl fun _ z => z)⟩
  · cases h
end

/-! ### a op b op c -/
def oCh (o o' : T → T → Option T) (va vb vc : DV) : DV := fun env => (va env).bind fun x => (vb env).bind fun y => match o x y with
  | some (.lf (.bl true)) => (vc env).bind fun z => o' y z
  | some (.lf (.bl false)) => some (.lf (.bl false))
  | _ => none
theorem ch_imp {K : PySem.W.Frag} {mg : Mg} {r r' : R2} {o o' : T → T → Option T} {va vb vc : DV} {σ : L2.St} {H : Hp} {Q : VK} (hv : Op2V K mg r o) (hv' : Op2V K mg r' o') (h : tV K mg (oCh o o' va vb vc) σ H Q) : tChain r r' (tV K mg va) (tV K mg vb) (tV K mg vc) σ H Q := by
  obtain ⟨F, env, S, t, ok, hd, q⟩ := h
  obtain ⟨x, h1, h2⟩ := Option.bind_eq_some_iff.mp hd
  obtain ⟨y, h3, h4⟩ := Option.bind_eq_some_iff.mp h2
  refine ⟨F, env, S, x, ok, h1, fun v R rv => ⟨F, env, S, y, ok, h3, fun w R' rw' => ?_⟩⟩
  split at h4
  · rename_i e
    obtain ⟨z, h5, h6⟩ := Option.bind_eq_some_iff.mp h4
    refine hv F H v w x y R R' _ _ ok.le rv rw' e fun b R2 rb => ⟨true, rb.lf_inv.1, ?_⟩
    rw [if_pos rfl]
    exact ⟨F, env, S, z, ok, h5, fun u R3 ru => hv' F H w u y z R' R3 _ _ ok.le rw' ru h6 q⟩
  · rename_i e
    cases h4
    refine hv F H v w x y R R' _ _ ok.le rv rw' e fun b R2 rb => ⟨false, rb.lf_inv.1, ?_⟩
    rw [if_neg (by decide)]
    exact q _ Emp (.lf rfl fun _ z => z)
  · cases h4
section
variable {X : Cx} {a b c : Expr} {op op' : CmpOp} {r r' : R2} {o o' : T → T → Option T} {va vb vc : DV} {pos : Pos}
theorem sv_ch (ho : OpR X (compareOp op) r) (hv : Op2V X.K X.mg r o) (ho' : OpR X (compareOp op') r') (hv' : Op2V X.K X.mg r' o') (ha : SV X a va) (hb : SV X b vb) (hc : SV X c vc) (hm : lastMarks [op, op'] [b, c] = false := by with_unfolding_all rfl) :
    SV X (.Compare a [op, op'] [b, c] pos) (oCh o o' va vb vc) := pew (pe_chain ho ho' ha hb hc hm) fun _ _ _ => ch_imp hv hv'
theorem st_ch (ho : OpR X (compareOp op) r) (hv : Op2V X.K X.mg r o) (ho' : OpR X (compareOp op') r') (hv' : Op2V X.K X.mg r' o') (ha : SV X a va) (hb : SV X b vb) (hc : SV X c vc) (hm : lastMarks [op, op'] [b, c] = false := by with_unfolding_all rfl) :
    ST X (.Compare a [op, op'] [b, c] pos) (vr (oCh o o' va vb vc)) := ptw (pt_chain ho ho' ha hb hc hm) fun _ _ _ h => ch_imp hv hv' (vr_imp h)
end

/-! ### {k: v}; list(range(..)) -/
def dDic1 (dk dv : DV) : DE := fun env => match dk env, dv env with
  | some (.lf k), some (.lf w) => (keyOf k).map fun kk => (.nd true (.dK [kk]) [.lf w], env)
  | _, _ => none
def dLRg (d : DE) : DE := fun env => match d env with
  | some (.lf (.int j), e) => if -(2 ^ 62) ≤ j ∧ j ≤ 2 ^ 24 then some (.nd true .lst ((List.range j.toNat).map fun (k : Nat) => lfI k), e) else none
  | _ => none
section
variable {K : PySem.W.Frag} {mg : Mg} {F H : Hp} {σ : L2.St}
theorem dic1_imp {dk dv : DV} {Q : VK} (h : tE K mg (dDic1 dk dv) σ H Q) : tDisp [(tV K mg dk, tV K mg dv)] σ H Q := by
  obtain ⟨F, env, S, t, e, ok, hd, q⟩ := h
  unfold dDic1 at hd
  split at hd
  · rename_i k w h1 h2
    obtain ⟨kk, h3, h4⟩ := Option.map_eq_some_iff.mp hd
    cases h4
    intro p hp
    have np : ∀ b o, H b = some o → b ≠ p := fun b o z y => by rw [y, hp] at z; cases z
    have Fp : F p = none := ok.le.nn hp
    let H1 : Hp := upd H p (.dK [])
    have ok1 : Ok K mg F H1 σ env S := ⟨fun b o z => by show upd H p _ b = _; rw [upd_ne (np b o (ok.le b o z))]; exact ok.le b o z, ok.st.frame (Le.refl _) fun x z => ⟨by obtain ⟨⟨o, z1⟩, _⟩ := ok.st.dom x z; exact upd_ne (np x o z1), (ok.st.dom x z).2⟩⟩
    refine ⟨F, env, S, _, ok1, h1, fun v R rv => ⟨F, env, S, _, ok1, h2, fun u R' ru => ⟨upd_same, [(kk, u)], ?_, by simp, ?_⟩⟩⟩
    · rw [rv.lf_inv.1, keyOf_some h3]; rfl
    · have eh : upd H1 p (.dK (mergeK [] [(kk, u)])) = upd H p (.dK [(kk, u)]) := by
        funext b
        by_cases hb : b = p
        · subst hb; rw [upd_same, upd_same]; rfl
        · rw [upd_ne hb, upd_ne hb]; exact upd_ne hb
      show Q (.ref p) (upd H1 p (.dK (mergeK [] [(kk, u)])))
      rw [eh]
      have ru' : Rep K mg F (upd H p (.dK [(kk, u)])) u (.lf w) Emp := by rw [ru.lf_inv.1]; exact .lf ru.lf_inv.2.1 fun _ z => z
      refine q (.ref p) F _ S (fun x => x = p) ⟨Le.refl _, fun b o z _ => by rw [upd_ne (np b o z)]; exact z, fun _ _ z => .inl z, fun b z => z.elim .inl fun z => .inr (by rw [z]; exact hp)⟩
        ⟨fun b o z => by rw [upd_ne (np b o (ok.le b o z))]; exact ok.le b o z, ok.st.frame (Le.refl _) fun x z => ⟨by obtain ⟨⟨o, z1⟩, _⟩ := ok.st.dom x z; exact upd_ne (np x o z1), (ok.st.dom x z).2⟩⟩
        (.own (o := .dK [(kk, u)]) (vs := [u]) (S0 := Emp) upd_same Fp ⟨rfl, rfl⟩ (.cons (S1 := Emp) (S2 := Emp) ru' (.nil fun _ z => z) dj_emp fun _ => ⟨.inl, fun z => z.elim id id⟩) (fun z => z) fun x => ⟨.inl, fun z => z.elim id fun z => z.elim⟩) fun x z y => ?_
      obtain ⟨⟨o, z1⟩, _⟩ := ok.st.dom x z
      exact np x o z1 y
  · cases hd
theorem lrg_imp {d : DE} {Q : VK} (h : tE K mg (dLRg d) σ H Q) : tLstRg (tRg1 (tR K mg d)) σ H Q := by
  obtain ⟨F, env, S, t, e, ok, hd, q⟩ := h
  unfold dLRg at hd
  split at hd
  · rename_i j e1 h1
    split at hd
    · rename_i hj
      cases hd
      refine ⟨F, env, S, _, e, ok, h1, fun v F1 H1 S1 R1 st ok1 r1 => ⟨j, r1.lf_inv.1, ⟨by omega, by omega, hj.1, by omega, by omega⟩, fun p hp => ?_⟩⟩
      have ev : rgV 0 j = ((List.range j.toNat).map fun (k : Nat) => (k : Int)).map V.int := by
        unfold rgV
        rw [List.map_map, Int.sub_zero]
        exact List.map_congr_left fun k _ => by simp
      have et : ((List.range j.toNat).map fun (k : Nat) => lfI k) = ((List.range j.toNat).map fun (k : Nat) => (k : Int)).map lfI := by rw [List.map_map]; rfl
      rw [ev]
      obtain ⟨g1, g2, g3⟩ := new_one (K := K) (mg := mg) (k := .lst) (o := .lst (((List.range j.toNat).map fun (k : Nat) => (k : Int)).map V.int)) ok1.le hp rfl (ints_reps ((List.range j.toNat).map fun (k : Nat) => (k : Int)))
      rw [← et] at g3
      obtain ⟨z1, z2, z3⟩ := fin_new st ok1 g1 g2
      exact q _ _ _ _ _ z1 z2 g3 z3
    · cases hd
  · cases hd
end
section
variable {X : Cx} {k v e : Expr} {pos p p2 pos2 : Pos} {dk dv : DV} {d : DE}
theorem se_dic1 (hk : SV X k dk) (hv : SV X v dv) : SE X (.Dict [some k] [v] pos) (dDic1 dk dv) := pew (pe_disp (pps_cons hk hv pps_nil) rfl rfl (by simp) (by simp)) fun _ _ _ => dic1_imp
theorem se_lrg (hc : X.calm = true) (hgl : Gl X "list") (hml : X.mg "list" = none) (hg : Gl X "range") (hm : X.mg "range" = none) (he : SR X e d) (na : starEach [e] X.env = (false, eval e X.env) :: starEach [] X.env := by rfl)
    (nb : starEach [.Call (.Name "range" p2) [e] [] pos2] X.env = (false, eval (.Call (.Name "range" p2) [e] [] pos2) X.env) :: starEach [] X.env := by rfl) :
    SE X (.Call (.Name "list" p) [.Call (.Name "range" p2) [e] [] pos2] [] pos) (dLRg d) := pew (pe_listRg hc hgl hml (prg_1 hg hm he na) nb) fun _ _ _ => lrg_imp
end
section
variable {X : Cx} {e : Expr} {x : Str} {id : String} {p pos : Pos} {de : DE} {r : List V → Hp → VK → Prop} {o : T → Option T}
theorem sr_t1 (hc : CallR X (.type id) r) (hv : Op1V X.K X.mg (fun x H Q => r [x] H Q) o) (hb : bootBuiltins x = some (.type id)) (hg : Gl X x) (hm : X.mg x = none) (ha : SR X e de) (hn : x ≠ "__name__" := by decide) (hdb : (x == ("__debug__" : Str)) = false := by decide)
    (hs : starEach (e :: []) X.env = (false, eval e X.env) :: starEach [] X.env := by rfl) : SR X (.Call (.Name x p) [e] [] pos) (o1 o de) := pew (pe_callTy hc hg hm hb (pa_cons ha pa_nil hs) hn hdb (he := hs)) fun _ _ _ h => i1R hv h
end
section
variable {X : Cx} {x : Str} {i : Nat} {b : Expr} {px pos : Pos} {db : DE}
theorem sr_ixn (hu : X.A.units + 1 < cLine) (hb : SR X b db) (hs : PlainIx b := by exact fun _ _ => rfl) (hN : X.N[i]? = some x := by rfl) (hvis : Vis X.env.scope x := by first | exact Or.inl rfl | exact Or.inr (Or.inl rfl) | exact Or.inr (Or.inr rfl)) (hd : (x == ("__debug__" : Str)) = false := by decide) (hcd : (x == ("__classdict__" : Str)) = false := by decide) :
    SR X (.Subscript (.Name x px) b pos) (o2n oIx i db) := pew (pe_ix (ix_all hu) (pe_var hN hvis hd hcd) hb hs) fun _ _ _ => i2n v_ix
end
end Tr


set_option Elab.async false
set_option linter.all false
set_option maxRecDepth 100000
set_option maxHeartbeats 4000000
/-! D14: one mirror or another; slices. -/
namespace Tr
open PySem PySem.Spec PyProof.Rows L2

/-! ### scopes out of a text -/
def exSc : Expr → Scope
  | .ListComp _ _ s _ => s
  | _ => defScope (.Pass ⟨0, 0, 0, 0⟩)
/-- the scope of a comprehension within its def, as the names that it finds there are told -/
def reLbl (scope sc : Scope) : Scope := { scope with names := scope.names.map fun (n, k) => if (k == .free && sc.kind == .function && sc.names.lookup n == some .cell) then (n, .cell) else (n, k) }
def stV : Stmt → Expr
  | .Assign _ e _ => e
  | .Return (some e) _ => e
  | .Expr e _ => e
  | _ => .Constant .none 0 ⟨0, 0, 0, 0⟩
def stK (l : List Stmt) (k : Nat) : Stmt := l.getD k (.Pass ⟨0, 0, 0, 0⟩)
def stB : Stmt → List Stmt
  | .For _ _ b _ _ => b
  | .While _ b _ _ => b
  | .If _ b _ _ => b
  | _ => []
def stL : Stmt → List Stmt
  | .If _ _ b _ => b
  | _ => []
/-! ### one or the other -/
def elsE (a b : DE) : DE := fun env => match a env with
  | some r => some r
  | none => b env
def elsV (a b : DV) : DV := fun env => match a env with
  | some r => some r
  | none => b env
theorem elsE_some {a b : DE} {env : List T} {r : T × List T} (h : elsE a b env = some r) : a env = some r ∨ b env = some r := by
  unfold elsE at h
  cases e : a env with
  | some x => rw [e] at h; exact .inl h
  | none => rw [e] at h; exact .inr h
theorem elsV_some {a b : DV} {env : List T} {r : T} (h : elsV a b env = some r) : a env = some r ∨ b env = some r := by
  unfold elsV at h
  cases e : a env with
  | some x => rw [e] at h; exact .inl h
  | none => rw [e] at h; exact .inr h
section
variable {X : Cx} {e : Expr} {a b : DE} {va vb : DV}
theorem PE.els {t1 t2 t : TE} (h1 : PE X e t1) (h2 : PE X e t2) (i : ∀ σ H Q, t σ H Q → t1 σ H Q ∨ t2 σ H Q) : PE X e t := ⟨fun pins s σ H Q I q => (i σ H Q q).elim (h1.run pins s σ H Q I) (h2.run pins s σ H Q I)⟩
theorem SE.els (h1 : SE X e a) (h2 : SE X e b) : SE X e (elsE a b) := PE.els h1 h2 fun σ H Q ⟨F, env, S, t, env', ok, hd, q⟩ => (elsE_some hd).elim (fun z => .inl ⟨F, env, S, t, env', ok, z, q⟩) fun z => .inr ⟨F, env, S, t, env', ok, z, q⟩
theorem SR.els (h1 : SR X e a) (h2 : SR X e b) : SR X e (elsE a b) := PE.els h1 h2 fun σ H Q ⟨F, env, S, t, env', ok, hd, q⟩ => (elsE_some hd).elim (fun z => .inl ⟨F, env, S, t, env', ok, z, q⟩) fun z => .inr ⟨F, env, S, t, env', ok, z, q⟩
theorem SV.els (h1 : SV X e va) (h2 : SV X e vb) : SV X e (elsV va vb) := PE.els h1 h2 fun σ H Q ⟨F, env, S, t, ok, hd, q⟩ => (elsV_some hd).elim (fun z => .inl ⟨F, env, S, t, ok, z, q⟩) fun z => .inr ⟨F, env, S, t, ok, z, q⟩
end

/-! ### all frozen meanwhile, a leaf as the answer -/
def fBwS (env : List T) : T × List T → Option (T × List T)
  | (.lf w, _) => some (.lf w, env)
  | _ => none
def bwS (d : DE) : DE := fun env => (d (frzs env)).bind (fBwS env)
theorem bwS_imp {K : PySem.W.Frag} {mg : Mg} {d : DE} {σ : L2.St} {H : Hp} {Q : VK} (h : tR K mg (bwS d) σ H Q) : tR K mg d σ H Q := by
  obtain ⟨F, env, S, t, e, ok, hd, q⟩ := h
  obtain ⟨⟨t', e2⟩, h2, h3⟩ := Option.bind_eq_some_iff.mp hd
  cases t' with
  | lf w =>
    cases h3
    have ff := frF_le (A := S) ok.le
    refine ⟨frF F H S, frzs env, Emp, _, e2, ⟨ff.2, ok.st.freeze ff.1 fun x z => frF_in z⟩, h2, fun v F2 H2 S2 R st2 ok2 r => ?_⟩
    have kp : ∀ a o, H a = some o → H2 a = some o := fun a o z => st2.kp a o z fun z => z
    obtain ⟨e4, e5, _⟩ := r.lf_inv
    subst e4
    refine q v F H2 S Emp ⟨Le.refl _, fun a o z _ => kp a o z, fun _ _ z => .inl z, fun a z => .inl z⟩ ⟨fun a o z => kp a o (ok.le a o z), ok.st.frame (Le.refl _) fun x z => ?_⟩ (.lf e5 fun _ z => z)
    obtain ⟨⟨o, e1⟩, e3⟩ := ok.st.dom x z
    exact ⟨(kp x o e1).trans e1.symm, e3⟩
  | _ => cases h3
theorem SR.bwS {X : Cx} {e : Expr} {d : DE} (h : SR X e d) : SR X e (Tr.bwS d) := pew h fun _ _ _ => bwS_imp
theorem ST.bwS {X : Cx} {e : Expr} {d : DE} (h : ST X e d) : ST X e (Tr.bwS d) := ptw h fun _ _ _ => bwS_imp
/-! ### slices -/
def cutT {α : Type} (xs : List α) (lo hi : Option Int) : List α := (xs.drop (HT.sIx xs.length 0 lo)).take (HT.sIx xs.length xs.length hi - HT.sIx xs.length 0 lo)
/-- a bound: none, or a view -/
def ptT : Option DV → List T → Option (Option Int)
  | none, _ => some none
  | some v, env => match v env with
    | some (.lf (.int i)) => some (some i)
    | _ => none
def oSlL (lo hi : Option Int) : T → Option T
  | .nd _ .lst xs => if clns xs = true then some (.nd true .lst (cutT xs lo hi)) else none
  | .nd _ .rol xs => if clns xs = true then some (.nd true .lst (cutT xs lo hi)) else none
  | _ => none
def oSlT (lo hi : Option Int) : T → Option T
  | .nd _ .tup xs => if clns xs = true ∧ ¬ (HT.sIx xs.length 0 lo = 0 ∧ HT.sIx xs.length xs.length hi = xs.length) then some (.nd false .tup (cutT xs lo hi)) else none
  | _ => none
def oSlS (lo hi : Option Int) : T → Option T
  | .lf (.str z) => if z.length ≤ sizeLine then some (.lf (.str (cutS z lo hi))) else none
  | _ => none
def dSl (o : Option Int → Option Int → T → Option T) (d : DE) (lo hi : Option DV) : DE := fun env => (d env).bind fun p => (ptT lo p.2).bind fun l => (ptT hi p.2).bind fun u => (o l u p.1).map fun t => (t, p.2)
section
variable {K : PySem.W.Frag} {mg : Mg} {F H : Hp} {σ : L2.St}
theorem Reps.drop : ∀ (n : Nat) {vs : List V} {ts : List T}, Reps K mg F H vs ts Emp → Reps K mg F H (vs.drop n) (ts.drop n) Emp
  | 0, _, _, r => by simpa using r
  | n + 1, _, _, r => by
    cases r with
    | nil h => simpa using (Reps.nil (K := K) (mg := mg) (F := F) (H := H) (S := Emp) fun _ z => z)
    | cons r q d hS =>
      rw [List.drop_succ_cons, List.drop_succ_cons]
      exact Reps.drop n (q.iff fun x => ⟨fun z => z.elim, fun z => (hS x).mpr (.inr z)⟩)
theorem Reps.take : ∀ (n : Nat) {vs : List V} {ts : List T}, Reps K mg F H vs ts Emp → Reps K mg F H (vs.take n) (ts.take n) Emp
  | 0, _, _, r => by simpa using (Reps.nil (K := K) (mg := mg) (F := F) (H := H) (S := Emp) fun _ z => z)
  | n + 1, _, _, r => by
    cases r with
    | nil h => simpa using (Reps.nil (K := K) (mg := mg) (F := F) (H := H) (S := Emp) fun _ z => z)
    | cons r q d hS =>
      rw [List.take_succ_cons, List.take_succ_cons]
      exact .cons (S1 := Emp) (S2 := Emp) (r.iff fun x => ⟨fun z => z.elim, fun z => (hS x).mpr (.inl z)⟩) (Reps.take n (q.iff fun x => ⟨fun z => z.elim, fun z => (hS x).mpr (.inr z)⟩)) dj_emp fun x => ⟨fun z => z.elim, fun z => z.elim id id⟩
theorem Reps.cut {vs : List V} {ts : List T} (lo hi : Option Int) (r : Reps K mg F H vs ts Emp) : Reps K mg F H (cutV vs lo hi) (cutT ts lo hi) Emp := by
  unfold cutV cutT
  rw [r.length (S := Emp)]
  exact Reps.take _ (Reps.drop _ r)
theorem e_slL (lo hi : Option Int) : Op1E K mg (fun x H Q => rSlL K x lo hi H Q) (oSlL lo hi) := by
  intro F H x t R u Q le r h q
  have sq : ∀ {o : Bool} {k : Kd} {ys : List T}, (∀ {a : Addr} {vs : List V}, Here K mg H a k vs → SqL K H a vs) → Rep K mg F H x (.nd o k ys) R → clns ys = true → u = .nd true .lst (cutT ys lo hi) → rSlL K x lo hi H Q := by
    intro o k ys hk r c e
    obtain ⟨a, vs, S0, rfl, p, _, hr⟩ := r.nd_inv le
    refine ⟨a, vs, rfl, hk hr, fun l hl => ?_⟩
    obtain ⟨g1, g2, g3⟩ := new_one (k := .lst) (o := .lst (cutV vs lo hi)) le hl rfl ((p.clean0 c).cut lo hi)
    exact q _ _ _ _ g1 g2 (by rw [e]; exact g3)
  unfold oSlL at h
  split at h
  · split at h
    · exact sq (k := .lst) (fun z => SqL.of z) r (by assumption) (Option.some.inj h).symm
    · cases h
  · split at h
    · exact sq (k := .rol) (fun z => z) r (by assumption) (Option.some.inj h).symm
    · cases h
  · cases h
theorem e_slT (lo hi : Option Int) : Op1E K mg (fun x H Q => rSlT K x lo hi H Q) (oSlT lo hi) := by
  intro F H x t R u Q le r h q
  unfold oSlT at h
  split at h
  · split at h
    · rename_i o ys c
      cases h
      obtain ⟨a, vs, S0, rfl, p, _, hr⟩ := r.nd_inv le
      have hl := p.length (S := Emp)
      refine ⟨a, vs, rfl, SqT.of hr, by rw [hl]; exact c.2, fun l hp => ?_⟩
      obtain ⟨g1, g2, g3⟩ := new_tup le hp ((p.clean0 c.1).cut lo hi)
      exact q _ _ _ _ g1 g2 g3
    · cases h
  · cases h
theorem e_slS (lo hi : Option Int) : Op1E K mg (fun x H Q => rSlS x lo hi H Q) (oSlS lo hi) := by
  intro F H x t R u Q le r h q
  unfold oSlS at h
  split at h
  · split at h
    · cases h
      exact ⟨_, r.lf_inv.1, by assumption, q _ F H Emp .refl le (.lf rfl fun _ z => z)⟩
    · cases h
  · cases h
def tPO (K : PySem.W.Frag) (mg : Mg) : Option DV → TO
  | none => tNoPart
  | some v => tPart (tV K mg v)
theorem pt_imp {lo : Option DV} {env : List T} {l : Option Int} {S : AS} {Q : Option Int → Hp → Prop} (ok : Ok K mg F H σ env S) (h : ptT lo env = some l) (q : Q l H) : tPO K mg lo σ H Q := by
  cases lo with
  | none => cases h; exact q
  | some v =>
    replace h : (match v env with | some (.lf (.int i)) => some (some i) | _ => none) = some l := h
    cases e : v env with
    | none => rw [e] at h; cases h
    | some t =>
      rw [e] at h
      cases t with
      | lf w =>
        cases w with
        | int i => cases h; exact ⟨F, env, S, _, ok, e, fun w R r => ⟨i, r.lf_inv.1, q⟩⟩
        | _ => cases h
      | _ => cases h
theorem sl_imp {r : V → Option Int → Option Int → Hp → VK → Prop} {o : Option Int → Option Int → T → Option T} {d : DE} {lo hi : Option DV} {Q : VK} (hv : ∀ l u, Op1E K mg (fun x H Q => r x l u H Q) (o l u)) (h : tE K mg (dSl o d lo hi) σ H Q) :
    tSl r (tR K mg d) (tPO K mg lo) (tPO K mg hi) σ H Q := by
  obtain ⟨F, env, S, t, env', ok, hd, q⟩ := h
  obtain ⟨⟨x, e1⟩, h1, h2⟩ := Option.bind_eq_some_iff.mp hd
  obtain ⟨l, h3, h4⟩ := Option.bind_eq_some_iff.mp h2
  obtain ⟨u, h5, h6⟩ := Option.bind_eq_some_iff.mp h4
  obtain ⟨t', h7, h8⟩ := Option.map_eq_some_iff.mp h6
  cases h8
  refine ⟨F, env, S, x, _, ok, h1, fun v F1 H1 S1 R st ok1 r1 => pt_imp ok1 h3 (pt_imp ok1 h5 ?_)⟩
  refine hv l u F1 H1 v x R t Q ok1.le r1 h7 fun v' F2 H2 R' st2 le2 r' => ?_
  obtain ⟨a, b, c⟩ := fin_new st ok1 st2 le2
  exact q v' F2 H2 S1 R' a b r' c
end
/-- the bounds of a slice -/
inductive SP2 (X : Cx) : Option Expr → Option DV → Prop
  | no : SP2 X none none
  | so {e : Expr} {v : DV} : SV X e v → SP2 X (some e) (some v)
theorem SP2.po {X : Cx} {e : Option Expr} {v : Option DV} (h : SP2 X e v) : PO X e (tPO X.K X.mg v) := by
  cases h with
  | no => exact po_none
  | so h => exact po_some h
section
variable {X : Cx} {e : Expr} {lo hi : Option Expr} {vl vh : Option DV} {d : DE} {pos p2 : Pos}
theorem se_slL (he : SR X e d) (hl : SP2 X lo vl) (hh : SP2 X hi vh) : SE X (.Subscript e (.Slice lo hi none p2) pos) (dSl oSlL d vl vh) := pew (pe_slice sl_list he hl.po hh.po) fun _ _ _ h => sl_imp e_slL h
theorem se_slT (he : SR X e d) (hl : SP2 X lo vl) (hh : SP2 X hi vh) : SE X (.Subscript e (.Slice lo hi none p2) pos) (dSl oSlT d vl vh) := pew (pe_slice sl_tup he hl.po hh.po) fun _ _ _ h => sl_imp e_slT h
theorem se_slS (he : SR X e d) (hl : SP2 X lo vl) (hh : SP2 X hi vh) : SE X (.Subscript e (.Slice lo hi none p2) pos) (dSl oSlS d vl vh) := pew (pe_slice sl_str he hl.po hh.po) fun _ _ _ h => sl_imp e_slS h
end
/-! ### a value into a target -/
def dAsg (d : DE) (dg : DG) : DS := fun env => (d env).bind fun p => (dg p.1 p.2).map fun e => (.nx, e)
theorem ss_asg2 {X : Cx} {value tg : Expr} {pos : Pos} {W : List Nat} {dv : DE} {dg : DG} (hv : SE X value dv) (hg : SG X tg W dg) (hs : swapsWithSole [tg] value pos.line X.env = pure false := by rfl) (hw : swappedStores [tg] value X.env = pure none := by rfl)
    (h1 : (assignEach [tg] X.env).map (·.2) = [assign tg X.env] := by rfl) : SS X (.Assign [tg] value pos) W (dAsg dv dg) := ss_asg hv hg hs hw h1
/-! ### + of tuples -/
def oCatT : T → T → Option T
  | .nd _ .tup xs, .nd _ .tup ys => if clns xs = true ∧ clns ys = true ∧ xs ≠ [] ∧ ys ≠ [] ∧ xs.length + ys.length ≤ sizeLine then some (.nd false .tup (xs ++ ys)) else none
  | _, _ => none
theorem e_catT {K : PySem.W.Frag} {mg : Mg} : Op2E K mg (rCatT K) oCatT := by
  intro F H x y t s R R2 u Q le r1 r2 h q
  unfold oCatT at h
  split at h
  · split at h
    · rename_i xs _ ys c
      cases h
      obtain ⟨a, vs, S0, rfl, p1, _, h1⟩ := r1.nd_inv le
      obtain ⟨b, ws, S1, rfl, p2, _, h2⟩ := r2.nd_inv le
      have l1 := p1.length (S := Emp)
      have l2 := p2.length (S := Emp)
      have n1 : vs ≠ [] := fun e => c.2.2.1 (List.length_eq_zero_iff.mp (by rw [← l1, e]; rfl))
      have n2 : ws ≠ [] := fun e => c.2.2.2.1 (List.length_eq_zero_iff.mp (by rw [← l2, e]; rfl))
      refine ⟨a, b, vs, ws, rfl, rfl, SqT.of h1, SqT.of h2, n1, by rw [l1, l2]; exact c.2.2.2.2, fun e => (n2 e).elim, fun _ p hp => ?_⟩
      have rr := Reps.append (p2.clean0 c.2.1) (p1.clean0 c.1) fun _ z => z.elim
      obtain ⟨g1, g2, g3⟩ := new_tup le hp (rr.iff (S' := Emp) fun x => ⟨fun z => z.elim, fun z => z.elim id id⟩)
      exact q _ _ _ _ g1 g2 g3
    · cases h
  · cases h
/-! ### two values of one's own -/
def Op2X (K : PySem.W.Frag) (mg : Mg) (r : R2) (o : T → T → Option T) : Prop := ∀ (F H : Hp) (x y : V) (t s : T) (R R2 : AS) (u : T) (Q : VK), Le F H → Rep K mg F H x t R → Rep K mg F H y s R2 → Dj R R2 → o t s = some u →
  (∀ v F' H' R', Stp F H (Cup R R2) F' H' R' → Le F' H' → Rep K mg F' H' v u R' → Q v H') → r x y H Q
section
variable {K : PySem.W.Frag} {mg : Mg} {p : T → T → Option T} {da db : DE} {r : R2} {σ : L2.St} {H : Hp} {Q : VK}
theorem i2x (h : Op2X K mg r p) (q : tE K mg (o2o p da db) σ H Q) : tOp r (tE K mg da) (tE K mg db) σ H Q := by
  obtain ⟨F, env, S, t, env', ok, hd, q⟩ := q
  obtain ⟨x, e1, y, h1, h3, h4⟩ := o2o_some hd
  refine ⟨F, env, S, x, e1, ok, h1, fun v F1 H1 S1 R st ok1 r dj => ⟨F1, e1, S1, y, _, ok1, h3, fun w F2 H2 S2 R2 st2 ok2 r' dj2 => ?_⟩⟩
  obtain ⟨g1, g2, g3⟩ := join_step st (fun x z => (r.dom x z).1) dj st2
  refine h F2 H2 v w x y R R2 t Q ok2.le (r.keep st2 dj) r' g2 h4 fun v' F3 H3 R3 st3 le3 r3 => ?_
  have dS : Dj (Cup R R2) S2 := fun z a b => a.elim (fun a => g3 z b a) fun a => dj2 z b a
  have ok3 := ok2.keep st3 dS le3
  exact q v' F3 H3 S2 R3 (g1.trans (st3.frameL S2)) ok3 r3 fun z a b => st3.dj (fun y z => (ok2.st.dom y z).1) dS z b a
end
theorem se_binx {X : Cx} {op : Operator} {a b : Expr} {pos : Pos} {r : R2} {o : T → T → Option T} {da db : DE} (ho : OpR X (binaryOp op) r) (hv : Op2X X.K X.mg r o) (ha : SE X a da) (hb : SE X b db) : SE X (.BinOp a op b pos) (o2o o da db) := pew (pe_op ho ha hb) fun _ _ _ => i2x hv
def oCatX : T → T → Option T
  | .nd false .tup xs, .nd false .tup ys => if xs ≠ [] ∧ ys ≠ [] ∧ xs.length + ys.length ≤ sizeLine then some (.nd false .tup (xs ++ ys)) else none
  | _, _ => none
theorem e_catX {K : PySem.W.Frag} {mg : Mg} : Op2X K mg (rCatT K) oCatX := by
  intro F H x y t s R R2 u Q le r1 r2 dj h q
  unfold oCatX at h
  split at h
  · split at h
    · rename_i xs ys c
      cases h
      have f1 : ∃ a vs, x = .ref a ∧ F a = some (.tup vs) ∧ Reps K mg F H vs xs R := by
        cases r1 with
        | frz e cc r => cases cc; exact ⟨_, _, rfl, e, r⟩
      have f2 : ∃ a vs, y = .ref a ∧ F a = some (.tup vs) ∧ Reps K mg F H vs ys R2 := by
        cases r2 with
        | frz e cc r => cases cc; exact ⟨_, _, rfl, e, r⟩
      obtain ⟨a, vs, rfl, ea, p1⟩ := f1
      obtain ⟨b, ws, rfl, eb, p2⟩ := f2
      have l1 := p1.length (S := Emp)
      have l2 := p2.length (S := Emp)
      have n1 : vs ≠ [] := fun e => c.1 (List.length_eq_zero_iff.mp (by rw [← l1, e]; rfl))
      have n2 : ws ≠ [] := fun e => c.2.1 (List.length_eq_zero_iff.mp (by rw [← l2, e]; rfl))
      refine ⟨a, b, vs, ws, rfl, rfl, SqT.of (le _ _ ea), SqT.of (le _ _ eb), n1, by rw [l1, l2]; exact c.2.2, fun e => (n2 e).elim, fun _ l hp => ?_⟩
      have fp : F l = none := le.nn hp
      have ff : Le F (upd F l (.tup (vs ++ ws))) := fun z o e => by rw [upd_ne (ne_of_none e fp)]; exact e
      have le2 : Le (upd F l (.tup (vs ++ ws))) (upd H l (.tup (vs ++ ws))) := fun z o e => by
        by_cases hz : z = l
        · subst hz; rw [upd_same] at e ⊢; exact e
        · rw [upd_ne hz] at e ⊢; exact le z o e
      have pp := Reps.append p2 p1 dj
      refine q (.ref l) _ _ (Cup R R2) ⟨ff, fun z o e _ => by rw [upd_ne (ne_of_none e hp)]; exact e, fun z o e => ?_, fun z hz => .inl hz⟩ le2 (.frz upd_same rfl (pp.frame ff fun z hz => ?_))
      · by_cases hz : z = l
        · exact .inr (.inr (by rw [hz]; exact hp))
        · rw [upd_ne hz] at e; exact .inl e
      · obtain ⟨⟨o, e1⟩, e2⟩ := pp.dom z hz
        have hn : z ≠ l := fun e => by rw [e, hp] at e1; cases e1
        exact ⟨upd_ne hn, by rw [upd_ne hn]; exact e2⟩
    · cases h
  · cases h
end Tr


set_option Elab.async false
set_option linter.all false
set_option maxRecDepth 100000
set_option maxHeartbeats 4000000
/-! M1: reckoning with mirrors. -/
namespace Tr
open PySem PySem.Spec PyProof.Rows L2

abbrev I (i : Int) : T := .lf (.int i)
abbrev B (b : Bool) : T := .lf (.bl b)
abbrev N : T := .lf .non
theorem lfI_eq (i : Int) : lfI i = .lf (.int i) := rfl
/-- a list of li -/
def li (o : Bool) (xs : List Int) : T := .nd o .lst (xs.map lfI)
/-- a list of lists of li, all owned or none -/
def ll (o : Bool) (xs : List (List Int)) : T := .nd o .lst (xs.map (li o))
theorem ints_eq (o : Bool) (xs : List Int) : li o xs = .nd o .lst (xs.map lfI) := rfl
theorem rows_eq (o : Bool) (xs : List (List Int)) : ll o xs = .nd o .lst (xs.map (li o)) := rfl
theorem scrT_eq (ns : List Int) : scrT ns = .nd false .rol (ns.map lfI) := rfl

/-! ### frozen, clean -/
theorem frzs_ints (xs : List Int) : frzs (xs.map lfI) = xs.map lfI := by
  rw [frzs_map, List.map_map]; rfl
theorem frz_li (o : Bool) (xs : List Int) : frz (li o xs) = li false xs := by
  unfold li; rw [frz, frzs_ints]
theorem frzs_ll (o : Bool) (xs : List (List Int)) : frzs (xs.map (li o)) = xs.map (li false) := by
  rw [frzs_map, List.map_map]
  exact List.map_congr_left fun x _ => frz_li o x
theorem frz_ll (o : Bool) (xs : List (List Int)) : frz (ll o xs) = ll false xs := by
  unfold ll; rw [frz, frzs_ll]
theorem frz_lf (v : V) : frz (.lf v) = .lf v := by rw [frz]
theorem frz_no : frz .no = .no := by rw [frz]
theorem frz_scr (ns : List Int) : frz (scrT ns) = scrT ns := by unfold scrT; rw [frz, frzs_ints]
theorem cln_lf (v : V) : cln (.lf v) = true := by rw [cln]
theorem cln_no : cln .no = true := by rw [cln]
theorem cln_li (xs : List Int) : cln (li false xs) = true := by unfold li; rw [cln, clns_ints]; rfl
theorem cln_ll (xs : List (List Int)) : cln (ll false xs) = true := by
  rw [← frz_ll true]; exact cln_frz _
theorem clns_ll (xs : List (List Int)) : clns (xs.map (li false)) = true := by
  rw [← frzs_ll true]; exact clns_frz _
theorem cln_scr (ns : List Int) : cln (scrT ns) = true := by unfold scrT; rw [cln, clns_ints]; rfl

/-! ### loops -/
theorem dFr_inv {dg : DG} {d : DS} : ∀ (its : List T) (Iv : Nat → List T → Prop) (env : List T), Iv 0 env →
    (∀ i t env, its[i]? = some t → Iv i env → ∃ e e', dg t env = some e ∧ (d e = some (.nx, e') ∨ d e = some (.ct, e')) ∧ Iv (i + 1) e') → ∃ env', dFr dg d its env = some (.nx, env') ∧ Iv its.length env'
  | [], Iv, env, h0, _ => ⟨env, rfl, h0⟩
  | t :: ts, Iv, env, h0, hs => by
    obtain ⟨e, e', h1, h2, h3⟩ := hs 0 t env rfl h0
    obtain ⟨env', h4, h5⟩ := dFr_inv ts (fun i => Iv (i + 1)) e' h3 fun i u env hu => hs (i + 1) u env (by simpa using hu)
    refine ⟨env', ?_, h5⟩
    rw [dFr]
    simp only [h1]
    rcases h2 with h2 | h2 <;> simp only [h2] <;> exact h4
theorem dLr_run {dg : DG} {dc de : DE} {vs : List Nat} (env : List T) (p : T → Bool) (f : T → T) : ∀ (its acc : List T), acc.length + its.length ≤ sizeLine →
    (∀ t ∈ its, ∃ e e1, dg t env = some e ∧ dc e = some (.lf (.bl (p t)), e1) ∧ (p t = true → ∃ e2, de e1 = some (f t, e2) ∧ wipeT e2 vs = env) ∧ (p t = false → wipeT e1 vs = env)) →
    dLr dg dc de vs its acc env = some (acc ++ (its.filter p).map f, env)
  | [], acc, _, _ => by rw [dLr]; simp
  | t :: ts, acc, hl, hs => by
    obtain ⟨e, e1, h1, h2, h3, h4⟩ := hs t (List.mem_cons_self ..)
    have hl' : acc.length + (ts.length + 1) ≤ sizeLine := by simpa using hl
    rw [dLr, h1, Option.bind_some]
    cases hp : p t with
    | true =>
      obtain ⟨e2, h5, h6⟩ := h3 hp
      rw [hp] at h2
      have hlt : acc.length < sizeLine := by omega
      simp only [h2, h5, Option.bind_some, hlt, if_true, h6]
      rw [dLr_run env p f ts (acc ++ [f t]) (by simp; omega) fun u hu => hs u (List.mem_cons_of_mem _ hu)]
      simp [hp]
    | false =>
      rw [hp] at h2
      simp only [h2, h4 hp]
      rw [dLr_run env p f ts acc (by omega) fun u hu => hs u (List.mem_cons_of_mem _ hu)]
      simp [hp]
/-- a small number is within the line -/
theorem small {n : Nat} (h : n ≤ 1000) : n < sizeLine := small1000 h

/-! ### data -/
theorem toDs_ints (xs : List Int) : toDs (xs.map lfI) = some (xs.map .int) := by
  induction xs with
  | nil => rfl
  | cons x xs ih => rw [List.map_cons, toDs, ih]; rfl
theorem toD_li (o : Bool) (xs : List Int) : toD (li o xs) = some (.list (xs.map .int)) := by
  unfold li; rw [toD, toDs_ints]; rfl
theorem canLay_ints (xs : List Int) : PyData.canLayAll0 (xs.map PyData.int) = true := by
  induction xs with
  | nil => rw [List.map_nil, PyData.canLayAll0]
  | cons x xs ih => rw [List.map_cons, PyData.canLayAll0, ih]; simp [PyData.canLay0]
theorem depth_ints (xs : List Int) : PyData.depthAll (xs.map PyData.int) = 0 := by
  induction xs with
  | nil => rw [List.map_nil, PyData.depthAll]
  | cons x xs ih => rw [List.map_cons, PyData.depthAll, ih]; simp [PyData.depth]
theorem shaped_ints (xs : List Int) : SeqAt.shaped (.list (xs.map .int)) = true := by
  unfold SeqAt.shaped
  rw [PyData.canLay0, canLay_ints, PyData.depth, depth_ints]
  decide
theorem eqvAll_ints : ∀ xs ys : List Int, PyData.eqvAll (xs.map .int) (ys.map .int) = decide (xs = ys)
  | [], [] => by simp [PyData.eqvAll]
  | [], y :: ys => by simp [PyData.eqvAll]
  | x :: xs, [] => by simp [PyData.eqvAll]
  | x :: xs, y :: ys => by
    rw [List.map_cons, List.map_cons, PyData.eqvAll, eqvAll_ints xs ys, PyData.eqv]
    by_cases h1 : x = y <;> by_cases h2 : xs = ys <;> simp [h1, h2]
theorem oEq_li (o o' : Bool) (xs ys : List Int) : oEq (li o xs) (li o' ys) = some (B (decide (xs = ys))) := by
  unfold oEq
  rw [toD_li, toD_li]
  simp only [Option.bind_some, shaped_ints, and_self, if_true, PyData.eqv, eqvAll_ints]
theorem oNe_li (o o' : Bool) (xs ys : List Int) : oNe (li o xs) (li o' ys) = some (B (!decide (xs = ys))) := by
  unfold oNe
  rw [toD_li, toD_li]
  simp only [Option.bind_some, shaped_ints, and_self, if_true, PyData.eqv, eqvAll_ints]
theorem shaped_int (i : Int) : SeqAt.shaped (.int i) = true := by
  unfold SeqAt.shaped
  rw [PyData.canLay0, PyData.depth]
  decide
theorem oEq_int (i j : Int) : oEq (I i) (I j) = some (B (decide (i = j))) := by
  unfold oEq
  simp only [toD, Option.bind_some, shaped_int, and_self, if_true, PyData.eqv]
  by_cases h : i = j <;> simp [h]
theorem oNe_int (i j : Int) : oNe (I i) (I j) = some (B (!decide (i = j))) := by
  unfold oNe
  simp only [toD, Option.bind_some, shaped_int, and_self, if_true, PyData.eqv]
  by_cases h : i = j <;> simp [h]
theorem oEq_nil (o o' : Bool) (xs : List Int) : oEq (li o xs) (.nd o' .lst []) = some (B (decide (xs = []))) := oEq_li o o' xs []
theorem all_flT (xs : List Int) : (xs.map lfI).all flT = true := by
  rw [List.all_map, List.all_eq_true]; intro x _; rfl
theorem any_eqT (x : Int) (xs : List Int) : (xs.map lfI).any (eqT (.int x)) = decide (x ∈ xs) := by
  induction xs with
  | nil => rfl
  | cons y ys ih =>
    rw [List.map_cons, List.any_cons, ih]
    show ((y == x) || decide (x ∈ ys)) = decide (x ∈ y :: ys)
    by_cases h : y = x
    · subst h; simp
    · have : ¬ x = y := fun e => h e.symm
      have h' : (y == x) = false := by simpa using h
      rw [h']
      simp [this]
theorem inB_li (x : Int) (o : Bool) (xs : List Int) : inB (I x) (li o xs) = some (decide (x ∈ xs)) := by
  show (if flatV (V.int x) = true ∧ (xs.map lfI).all flT = true then some ((xs.map lfI).any (eqT (.int x))) else none) = _
  rw [any_eqT, all_flT]
  simp [flatV]
theorem oIn_li (x : Int) (o : Bool) (xs : List Int) : oIn (I x) (li o xs) = some (B (decide (x ∈ xs))) := by unfold oIn; rw [inB_li]; rfl
theorem oNotIn_li (x : Int) (o : Bool) (xs : List Int) : oNotIn (I x) (li o xs) = some (B (!decide (x ∈ xs))) := by unfold oNotIn; rw [inB_li]; rfl
theorem oLen_li (o : Bool) (xs : List Int) : oLen (li o xs) = some (I xs.length) := by unfold li oLen; simp
theorem oLen_ll (o : Bool) (xs : List (List Int)) : oLen (ll o xs) = some (I xs.length) := by unfold ll oLen; simp
theorem oLen_scr (ns : List Int) : oLen (scrT ns) = some (I ns.length) := by unfold scrT oLen; simp
theorem atI_of {α : Type} {xs : List α} {i : Int} (h0 : 0 ≤ i) (h : i.toNat < xs.length) : atI xs i = xs[i.toNat]? := by
  have e : i = (i.toNat : Int) := by omega
  rw [e]
  simp only [Int.toNat_natCast]
  rw [List.getElem?_eq_getElem h]
  exact atI_nat (List.getElem?_eq_getElem h)
theorem oIx_li (o : Bool) (xs : List Int) (i : Int) (h0 : 0 ≤ i) (h : i.toNat < xs.length) : oIx (li o xs) (I i) = some (I xs[i.toNat]) := by
  unfold li oIx
  show atI (xs.map lfI) i = _
  rw [atI_of h0 (by simpa using h)]
  simp [h, lfI]
theorem oIx_ll (o : Bool) (xs : List (List Int)) (i : Int) (h0 : 0 ≤ i) (h : i.toNat < xs.length) : oIx (ll o xs) (I i) = some (li o xs[i.toNat]) := by
  unfold ll oIx
  show atI (xs.map (li o)) i = _
  rw [atI_of h0 (by simpa using h)]
  simp [h]
theorem oIx_scr (ns : List Int) (i : Int) (h0 : 0 ≤ i) (h : i.toNat < ns.length) : oIx (scrT ns) (I i) = some (I ns[i.toNat]) := by
  unfold scrT oIx
  show atI (ns.map lfI) i = _
  rw [atI_of h0 (by simpa using h)]
  simp [h, lfI]
/-! ### a dict of li, filled -/
def dkT (ks : List Int) : T := .nd true (.dK (ks.map Sum.inl)) (ks.map fun _ => B true)
theorem hasK_ints (ks : List Int) (k : Int) : hasK (ks.map Sum.inl) (Sum.inl k) = decide (k ∈ ks) := by
  unfold hasK
  rw [List.any_map]
  induction ks with
  | nil => rfl
  | cons a ks ih =>
    rw [List.any_cons, ih]
    by_cases h : a = k
    · subst h; simp
    · have : ¬ k = a := fun e => h e.symm
      simp [h, this]
theorem nodupK_ints : ∀ ks : List Int, ks.Nodup → nodupK (ks.map Sum.inl) = true
  | [], _ => rfl
  | a :: ks, h => by
    have h' := List.nodup_cons.mp h
    rw [List.map_cons, nodupK, hasK_ints, nodupK_ints ks h'.2]
    simp [h'.1]
theorem putKT_new {k : Int} {t : T} : ∀ (ks : List Int) (xs : List T), k ∉ ks → ks.length = xs.length → putKT (ks.map Sum.inl) xs (Sum.inl k) t = (ks.map Sum.inl ++ [Sum.inl k], xs ++ [t])
  | [], [], _, _ => rfl
  | [], _ :: _, _, h => by simp at h
  | _ :: _, [], _, h => by simp at h
  | a :: ks, x :: xs, h, hl => by
    have h1 : ¬ (Sum.inl a : Key) = Sum.inl k := fun e => h (by rw [Sum.inl.inj e]; exact List.mem_cons_self ..)
    rw [List.map_cons, putKT, if_neg h1, putKT_new ks xs (fun e => h (List.mem_cons_of_mem _ e)) (by simpa using hl)]
    rfl
theorem mSetD_new (ks : List Int) (k : Int) (nd : ks.Nodup) (h : k ∉ ks) (hl : ks.length < sizeLine) : mSetD (.int k) (dkT ks) [B true] = some (N, dkT (ks ++ [k])) := by
  unfold dkT mSetD
  simp only [keyOf, Option.bind_some, List.length_map, hl, nodupK_ints ks nd, and_self, if_true]
  rw [putKT_new ks _ h (by simp)]
  simp
theorem oIn_dk (x : Int) (ks : List Int) : oIn (I x) (dkT ks) = some (B (decide (x ∈ ks))) := by
  unfold dkT oIn inB
  simp only [keyOf, Option.map_some, hasK_ints]

/-! ### one step each -/
section
variable {env e e1 e2 : List T} {x y t u : T} {o : T → T → Option T} {o1' : T → Option T} {va vb : DV} {da db : DE} {d : DE} {f : FT} {i : Nat} {ts ts' : List T} {a b : DS} {r : Fl × List T}
theorem E_V (h : env[i]? = some t) (hn : t ≠ .no) : gV i env = some t := by
  unfold gV
  rw [h]
  cases t with
  | no => exact (hn rfl).elim
  | lf v => rfl
  | nd o k xs => rfl
theorem E_2V (h1 : va env = some x) (h2 : vb env = some y) (h3 : o x y = some u) : o2V o va vb env = some u := by simp [o2V, h1, h2, h3]
theorem E_1V (h1 : va env = some x) (h3 : o1' x = some u) : o1V o1' va env = some u := by simp [o1V, h1, h3]
theorem E_vr (h1 : va env = some x) : vr va env = some (x, env) := by simp [vr, h1]
theorem E_re (h1 : d env = some (x, e)) (c : cln x = true) : re d env = some (x, e) := by simp [re, h1, c]
theorem E_1 (h1 : d env = some (x, e)) (h3 : o1' x = some u) : o1 o1' d env = some (u, e) := by simp [o1, h1, h3]
theorem E_2v (h1 : da env = some (x, e)) (h2 : vb e = some y) (h3 : o x y = some u) : o2v o da vb env = some (u, e) := by simp [o2v, h1, h2, h3]
theorem E_2c (h1 : da env = some (x, e1)) (h2 : db e1 = some (y, e)) (c : cln x = true) (h3 : o x y = some u) : o2c o da db env = some (u, e) := by simp [o2c, h1, h2, h3, c]
theorem E_2o (h1 : da env = some (x, e1)) (h2 : db e1 = some (y, e)) (h3 : o x y = some u) : o2o o da db env = some (u, e) := by simp [o2o, h1, h2, h3]
theorem E_2n (h0 : gV i env = some t) (h1 : db env = some (y, e)) (h2 : gV i e = some x) (h3 : o x y = some u) : o2n o i db env = some (u, e) := by simp [o2n, h0, h1, h2, h3]
theorem E_S (h : gV i env = some t) (hf : frz t = u) (he : env.set i u = e) : gS i env = some (u, e) := by simp [gS, h, hf, he]
theorem E_M (h : gV i env = some t) (he : env.set i .no = e) : gM i env = some (t, e) := by simp [gM, h, he]
theorem E_cons {dr : DA} (h1 : d env = some (t, e1)) (h2 : dr e1 = some (ts, e)) : aCons d dr env = some (t :: ts, e) := by simp [aCons, h1, h2]
theorem E_call {bs : List (Option Nat)} {dv : List V} {dr : DA} (h1 : dr env = some (ts, e1)) (h2 : f (ts ++ dv.map .lf) = some (t, ts')) (h3 : wb bs ts' e1 = some e) : dCall f bs dv dr env = some (t, e) := by simp [dCall, h1, h2, h3]
theorem E_seq (h : a env = some (.nx, e)) : dSeq a b env = b e := by simp [dSeq, h]
theorem E_seqR {t : T} (h : a env = some (.rt t, e)) : dSeq a b env = some (.rt t, e) := by simp [dSeq, h]
theorem E_ifT {c : DE} (h : c env = some (.lf (.bl true), e)) : dIf c a b env = a e := by simp [dIf, h]
theorem E_ifF {c : DE} (h : c env = some (.lf (.bl false), e)) : dIf c a b env = b e := by simp [dIf, h]
theorem E_set (h : d env = some (t, e)) (hi : i < e.length) (he : e.set i t = e1) : dSet i d env = some (.nx, e1) := by simp [dSet, h, hi, he]
theorem E_ret (h : d env = some (t, e)) : dRet d env = some (.rt t, e) := by simp [dRet, h]
theorem E_ex (h : d env = some (t, e)) : dEx d env = some (.nx, e) := by simp [dEx, h]
theorem E_fz (h : env[i]? = some t) (hf : frz t = u) (he : env.set i u = e) : fz i d env = d e := by simp [fz, h, hf, he]
theorem E_lst {dr : DA} (h : dr env = some (ts, e)) (hl : ts.length ≤ sizeLine) : dLst dr env = some (.nd true .lst ts, e) := by simp [dLst, h, hl]
theorem E_tup {dr : DA} (h : dr env = some (ts, e)) (hl : ts.length ≤ sizeLine) : dTup dr env = some (.nd false .tup ts, e) := by simp [dTup, h, hl]
theorem E_orT {da db : DE} (h : da env = some (.lf (.bl true), e)) : dOr da db env = some (.lf (.bl true), e) := by simp [dOr, h]
theorem E_orF {da db : DE} (h : da env = some (.lf (.bl false), e)) : dOr da db env = db e := by simp [dOr, h]
theorem E_andT {da db : DE} (h : da env = some (.lf (.bl true), e)) : dAnd da db env = db e := by simp [dAnd, h]
theorem E_andF {da db : DE} (h : da env = some (.lf (.bl false), e)) : dAnd da db env = some (.lf (.bl false), e) := by simp [dAnd, h]
theorem E_mut {ty : String} {op : T → List T → Option (T × T)} {dr : DA} {t0 t1 : T} (h0 : gV i env = some t0) (hy : isTy ty t0 = true) (h1 : dr env = some (ts, e1)) (h2 : gV i e1 = some t1) (h3 : op t1 ts = some (x, y)) (he : e1.set i y = e2) : dMut ty i op dr env = some (x, e2) := by
  simp [dMut, h0, hy, h1, h2, h3, he]
theorem E_put {mk : V → T → List T → Option (T × T)} {dk : DV} {k : V} (h1 : d env = some (t, e)) (h2 : gV i e = some x) (h3 : dk e = some (.lf k)) (h4 : mk k x [t] = some (y, u)) (he : e.set i u = e1) : dPut i mk d dk env = some (.nx, e1) := by simp [dPut, h1, h2, h3, h4, he]
theorem E_for {di : DI} {dg : DG} {its : List T} (h1 : di env = some (its, e)) : dFor di dg a env = dFr dg a its e := by simp [dFor, h1]
theorem E_rng {j : Int} (h1 : d env = some (.lf (.int j), e)) (h : -(2 ^ 62) ≤ j ∧ j < 2 ^ 62) : dRng d env = some ((List.range j.toNat).map fun (k : Nat) => lfI k, e) := by simp only [dRng, h1]; rw [if_pos h]
theorem E_it {g : T → Option (List T)} {its : List T} (h1 : d env = some (t, e)) (h2 : g t = some its) : dIt g d env = some (its, e) := by simp [dIt, h1, h2]
theorem E_lc {di : DI} {dg : DG} {dc de : DE} {vs : List Nat} {its acc : List T} (h1 : di env = some (its, e1)) (h2 : cleanAt e1 vs = true) (h3 : dLr dg dc de vs its [] (wipeT e1 vs) = some (acc, e2)) (ha : .nd true .lst acc = t) (he : backT e1 e2 vs = e) : dLc di dg dc de vs env = some (t, e) := by
  subst ha he
  simp [dLc, h1, h2, h3]
end
theorem E_fun {keep : List Bool} {n : Nat} {d : DS} {ts e us : List T} {t : T} (hl : ts.length = keep.length) (h : d (ts ++ List.replicate (n - keep.length) .no) = some (.rt t, e)) (ho : outs keep e = us) : dFun keep n d ts = some (t, us) := by
  unfold dFun
  rw [if_pos hl, h]
  simp [ho]
theorem E_fun0 {keep : List Bool} {n : Nat} {d : DS} {ts e us : List T} (hl : ts.length = keep.length) (h : d (ts ++ List.replicate (n - keep.length) .no) = some (.nx, e)) (ho : outs keep e = us) : dFun keep n d ts = some (.lf .non, us) := by
  unfold dFun
  rw [if_pos hl, h]
  simp [ho]
theorem I_add (i j : Int) : oAdd (I i) (I j) = some (I (i + j)) := rfl
theorem I_sub (i j : Int) : oSub (I i) (I j) = some (I (i - j)) := by simp [oSub, oI]
theorem I_mul {i j : Int} (h : -(2 ^ 64) < j ∧ j < 2 ^ 64) : oMul (I i) (I j) = some (I (i * j)) := by
  unfold oMul oI
  simp only [Bool.or_eq_true, Bool.and_eq_true, decide_eq_true_eq]
  rw [if_pos (.inr h)]
theorem I_mod {i j : Int} (h : 0 < j) : oMod (I i) (I j) = some (I (i % j)) := by simp [oMod, oI, h]
theorem I_div {i j : Int} (h : 0 < j ∧ j < 1073741824) : oDiv (I i) (I j) = some (I (i / j)) := by simp [oDiv, oI, h]
theorem I_lt (i j : Int) : oLt (I i) (I j) = some (B (decide (i < j))) := by simp [oLt, oI]
theorem I_ge (i j : Int) : oGe (I i) (I j) = some (B (decide (j ≤ i))) := by simp [oGe, oI]
theorem I_gt (i j : Int) : oGt (I i) (I j) = some (B (decide (j < i))) := by simp [oGt, oI]
end Tr


set_option Elab.async false
set_option linter.all false
set_option maxRecDepth 100000
set_option maxHeartbeats 4000000
/-! M2: more trees: dicts of keys, marks, machines. -/
namespace Tr
open PySem PySem.Spec PyProof.Rows L2

theorem E_bw {d : DE} {env e : List T} {t : T} (h : d (frzs env) = some (t, e)) (p : pureT t = true) : bw d env = some (t, env) := by
  unfold bw
  rw [h]
  simp [p]
theorem pure_lf (v : V) : pureT (.lf v) = true := by rw [pureT]
theorem pureTs_of {ts : List T} (h : ∀ t ∈ ts, pureT t = true) : pureTs ts = true := by
  induction ts with
  | nil => rw [pureTs]
  | cons t ts ih =>
    rw [pureTs, h t (List.mem_cons_self ..), ih fun u hu => h u (List.mem_cons_of_mem _ hu)]
    rfl
theorem pure_li (xs : List Int) : pureT (li true xs) = true := by
  unfold li
  rw [pureT, pureTs_of]
  · rfl
  · intro t ht
    obtain ⟨x, _, rfl⟩ := List.mem_map.mp ht
    exact pure_lf _
theorem pure_ll (xs : List (List Int)) : pureT (ll true xs) = true := by
  unfold ll
  rw [pureT, pureTs_of]
  · rfl
  · intro t ht
    obtain ⟨x, _, rfl⟩ := List.mem_map.mp ht
    exact pure_li _
/-! ### dicts of keys -/
def dk (o : Bool) (ks : List Key) : T := .nd o (.dK ks) (ks.map fun _ => B true)
theorem hasK_iff (ks : List Key) (k : Key) : hasK ks k = true ↔ k ∈ ks := by
  unfold hasK
  rw [List.any_eq_true]
  constructor
  · rintro ⟨x, h1, h2⟩
    have : x = k := by simpa using h2
    rw [← this]; exact h1
  · exact fun h => ⟨k, h, by simp⟩
theorem nodupK_iff : ∀ {ks : List Key}, ks.Nodup → nodupK ks = true
  | [], _ => rfl
  | a :: ks, h => by
    have h' := List.nodup_cons.mp h
    have : hasK ks a = false := by
      cases e : hasK ks a with
      | false => rfl
      | true => exact (h'.1 ((hasK_iff _ _).mp e)).elim
    rw [nodupK, this, nodupK_iff h'.2]
    rfl
theorem putKT_last {k : Key} {t : T} : ∀ (ks : List Key) (xs : List T), k ∉ ks → ks.length = xs.length → putKT ks xs k t = (ks ++ [k], xs ++ [t])
  | [], [], _, _ => rfl
  | [], _ :: _, _, h => by simp at h
  | _ :: _, [], _, h => by simp at h
  | a :: ks, x :: xs, h, hl => by
    have h1 : ¬ a = k := fun e => h (by rw [e]; exact List.mem_cons_self ..)
    rw [putKT, if_neg h1, putKT_last ks xs (fun e => h (List.mem_cons_of_mem _ e)) (by simpa using hl)]
    rfl
theorem dk_put (ks : List Key) (k : Key) {v : V} (hv : keyOf v = some k) (nd : ks.Nodup) (h : k ∉ ks) (hl : ks.length < sizeLine) : mSetD v (dk true ks) [B true] = some (N, dk true (ks ++ [k])) := by
  unfold dk mSetD
  simp only [hv, Option.bind_some, hl, nodupK_iff nd, and_self, if_true]
  rw [putKT_last ks _ h (by simp)]
  simp
theorem dk_in (o : Bool) (ks : List Key) (k : Key) {v : V} (hv : keyOf v = some k) : oIn (.lf v) (dk o ks) = some (B (hasK ks k)) := by
  unfold dk oIn inB
  simp only [hv, Option.map_some]
theorem frz_dk (o : Bool) (ks : List Key) : frz (dk o ks) = dk false ks := by
  unfold dk
  rw [frz, frzs_map, List.map_map]
  rfl
theorem pure_dk (ks : List Key) : pureT (dk true ks) = true := by
  unfold dk
  rw [pureT, pureTs_of]
  · rfl
  · intro t ht
    obtain ⟨x, _, rfl⟩ := List.mem_map.mp ht
    exact pure_lf _
abbrev kI (xs : List Int) : List Key := xs.map Sum.inl
theorem kI_mem {x : Int} {xs : List Int} : (Sum.inl x : Key) ∈ kI xs ↔ x ∈ xs := by
  constructor
  · intro h
    obtain ⟨y, h1, h2⟩ := List.mem_map.mp h
    cases h2
    exact h1
  · exact fun h => List.mem_map.mpr ⟨x, h, rfl⟩
theorem kI_nd {xs : List Int} (h : xs.Nodup) : (kI xs).Nodup := List.pairwise_map.mpr (h.imp fun h e => h (Sum.inl.inj e))
theorem dkI_put (xs : List Int) (x : Int) (nd : xs.Nodup) (h : x ∉ xs) (hl : xs.length < sizeLine) : mSetD (.int x) (dk true (kI xs)) [B true] = some (N, dk true (kI (xs ++ [x]))) := by
  rw [dk_put (kI xs) (Sum.inl x) rfl (kI_nd nd) (fun e => h (kI_mem.mp e)) (by simpa using hl)]
  simp [kI]
theorem dkI_in (o : Bool) (xs : List Int) (x : Int) : oIn (I x) (dk o (kI xs)) = some (B (decide (x ∈ xs))) := by
  rw [dk_in o (kI xs) (Sum.inl x) rfl]
  congr 3
  rw [Bool.eq_iff_iff, hasK_iff, kI_mem, decide_eq_true_iff]
theorem dk_len (o : Bool) (ks : List Key) : oLen (dk o ks) = some (I ks.length) := by
  unfold dk oLen
  simp
/-! ### machines -/
def mk1 (o : Bool) (m : Str × List Int) : T := .nd false .tup [.lf (.str m.1), li o m.2]
def mks (o : Bool) (ms : List (Str × List Int)) : T := .nd o .lst (ms.map (mk1 o))
theorem frz_mk1 (o : Bool) (m : Str × List Int) : frz (mk1 o m) = mk1 false m := by
  unfold mk1
  rw [frz, frzs, frzs, frzs, frz_lf, frz_li]
theorem frzs_mks (o : Bool) (ms : List (Str × List Int)) : frzs (ms.map (mk1 o)) = ms.map (mk1 false) := by
  rw [frzs_map, List.map_map]
  exact List.map_congr_left fun x _ => frz_mk1 o x
theorem frz_mks (o : Bool) (ms : List (Str × List Int)) : frz (mks o ms) = mks false ms := by
  unfold mks; rw [frz, frzs_mks]
def mch (o : Bool) (rs : List (List Int)) (ms : List (Str × List Int)) (fs : List (List Int)) : T := .nd o (.ins "Machine" ["steps", "marks", "fair"]) [ll o rs, mks o ms, ll o fs]
theorem frz_mch (o : Bool) (rs : List (List Int)) (ms : List (Str × List Int)) (fs : List (List Int)) : frz (mch o rs ms fs) = mch false rs ms fs := by
  unfold mch
  rw [frz, frzs, frzs, frzs, frzs, frz_ll, frz_mks, frz_ll]
theorem fld_steps (o : Bool) (rs ms fs) : oFld "Machine" "steps" (mch o rs ms fs) = some (ll o rs) := by simp [oFld, mch, getF]
theorem n_sm : ¬ ("steps" : Str) = "marks" := by decide +kernel
theorem n_sf : ¬ ("steps" : Str) = "fair" := by decide +kernel
theorem n_mf : ¬ ("marks" : Str) = "fair" := by decide +kernel
theorem fld_marks (o : Bool) (rs ms fs) : oFld "Machine" "marks" (mch o rs ms fs) = some (mks o ms) := by simp [oFld, mch, getF, n_sm]
theorem fld_fair (o : Bool) (rs ms fs) : oFld "Machine" "fair" (mch o rs ms fs) = some (ll o fs) := by simp [oFld, mch, getF, n_sf, n_mf]
theorem isIns_mch {m : Str} (o : Bool) (rs ms fs) (h : ¬ ("steps" : Str) = m ∧ ¬ ("marks" : Str) = m ∧ ¬ ("fair" : Str) = m) : isIns "Machine" m (mch o rs ms fs) = true := by
  simp [isIns, mch, h]
/-- a list of stands -/
structure Okl (n : Nat) (r : List Int) : Prop where
  nd : r.Nodup
  le : r.length ≤ 60
  bd : ∀ x ∈ r, 0 ≤ x ∧ x < n
theorem items_li (o : Bool) (xs : List Int) : itemsL (li o xs) = some (xs.map lfI) := by
  show some (frzs (xs.map lfI)) = _
  rw [frzs_ints]
theorem items_ll (o : Bool) (xs : List (List Int)) : itemsL (ll o xs) = some (xs.map (li false)) := by
  show some (frzs (xs.map (li o))) = _
  rw [frzs_ll]
theorem items_mks (o : Bool) (ms : List (Str × List Int)) : itemsL (mks o ms) = some (ms.map (mk1 false)) := by
  show some (frzs (ms.map (mk1 o))) = _
  rw [frzs_mks]
theorem isi_int (x : Int) : oIsi "int" (I x) = some (B true) := by simp [oIsi, tyN, isiB]
theorem isi_bool (x : Int) : oIsi "bool" (I x) = some (B false) := by simp [oIsi, tyN, isiB]
theorem isi_list (o : Bool) (ts : List T) : oIsi "list" (.nd o .lst ts) = some (B true) := by simp [oIsi, tyN, isiB]
theorem oNot_b (b : Bool) : oNot (B b) = some (B (!b)) := rfl
theorem oList_li (o : Bool) (xs : List Int) : oList (li o xs) = some (li true xs) := by
  show (if clns (xs.map lfI) = true then some (T.nd true .lst (xs.map lfI)) else none) = _
  rw [clns_ints]
  rfl
theorem ap_li (xs : List Int) (x : Int) (h : xs.length ≤ 1000) : mAppend (li true xs) [I x] = some (N, li true (xs ++ [x])) := by
  unfold li mAppend
  have := small (n := xs.length) h
  simp [this, lfI]
theorem ap_ll (xs : List (List Int)) (x : List Int) (h : xs.length ≤ 1000) : mAppend (ll true xs) [li true x] = some (N, ll true (xs ++ [x])) := by
  unfold ll mAppend
  have := small (n := xs.length) h
  simp [this]
theorem ix_at (rs : List (List Int)) (o : Bool) (k : Nat) (h : k < rs.length) : oIx (ll o rs) (I k) = some (li o (rs.getD k [])) := by
  rw [oIx_ll o rs k (by omega) (by simpa using h)]
  simp [h]
theorem ix_last (o : Bool) (pre : List (List Int)) (s : List Int) : oIx (ll o (pre ++ [s])) (I (-1)) = some (li o s) := by
  show L2.atI ((pre ++ [s]).map (li o)) (-1) = _
  rw [List.map_append]
  exact atI_last _ _
theorem I_eq (i j : Int) : oEq (I i) (I j) = some (B (decide (i = j))) := oEq_int i j
theorem I_neg (i : Int) : oNeg (I i) = some (I (-i)) := by simp [oNeg, oI1]
/-- numbers that rise, all below -/
structure Asc (n : Nat) (r : List Int) : Prop where
  lt : r.Pairwise (· < ·)
  bd : ∀ x ∈ r, 0 ≤ x ∧ x < n
theorem Asc.nd {n : Nat} {r : List Int} (h : Asc n r) : r.Nodup := h.lt.imp fun h e => by omega
theorem sub_len {n : Nat} {r : List Int} (nd : r.Nodup) (bd : ∀ x ∈ r, 0 ≤ x ∧ x < n) : r.length ≤ n := by
  induction n generalizing r with
  | zero => cases r with
    | nil => simp
    | cons x r => have := bd x (List.mem_cons_self ..); omega
  | succ n ih =>
    have h1 := ih (r := r.erase (n : Int)) (nd.erase _) fun x hx => by
      have h2 := nd.mem_erase_iff.mp hx
      have h3 := bd x h2.2
      have := h2.1
      omega
    have h2 := List.length_erase (a := (n : Int)) (l := r)
    split at h2 <;> omega
theorem Asc.len {n : Nat} {r : List Int} (h : Asc n r) : r.length ≤ n := sub_len h.nd h.bd
theorem Asc.okl {n : Nat} {r : List Int} (h : Asc n r) (hn : n ≤ 60) : Okl n r := ⟨h.nd, Nat.le_trans h.len hn, h.bd⟩
theorem rng_map (n : Nat) : ((List.range n).map fun (k : Nat) => lfI k) = ((List.range n).map fun (k : Nat) => (k : Int)).map lfI := by
  rw [List.map_map]; rfl
theorem E_rngN {d : DE} {env e : List T} {n : Nat} (h : d env = some (I n, e)) (hn : n ≤ 1000) : dRng d env = some ((List.range n).map (fun (k : Nat) => lfI k), e) := by
  have := E_rng (d := d) (env := env) (e := e) (j := n) h (by omega)
  simpa using this
theorem rng_get {n i : Nat} {t : T} (h : ((List.range n).map fun (k : Nat) => lfI k)[i]? = some t) : i < n ∧ t = I i := by
  have hi : i < n := by
    have := (List.getElem?_eq_some_iff.mp h).1
    simpa using this
  rw [List.getElem?_map, List.getElem?_range hi] at h
  cases h
  exact ⟨hi, rfl⟩
theorem li_get {xs : List Int} {i : Nat} {t : T} (h : (xs.map lfI)[i]? = some t) : ∃ hi : i < xs.length, t = I xs[i] := by
  have hi : i < xs.length := by
    have := (List.getElem?_eq_some_iff.mp h).1
    simpa using this
  rw [List.getElem?_map, List.getElem?_eq_getElem hi] at h
  cases h
  exact ⟨hi, rfl⟩
theorem ll_get {xs : List (List Int)} {i : Nat} {t : T} (h : (xs.map (li false))[i]? = some t) : ∃ hi : i < xs.length, t = li false xs[i] := by
  have hi : i < xs.length := by
    have := (List.getElem?_eq_some_iff.mp h).1
    simpa using this
  rw [List.getElem?_map, List.getElem?_eq_getElem hi] at h
  cases h
  exact ⟨hi, rfl⟩
theorem mks_get {xs : List (Str × List Int)} {i : Nat} {t : T} (h : (xs.map (mk1 false))[i]? = some t) : ∃ hi : i < xs.length, t = mk1 false xs[i] := by
  have hi : i < xs.length := by
    have := (List.getElem?_eq_some_iff.mp h).1
    simpa using this
  rw [List.getElem?_map, List.getElem?_eq_getElem hi] at h
  cases h
  exact ⟨hi, rfl⟩
/-- [list(r) for r in ..], the items in a slot that nothing else uses -/
theorem copies (env : List T) (k : Nat) (hk : env[k]? = some .no) (rs : List (List Int)) (hn : rs.length ≤ 1000) : dLr (gN k) dYes (o1 oList (vr (gV k))) [k] (rs.map (li false)) [] (wipeT env [k]) = some (rs.map (li true), env) := by
  have hl : k < env.length := (List.getElem?_eq_some_iff.mp hk).1
  have hw : wipeT env [k] = env := by show env.set k .no = env; exact set_self' hk
  rw [hw]
  have r := dLr_run (dg := gN k) (dc := dYes) (de := o1 oList (vr (gV k))) (vs := [k]) env (fun _ => true) (fun t => match t with | .nd _ kk xs => .nd true kk xs | t => t) (rs.map (li false)) [] (by have := small (n := rs.length) (by omega); simp; omega) (by
    intro t ht
    obtain ⟨x, hx, rfl⟩ := List.mem_map.mp ht
    refine ⟨env.set k (li false x), env.set k (li false x), by unfold gN; rw [if_pos hl], rfl, fun _ => ⟨env.set k (li false x), ?_, ?_⟩, fun h => by cases h⟩
    · have g : gV k (env.set k (li false x)) = some (li false x) := E_V (by simp [hl]) (by unfold li; intro e; cases e)
      exact E_1 (E_vr g) (oList_li _ x)
    · show (env.set k (li false x)).set k .no = env
      rw [List.set_set]
      exact set_self' hk)
  rw [r]
  congr 2
  rw [List.nil_append, List.filter_eq_self.mpr (fun _ _ => rfl), List.map_map]
  rfl
theorem E_make {c : Str} {f : FT} {bs : List (Option Nat)} {dv : List V} {dr : DA} {env e e1 ts ts' : List T} {t : T} (h1 : dr env = some (ts, e1)) (h2 : f (.nd true (.ins c []) [] :: (ts ++ dv.map .lf)) = some (.lf .non, t :: ts')) (h3 : wb bs ts' e1 = some e) : dMake c f bs dv dr env = some (t, e) := by
  simp [dMake, h1, h2, h3]
theorem E_meth {c m : Str} {f : FT} {b0 : Option Nat} {bs : List (Option Nat)} {dv : List V} {d0 : DE} {dr : DA} {env e e0 e1 ts ts' : List T} {t t0 : T} (h0 : d0 env = some (t0, e0)) (hi : isIns c m t0 = true) (h1 : dr e0 = some (ts, e1)) (h2 : f (t0 :: (ts ++ dv.map .lf)) = some (t, ts')) (h3 : wb (b0 :: bs) ts' e1 = some e) :
    dMeth c m f b0 bs dv d0 dr env = some (t, e) := by
  simp [dMeth, dCall, h0, hi, h1, h2, h3]
/-! ### two lists in a tuple -/
def tp (o : Bool) (a b : List Int) : T := .nd false .tup [li o a, li o b]
theorem frz_tp (o : Bool) (a b : List Int) : frz (tp o a b) = tp false a b := by
  unfold tp; rw [frz, frzs, frzs, frzs, frz_li, frz_li]
theorem toD_tp (o o' : Bool) (a b : List Int) : toD (.nd false .tup [li o a, li o' b]) = some (.tuple [.list (a.map .int), .list (b.map .int)]) := by
  rw [toD, toDs, toDs, toDs, toD_li, toD_li]; rfl
theorem shaped_tp (a b : List Int) : SeqAt.shaped (.tuple [.list (a.map .int), .list (b.map .int)]) = true := by
  unfold SeqAt.shaped
  simp only [PyData.canLay0, PyData.canLayAll0, canLay_ints, PyData.depth, PyData.depthAll, depth_ints]
  decide
theorem oNe_tp (o o' o'' : Bool) (a b : List Int) : oNe (tp o a b) (.nd false .tup [li o' a, li o'' b]) = some (B false) := by
  unfold oNe tp
  rw [toD_tp, toD_tp]
  simp only [Option.bind_some, shaped_tp, and_self, if_true, PyData.eqv, PyData.eqvAll, eqvAll_ints]
  simp
end Tr


set_option Elab.async false
set_option linter.all false
set_option maxRecDepth 100000
set_option maxHeartbeats 4000000
/-! M3: loops that answer, sorted, rounds. -/
namespace Pm
open PySem PySem.Spec PyProof.Rows L2 Tr
/-- a loop that may answer -/
theorem dFr_find {dg : DG} {d : DS} (Iv : List T → Prop) (p : T → Bool) (r : T) : ∀ (its : List T) (env : List T), Iv env →
    (∀ t ∈ its, ∀ env, Iv env → ∃ e e', dg t env = some e ∧ d e = some (if p t = true then .rt r else .nx, e') ∧ Iv e') → ∃ e, Iv e ∧ dFr dg d its env = some (if its.any p = true then .rt r else .nx, e)
  | [], env, h0, _ => ⟨env, h0, rfl⟩
  | t :: ts, env, h0, hs => by
    obtain ⟨e, e', h1, h2, h3⟩ := hs t (List.mem_cons_self ..) env h0
    rw [dFr]
    simp only [h1]
    cases hp : p t with
    | true =>
      rw [hp] at h2
      simp only [h2, if_true]
      exact ⟨e', h3, by simp [hp]⟩
    | false =>
      rw [hp] at h2
      simp only [h2]
      obtain ⟨e9, g1, g2⟩ := dFr_find Iv p r ts e' h3 fun u hu => hs u (List.mem_cons_of_mem _ hu)
      exact ⟨e9, g1, by simpa [hp] using g2⟩
theorem intsOf_li (xs : List Int) : intsOf (xs.map lfI) = some xs := by
  induction xs with
  | nil => rfl
  | cons x xs ih => rw [List.map_cons]; show (intsOf (xs.map lfI)).map _ = _; rw [ih]; rfl
theorem oSorted_li (o : Bool) (xs : List Int) : oSorted (li o xs) = some (li true (isort xs)) := by
  unfold li
  show (intsOf (xs.map lfI)).map _ = _
  rw [intsOf_li]
  rfl
theorem isort_any (xs : List Int) (p : Int → Bool) : (isort xs).any p = xs.any p := by
  rw [Bool.eq_iff_iff, List.any_eq_true, List.any_eq_true]
  exact ⟨fun ⟨x, h, k⟩ => ⟨x, (isort_perm xs).mem_iff.mp h, k⟩, fun ⟨x, h, k⟩ => ⟨x, (isort_perm xs).mem_iff.mpr h, k⟩⟩
/-- does a stand step to one of these -/
def tch (rs : List (List Int)) (s : List Int) (x : Int) : Bool := (rs.getD x.toNat []).any fun o => decide (o ∈ s)
theorem nbn : ¬ ("steps" : Str) = "next_of" ∧ ¬ ("marks" : Str) = "next_of" ∧ ¬ ("fair" : Str) = "next_of" := by decide +kernel
/-- what such rounds are -/
structure Rnds (f : List Int → List Int) (F : List (List Int)) (s : List Int) : Prop where
  ne : 0 < F.length
  hd : F.getD 0 [] = s
  st : ∀ i, i + 1 < F.length → F.getD (i + 1) [] = f (F.getD i [])
  lst : f (F.getD (F.length - 1) []) = F.getD (F.length - 1) []
theorem E_rng2 {a b : DV} {env : List T} {i j : Int} (h1 : a env = some (I i)) (h2 : b env = some (I j)) (h : (-(2 ^ 62) ≤ i ∧ i < 2 ^ 62) ∧ -(2 ^ 62) ≤ j ∧ j < 2 ^ 62) : dRng2 a b env = some ((List.range (j - i).toNat).map fun (k : Nat) => lfI (i + k), env) := by
  simp only [dRng2, h1, h2]; rw [if_pos h]
theorem dpIx_head (dp : DP) (env : List T) (put : T → List T) (x : List Int) (xs : List (List Int)) (h : dp env = some (ll true (x :: xs), put)) : dpIx dp (gC (.int 0)) env = some (li true x, fun t' => put (.nd true .lst (t' :: xs.map (li true)))) := by
  have : ixN ((x :: xs).map (li true)).length 0 = some 0 := by unfold ixN; simp
  unfold dpIx
  rw [h]
  show (ixN ((x :: xs).map (li true)).length 0).bind _ = _
  rw [this]
  rfl
end Pm


set_option Elab.async false
set_option linter.all false
set_option maxRecDepth 100000
set_option maxHeartbeats 4000000
/-! EV: mirrors reckoned by simp: each combinator steps by a named function that stands still until its argument is known. -/
namespace Tr
open PySem PySem.Spec PyProof.Rows L2 Pm

def okT : T → Option T
  | .no => none
  | t => some t
def okO : Option T → Option T
  | some t => okT t
  | none => none
--ev
theorem okT_lf (v : V) : okT (.lf v) = some (.lf v) := rfl
--ev
theorem okT_nd (o k xs) : okT (.nd o k xs) = some (.nd o k xs) := rfl
--ev
theorem okT_li (o xs) : okT (li o xs) = some (li o xs) := rfl
--ev
theorem okT_ll (o xs) : okT (ll o xs) = some (ll o xs) := rfl
--ev
theorem okT_dk (o xs) : okT (dk o xs) = some (dk o xs) := rfl
--ev
theorem okT_mks (o xs) : okT (mks o xs) = some (mks o xs) := rfl
--ev
theorem okT_mk1 (o xs) : okT (mk1 o xs) = some (mk1 o xs) := rfl
--ev
theorem okT_mch (o a b c) : okT (mch o a b c) = some (mch o a b c) := rfl
--ev
theorem okT_scr (ns) : okT (scrT ns) = some (scrT ns) := rfl
--ev
theorem okT_tp (o a b) : okT (tp o a b) = some (tp o a b) := rfl
--ev
theorem okO_some (t) : okO (some t) = okT t := rfl
--ev
theorem gV_ev (i : Nat) (env : List T) : gV i env = okO env[i]? := by
  unfold gV okO okT
  split <;> rename_i h <;> rw [h]
  rename_i t hne
  cases t <;> first | rfl | exact (hne rfl).elim
--ev
theorem gC_ev (v env) : gC v env = some (.lf v) := rfl
--ev
theorem gG_ev (t env) : gG t env = some t := rfl
def fM (i : Nat) (env : List T) (t : T) : Option (T × List T) := some (t, env.set i .no)
def fS (i : Nat) (env : List T) (t : T) : Option (T × List T) := some (frz t, env.set i (frz t))
--ev
theorem fM_ev (i env t) : fM i env t = some (t, env.set i .no) := rfl
--ev
theorem fS_ev (i env t) : fS i env t = some (frz t, env.set i (frz t)) := rfl
--ev
theorem gM_ev (i : Nat) (env : List T) : gM i env = (gV i env).bind (fM i env) := by unfold gM; cases gV i env <;> rfl
--ev
theorem gS_ev (i : Nat) (env : List T) : gS i env = (gV i env).bind (fS i env) := by unfold gS; cases gV i env <;> rfl
def fP {α β : Type} (e : β) (t : α) : Option (α × β) := some (t, e)
def fQ {α β : Type} (t : α) (e : β) : Option (α × β) := some (t, e)
--ev
theorem fP_ev {α β : Type} (e : β) (t : α) : fP e t = some (t, e) := rfl
--ev
theorem fQ_ev {α β : Type} (e : β) (t : α) : fQ t e = some (t, e) := rfl
--ev
theorem vr_ev (d : DV) (env) : vr d env = (d env).bind (fP env) := by unfold vr; cases d env <;> rfl
def fRe : T × List T → Option (T × List T) := fun p => if cln p.1 = true then some p else none
--ev
theorem fRe_ev (t e) : fRe (t, e) = if cln t = true then some (t, e) else none := rfl
--ev
theorem re_ev (d : DE) (env) : re d env = (d env).bind fRe := by unfold re; cases d env <;> rfl
def fO1 (o : T → Option T) : T × List T → Option (T × List T) := fun p => (o p.1).bind (fP p.2)
--ev
theorem fO1_ev (o t e) : fO1 o (t, e) = (o t).bind (fP e) := rfl
--ev
theorem o1V_ev (o) (d : DV) (env) : o1V o d env = (d env).bind o := rfl
--ev
theorem o1_ev (o) (d : DE) (env) : o1 o d env = (d env).bind (fO1 o) := by
  unfold o1 fO1; cases d env with
  | none => rfl
  | some p => simp only [Option.bind_some]; cases o p.1 <;> rfl
def fO2V (o : T → T → Option T) (vb : DV) (env : List T) (x : T) : Option T := (vb env).bind (o x)
--ev
theorem fO2V_ev (o vb env x) : fO2V o vb env x = (vb env).bind (o x) := rfl
--ev
theorem o2V_ev (o) (da db : DV) (env) : o2V o da db env = (da env).bind (fO2V o db env) := rfl
def fO2v' (o : T → T → Option T) (x : T) (e : List T) (s : T) : Option (T × List T) := (o x s).bind (fP e)
--ev
theorem fO2v'_ev (o x e s) : fO2v' o x e s = (o x s).bind (fP e) := rfl
def fO2v (o : T → T → Option T) (vb : DV) : T × List T → Option (T × List T) := fun p => (vb p.2).bind (fO2v' o p.1 p.2)
--ev
theorem fO2v_ev (o vb x e) : fO2v o vb (x, e) = (vb e).bind (fO2v' o x e) := rfl
--ev
theorem o2v_ev (o da vb env) : o2v o da vb env = (da env).bind (fO2v o vb) := by
  unfold o2v fO2v fO2v'; cases da env with
  | none => rfl
  | some p => simp only [Option.bind_some]; cases vb p.2 with
    | none => rfl
    | some s => simp only [Option.bind_some]; cases o p.1 s <;> rfl
def fO2o' (o : T → T → Option T) (x : T) : T × List T → Option (T × List T) := fun q => (o x q.1).bind (fP q.2)
--ev
theorem fO2o'_ev (o x y e) : fO2o' o x (y, e) = (o x y).bind (fP e) := rfl
def fO2o (o : T → T → Option T) (db : DE) : T × List T → Option (T × List T) := fun p => (db p.2).bind (fO2o' o p.1)
--ev
theorem fO2o_ev (o db x e) : fO2o o db (x, e) = (db e).bind (fO2o' o x) := rfl
--ev
theorem o2o_ev (o da db env) : o2o o da db env = (da env).bind (fO2o o db) := by
  unfold o2o fO2o fO2o'; cases da env with
  | none => rfl
  | some p => simp only [Option.bind_some]; cases db p.2 with
    | none => rfl
    | some s => simp only [Option.bind_some]; cases o p.1 s.1 <;> rfl
def fO2c' (o : T → T → Option T) (x : T) : T × List T → Option (T × List T) := fun q => if cln x = true then (o x q.1).bind (fP q.2) else none
--ev
theorem fO2c'_ev (o x y e) : fO2c' o x (y, e) = if cln x = true then (o x y).bind (fP e) else none := rfl
def fO2c (o : T → T → Option T) (db : DE) : T × List T → Option (T × List T) := fun p => (db p.2).bind (fO2c' o p.1)
--ev
theorem fO2c_ev (o db x e) : fO2c o db (x, e) = (db e).bind (fO2c' o x) := rfl
--ev
theorem o2c_ev (o da db env) : o2c o da db env = (da env).bind (fO2c o db) := by
  unfold o2c fO2c fO2c'; cases da env with
  | none => rfl
  | some p => simp only [Option.bind_some]; cases db p.2 with
    | none => rfl
    | some s => simp only [Option.bind_some]; cases o p.1 s.1 <;> rfl
def fO2n' (o : T → T → Option T) (i : Nat) : T × List T → Option (T × List T) := fun q => (gV i q.2).bind fun t => (o t q.1).bind (fP q.2)
def fO2n'' (o : T → T → Option T) (y : T) (e : List T) (t : T) : Option (T × List T) := (o t y).bind (fP e)
--ev
theorem fO2n''_ev (o y e t) : fO2n'' o y e t = (o t y).bind (fP e) := rfl
--ev
theorem fO2n'_ev (o i y e) : fO2n' o i (y, e) = (gV i e).bind (fO2n'' o y e) := rfl
def fO2n (o : T → T → Option T) (i : Nat) (db : DE) (env : List T) (_ : T) : Option (T × List T) := (db env).bind (fO2n' o i)
--ev
theorem fO2n_ev (o i db env t) : fO2n o i db env t = (db env).bind (fO2n' o i) := rfl
--ev
theorem o2n_ev (o i db env) : o2n o i db env = (gV i env).bind (fO2n o i db env) := by
  unfold o2n fO2n fO2n'; cases gV i env with
  | none => rfl
  | some p => simp only [Option.bind_some]; cases db env with
    | none => rfl
    | some s => simp only [Option.bind_some]; cases gV i s.2 with
      | none => rfl
      | some t => simp only [Option.bind_some]; cases o t s.1 <;> rfl
def fAnd (db : DE) : T × List T → Option (T × List T)
  | (.lf (.bl true), e) => db e
  | (.lf (.bl false), e) => some (.lf (.bl false), e)
  | _ => none
def fOr (db : DE) : T × List T → Option (T × List T)
  | (.lf (.bl true), e) => some (.lf (.bl true), e)
  | (.lf (.bl false), e) => db e
  | _ => none
--ev
theorem fAnd_ev (db b e) : fAnd db (.lf (.bl b), e) = if b = true then db e else some (.lf (.bl false), e) := by cases b <;> rfl
--ev
theorem fOr_ev (db b e) : fOr db (.lf (.bl b), e) = if b = true then some (.lf (.bl true), e) else db e := by cases b <;> rfl
--ev
theorem dAnd_ev (da db env) : dAnd da db env = (da env).bind (fAnd db) := by
  unfold dAnd; split <;> rename_i h
  · rw [h]; rfl
  · rw [h]; rfl
  · cases hd : da env with
    | none => rfl
    | some p => obtain ⟨t, e⟩ := p; rw [Option.bind_some]; unfold fAnd; split <;> simp_all
--ev
theorem dOr_ev (da db env) : dOr da db env = (da env).bind (fOr db) := by
  unfold dOr; split <;> rename_i h
  · rw [h]; rfl
  · rw [h]; rfl
  · cases hd : da env with
    | none => rfl
    | some p => obtain ⟨t, e⟩ := p; rw [Option.bind_some]; unfold fOr; split <;> simp_all
/-! merging -/
--ev
theorem ite_BB {p : Prop} [Decidable p] (b c : Bool) (e : List T) : (if p then some ((.lf (.bl b) : T), e) else some (.lf (.bl c), e)) = some (.lf (.bl (if p then b else c)), e) := by split <;> rfl
--ev
theorem ite_decF {p q : Prop} [Decidable p] [Decidable q] : (if p then decide q else false) = decide (p ∧ q) := by by_cases p <;> simp [*]
--ev
theorem ite_Tdec {p q : Prop} [Decidable p] [Decidable q] : (if p then true else decide q) = decide (p ∨ q) := by by_cases p <;> simp [*]
--ev
theorem z_cast (a b : Nat) : ((a : Int) = (b : Int)) = (a = b) := propext (by omega)
--ev
theorem z_ndec {p : Prop} [Decidable p] : (!decide p) = decide (¬ p) := by by_cases p <;> simp [*]
--ev
theorem ite_TF {p : Prop} [Decidable p] : (if p then true else false) = decide p := by by_cases p <;> simp [*]
--ev
theorem ite_FT {p : Prop} [Decidable p] : (if p then false else true) = decide (¬ p) := by by_cases p <;> simp [*]
--ev
theorem bind_ite {α β : Type} {p : Prop} [Decidable p] (x y : Option α) (f : α → Option β) : (if p then x else y).bind f = if p then x.bind f else y.bind f := by split <;> rfl
/-! arguments -/
--ev
theorem aNil_ev (env) : aNil env = some ([], env) := rfl
def fCons' (t : T) : List T × List T → Option (List T × List T) := fun q => some (t :: q.1, q.2)
def fCons (dr : DA) : T × List T → Option (List T × List T) := fun p => (dr p.2).bind (fCons' p.1)
--ev
theorem fCons'_ev (t ts e) : fCons' t (ts, e) = some (t :: ts, e) := rfl
--ev
theorem fCons_ev (dr t e) : fCons dr (t, e) = (dr e).bind (fCons' t) := rfl
--ev
theorem aCons_ev (da dr env) : aCons da dr env = (da env).bind (fCons dr) := by
  unfold aCons fCons; cases da env with
  | none => rfl
  | some p => simp only [Option.bind_some]; cases dr p.2 <;> rfl
def fCall' (bs : List (Option Nat)) (e : List T) : T × List T → Option (T × List T) := fun r => (wb bs r.2 e).bind (fQ r.1)
def fCall (f : FT) (bs : List (Option Nat)) (dv : List V) : List T × List T → Option (T × List T) := fun p => (f (p.1 ++ dv.map .lf)).bind (fCall' bs p.2)
--ev
theorem fCall'_ev (bs e t ts) : fCall' bs e (t, ts) = (wb bs ts e).bind (fQ t) := rfl
--ev
theorem fCall_ev (f bs dv ts e) : fCall f bs dv (ts, e) = (f (ts ++ dv.map .lf)).bind (fCall' bs e) := rfl
--ev
theorem dCall_ev (f bs dv da env) : dCall f bs dv da env = (da env).bind (fCall f bs dv) := by
  unfold dCall fCall fCall'; cases da env with
  | none => rfl
  | some p => simp only [Option.bind_some]; cases f (p.1 ++ dv.map .lf) with
    | none => rfl
    | some r => simp only [Option.bind_some]; cases wb bs r.2 p.2 <;> rfl
--ev
theorem wb_nil (ts env) : wb [] ts env = some env := by cases ts <;> rfl
--ev
theorem wb_none (bs t ts env) : wb (none :: bs) (t :: ts) env = wb bs ts env := rfl
def fWb (i : Nat) (bs : List (Option Nat)) (t : T) (ts env : List T) : T → Option (List T)
  | .no => wb bs ts (env.set i t)
  | _ => none
--ev
theorem fWb_ev (i bs t ts env) : fWb i bs t ts env .no = wb bs ts (env.set i t) := rfl
--ev
theorem wb_some (i bs t ts env) : wb (some i :: bs) (t :: ts) env = env[i]?.bind (fWb i bs t ts env) := by
  rw [wb]; cases env[i]? with
  | none => rfl
  | some x => cases x <;> rfl
def fMeth' (f : FT) (bs : List (Option Nat)) (dv : List V) (t : T) : List T × List T → Option (T × List T) := fun q => fCall f bs dv (t :: q.1, q.2)
def fMeth (c m : Str) (f : FT) (b0 : Option Nat) (bs : List (Option Nat)) (dv : List V) (da : DA) : T × List T → Option (T × List T) := fun p => if isIns c m p.1 = true then (da p.2).bind (fMeth' f (b0 :: bs) dv p.1) else none
--ev
theorem fMeth'_ev (f bs dv t ts e) : fMeth' f bs dv t (ts, e) = fCall f bs dv (t :: ts, e) := rfl
--ev
theorem fMeth_ev (c m f b0 bs dv da t e) : fMeth c m f b0 bs dv da (t, e) = if isIns c m t = true then (da e).bind (fMeth' f (b0 :: bs) dv t) else none := rfl
--ev
theorem dMeth_ev (c m f b0 bs dv d0 da env) : dMeth c m f b0 bs dv d0 da env = (d0 env).bind (fMeth c m f b0 bs dv da) := by
  unfold dMeth fMeth; cases d0 env with
  | none => rfl
  | some p =>
    simp only [Option.bind_some]; split
    · rw [dCall_ev]; cases da p.2 <;> rfl
    · rfl
def fMake' (bs : List (Option Nat)) (e : List T) : T × List T → Option (T × List T)
  | (.lf .non, t :: ts') => (wb bs ts' e).bind (fQ t)
  | _ => none
def fMake (c : Str) (f : FT) (bs : List (Option Nat)) (dv : List V) : List T × List T → Option (T × List T) := fun p => (f (.nd true (.ins c []) [] :: (p.1 ++ dv.map .lf))).bind (fMake' bs p.2)
--ev
theorem fMake'_ev (bs e t ts) : fMake' bs e (.lf .non, t :: ts) = (wb bs ts e).bind (fQ t) := rfl
--ev
theorem fMake_ev (c f bs dv ts e) : fMake c f bs dv (ts, e) = (f (.nd true (.ins c []) [] :: (ts ++ dv.map .lf))).bind (fMake' bs e) := rfl
--ev
theorem dMake_ev (c f bs dv da env) : dMake c f bs dv da env = (da env).bind (fMake c f bs dv) := by
  unfold dMake fMake; cases da env with
  | none => rfl
  | some p =>
    simp only [Option.bind_some]; split <;> rename_i h
    · rw [h, Option.bind_some, fMake'_ev]; cases wb bs _ p.2 <;> rfl
    · cases hd : f (.nd true (.ins c []) [] :: (p.1 ++ dv.map .lf)) with
      | none => rfl
      | some r =>
        rw [Option.bind_some]; unfold fMake'; split
        · rename_i t ts; exact (h _ _ hd).elim
        · rfl
/-! statements -/
def fSeq (b : DS) : Fl × List T → Option (Fl × List T)
  | (.nx, e) => b e
  | (r, e) => some (r, e)
--ev
theorem fSeq_nx (b e) : fSeq b (.nx, e) = b e := rfl
--ev
theorem fSeq_rt (b t e) : fSeq b (.rt t, e) = some (.rt t, e) := rfl
--ev
theorem fSeq_bk (b e) : fSeq b (.bk, e) = some (.bk, e) := rfl
--ev
theorem fSeq_ct (b e) : fSeq b (.ct, e) = some (.ct, e) := rfl
--ev
theorem dSeq_ev (a b env) : dSeq a b env = (a env).bind (fSeq b) := by
  unfold dSeq; split <;> rename_i h
  · rw [h]; rfl
  · rw [h, Option.bind_some]; unfold fSeq; split <;> simp_all
  · rw [h]; rfl
def fIf (a b : DS) : T × List T → Option (Fl × List T)
  | (.lf (.bl true), e) => a e
  | (.lf (.bl false), e) => b e
  | _ => none
--ev
theorem fIf_ev (a b x e) : fIf a b (.lf (.bl x), e) = if x = true then a e else b e := by cases x <;> rfl
--ev
theorem dIf_ev (c a b env) : dIf c a b env = (c env).bind (fIf a b) := by
  unfold dIf; split <;> rename_i h
  · rw [h]; rfl
  · rw [h]; rfl
  · cases hd : c env with
    | none => rfl
    | some p => obtain ⟨t, e⟩ := p; rw [Option.bind_some]; unfold fIf; split <;> simp_all
def fSet (i : Nat) : T × List T → Option (Fl × List T) := fun p => if i < p.2.length then some (.nx, p.2.set i p.1) else none
--ev
theorem fSet_ev (i t e) : fSet i (t, e) = if i < e.length then some (.nx, e.set i t) else none := rfl
--ev
theorem dSet_ev (i d env) : dSet i d env = (d env).bind (fSet i) := by unfold dSet; cases d env <;> rfl
def fRet : T × List T → Option (Fl × List T) := fun p => some (.rt p.1, p.2)
--ev
theorem fRet_ev (t e) : fRet (t, e) = some (.rt t, e) := rfl
--ev
theorem dRet_ev (d env) : dRet d env = (d env).bind fRet := by unfold dRet; cases d env <;> rfl
def fEx : T × List T → Option (Fl × List T) := fun p => some (.nx, p.2)
--ev
theorem fEx_ev (t e) : fEx (t, e) = some (.nx, e) := rfl
--ev
theorem dEx_ev (d env) : dEx d env = (d env).bind fEx := by unfold dEx; cases d env <;> rfl
--ev
theorem dRetN_ev (env) : dRetN env = some (.rt (.lf .non), env) := rfl
--ev
theorem dNx_ev (env) : dNx env = some (.nx, env) := rfl
--ev
theorem dBk_ev (env) : dBk env = some (.bk, env) := rfl
--ev
theorem dCt_ev (env) : dCt env = some (.ct, env) := rfl
--ev
theorem dFail_ev (env) : dFail env = none := rfl
def fPut'' (i : Nat) (e : List T) : T × T → Option (Fl × List T) := fun q => some (.nx, e.set i q.2)
def fPut' (i : Nat) (mk : V → T → List T → Option (T × T)) (t : T) (e : List T) (x : T) : T → Option (Fl × List T)
  | .lf k => (mk k x [t]).bind (fPut'' i e)
  | _ => none
def fPut1 (i : Nat) (mk : V → T → List T → Option (T × T)) (dk : DV) (t : T) (e : List T) (x : T) : Option (Fl × List T) := (dk e).bind (fPut' i mk t e x)
def fPut (i : Nat) (mk : V → T → List T → Option (T × T)) (dk : DV) : T × List T → Option (Fl × List T) := fun p => (gV i p.2).bind (fPut1 i mk dk p.1 p.2)
--ev
theorem fPut''_ev (i e x y) : fPut'' i e (x, y) = some (.nx, e.set i y) := rfl
--ev
theorem fPut'_ev (i mk t e x k) : fPut' i mk t e x (.lf k) = (mk k x [t]).bind (fPut'' i e) := rfl
--ev
theorem fPut1_ev (i mk dk t e x) : fPut1 i mk dk t e x = (dk e).bind (fPut' i mk t e x) := rfl
--ev
theorem fPut_ev (i mk dk t e) : fPut i mk dk (t, e) = (gV i e).bind (fPut1 i mk dk t e) := rfl
--ev
theorem dPut_ev (i mk dv dk env) : dPut i mk dv dk env = (dv env).bind (fPut i mk dk) := by
  unfold dPut; cases dv env with
  | none => rfl
  | some p =>
    obtain ⟨t, e⟩ := p
    show (match gV i e, dk e with
      | some t_1, some (.lf k) => (mk k t_1 [t]).map fun q => (.nx, e.set i q.2)
      | _, _ => none) = (gV i e).bind (fPut1 i mk dk t e)
    cases h1 : gV i e with
    | none => rfl
    | some x =>
      show _ = (dk e).bind (fPut' i mk t e x)
      cases h2 : dk e with
      | none => rfl
      | some y => cases y with
        | lf k => show (mk k x [t]).map _ = (mk k x [t]).bind (fPut'' i e); cases mk k x [t] <;> rfl
        | no => rfl
        | nd _ _ _ => rfl
def fMut3 (i : Nat) (e : List T) : T × T → Option (T × List T) := fun q => some (q.1, e.set i q.2)
def fMut2 (i : Nat) (op : T → List T → Option (T × T)) (ts e : List T) (t : T) : Option (T × List T) := (op t ts).bind (fMut3 i e)
def fMut1 (i : Nat) (op : T → List T → Option (T × T)) : List T × List T → Option (T × List T) := fun p => (gV i p.2).bind (fMut2 i op p.1 p.2)
def fMut (ty : String) (i : Nat) (op : T → List T → Option (T × T)) (da : DA) (env : List T) (t0 : T) : Option (T × List T) := if isTy ty t0 = true then (da env).bind (fMut1 i op) else none
--ev
theorem fMut3_ev (i e x y) : fMut3 i e (x, y) = some (x, e.set i y) := rfl
--ev
theorem fMut2_ev (i op ts e t) : fMut2 i op ts e t = (op t ts).bind (fMut3 i e) := rfl
--ev
theorem fMut1_ev (i op ts e) : fMut1 i op (ts, e) = (gV i e).bind (fMut2 i op ts e) := rfl
--ev
theorem fMut_ev (ty i op da env t0) : fMut ty i op da env t0 = if isTy ty t0 = true then (da env).bind (fMut1 i op) else none := rfl
--ev
theorem dMut_ev (ty i op da env) : dMut ty i op da env = (gV i env).bind (fMut ty i op da env) := by
  unfold dMut fMut fMut1 fMut2; cases gV i env with
  | none => rfl
  | some t0 =>
    simp only [Option.bind_some]; split
    · cases da env with
      | none => rfl
      | some p => simp only [Option.bind_some]; cases gV i p.2 with
        | none => rfl
        | some t => simp only [Option.bind_some]; cases op t p.1 <;> rfl
    · rfl
def fLst : List T × List T → Option (T × List T) := fun p => if p.1.length ≤ sizeLine then some (.nd true .lst p.1, p.2) else none
def fTup : List T × List T → Option (T × List T) := fun p => if p.1.length ≤ sizeLine then some (.nd false .tup p.1, p.2) else none
--ev
theorem fLst_ev (ts e) (h : ts.length ≤ 1000) : fLst (ts, e) = some (.nd true .lst ts, e) := by unfold fLst; rw [if_pos (Nat.le_of_lt (small h))]
--ev
theorem fTup_ev (ts e) (h : ts.length ≤ 1000) : fTup (ts, e) = some (.nd false .tup ts, e) := by unfold fTup; rw [if_pos (Nat.le_of_lt (small h))]
--ev
theorem dLst_ev (da env) : dLst da env = (da env).bind fLst := rfl
--ev
theorem dTup_ev (da env) : dTup da env = (da env).bind fTup := rfl
--ev
theorem dDic_ev (env) : dDic env = some (dk true [], env) := rfl
def fBw (env : List T) : T × List T → Option (T × List T) := fun p => if pureT p.1 = true then some (p.1, env) else none
--ev
theorem fBw_ev (env t e) : fBw env (t, e) = if pureT t = true then some (t, env) else none := rfl
--ev
theorem bw_ev (d env) : bw d env = (d (frzs env)).bind (fBw env) := by unfold bw; cases d (frzs env) <;> rfl
def fFz (i : Nat) (d : DE) (env : List T) (t : T) : Option (T × List T) := d (env.set i (frz t))
--ev
theorem fFz_ev (i d env t) : fFz i d env t = d (env.set i (frz t)) := rfl
--ev
theorem fz_ev (i d env) : fz i d env = env[i]?.bind (fFz i d env) := by unfold fz; cases env[i]? <;> rfl
def fAug' (i : Nat) (o : T → T → Option T) (t : T) : T × List T → Option (Fl × List T) := fun p => (o t p.1).bind fun u => if cln u = true then some (.nx, p.2.set i u) else none
def fAug'' (i : Nat) (e : List T) (u : T) : Option (Fl × List T) := if cln u = true then some (.nx, e.set i u) else none
--ev
theorem fAug''_ev (i e u) : fAug'' i e u = if cln u = true then some (.nx, e.set i u) else none := rfl
--ev
theorem fAug'_ev (i o t y e) : fAug' i o t (y, e) = (o t y).bind (fAug'' i e) := rfl
def fAug (i : Nat) (o : T → T → Option T) (d : DE) (env : List T) (t : T) : Option (Fl × List T) := if cln t = true then (d env).bind (fAug' i o t) else none
--ev
theorem fAug_ev (i o d env t) : fAug i o d env t = if cln t = true then (d env).bind (fAug' i o t) else none := rfl
--ev
theorem dAug_ev (i o d env) : dAug i o d env = (gV i env).bind (fAug i o d env) := by unfold dAug; cases gV i env <;> rfl
/-! answers that are asked for -/
--ev
theorem z_ex {α : Type} {fl : Fl} {e : α} {P : α → Prop} : (∃ e', (some (fl, e) : Option (Fl × α)) = some (fl, e') ∧ P e') = P e := by
  apply propext; constructor
  · rintro ⟨e', h, k⟩; cases h; exact k
  · exact fun h => ⟨e, rfl, h⟩
--ev
theorem z_exT {α β : Type} {t : β} {e : α} {P : α → Prop} : (∃ e', (some (t, e) : Option (β × α)) = some (t, e') ∧ P e') = P e := by
  apply propext; constructor
  · rintro ⟨e', h, k⟩; cases h; exact k
  · exact fun h => ⟨e, rfl, h⟩
/-! loops -/
def rngT (n : Nat) : List T := (List.range n).map fun (k : Nat) => lfI k
def fRng : T × List T → Option (List T × List T)
  | (.lf (.int j), e) => if -(2 ^ 62) ≤ j ∧ j < 2 ^ 62 then some (rngT j.toNat, e) else none
  | _ => none
theorem fRng_ev (j e) : fRng (.lf (.int j), e) = if -(2 ^ 62) ≤ j ∧ j < 2 ^ 62 then some (rngT j.toNat, e) else none := rfl
--ev
theorem fRng_nat (n : Nat) (e) (h : n ≤ 1000) : fRng (.lf (.int (n : Int)), e) = some (rngT n, e) := by rw [fRng_ev, if_pos (by omega)]; rfl
theorem fRng_int (j : Int) (e) (h : -1000 ≤ j ∧ j ≤ 1000) : fRng (.lf (.int j), e) = some (rngT j.toNat, e) := by rw [fRng_ev, if_pos (by omega)]
--ev
theorem dRng_ev (d env) : dRng d env = (d env).bind fRng := by
  unfold dRng; split <;> rename_i h
  · rw [h]; rfl
  · cases hd : d env with
    | none => rfl
    | some p =>
      obtain ⟨t, e⟩ := p; rw [Option.bind_some]; unfold fRng; split
      · rename_i hp; cases hp; exact (h _ _ hd).elim
      · rfl
def fIt' (e : List T) (its : List T) : Option (List T × List T) := some (its, e)
def fIt (f : T → Option (List T)) : T × List T → Option (List T × List T) := fun p => (f p.1).bind (fIt' p.2)
--ev
theorem fIt'_ev (e its) : fIt' e its = some (its, e) := rfl
--ev
theorem fIt_ev (f t e) : fIt f (t, e) = (f t).bind (fIt' e) := rfl
--ev
theorem dIt_ev (f d env) : dIt f d env = (d env).bind (fIt f) := by
  unfold dIt fIt; cases d env with
  | none => rfl
  | some p => simp only [Option.bind_some]; cases f p.1 <;> rfl
def fFor (dg : DG) (d : DS) : List T × List T → Option (Fl × List T) := fun p => dFr dg d p.1 p.2
--ev
theorem fFor_ev (dg d its e) : fFor dg d (its, e) = dFr dg d its e := rfl
--ev
theorem dFor_ev (di dg d env) : dFor di dg d env = (di env).bind (fFor dg d) := rfl
--ev
theorem gN_ev (i t env) : gN i t env = if i < env.length then some (env.set i t) else none := rfl
def fG (b : DG) (y : T) (e : List T) : Option (List T) := b y e
--ev
theorem fG_ev (b y e) : fG b y e = b y e := rfl
--ev
theorem gT2_ev (a b o x y env) : gT2 a b (.nd o .tup [x, y]) env = (a x env).bind (fG b y) := rfl
--ev
theorem gT2_mk1 (a b o m env) : gT2 a b (mk1 o m) env = (a (.lf (.str m.1)) env).bind (fG b (li o m.2)) := rfl
--ev
theorem dFr_nil (dg d env) : dFr dg d [] env = some (.nx, env) := rfl
def turn (dg : DG) (d : DS) (t : T) (env : List T) : Option (Fl × List T) := (dg t env).bind d
--ev
theorem turn_ev (dg d t env) : turn dg d t env = (dg t env).bind d := rfl
def fFr (dg : DG) (d : DS) (ts : List T) : Fl × List T → Option (Fl × List T)
  | (.nx, e) => dFr dg d ts e
  | (.ct, e) => dFr dg d ts e
  | (.bk, e) => some (.nx, e)
  | (.rt t, e) => some (.rt t, e)
--ev
theorem fFr_nx (dg d ts e) : fFr dg d ts (.nx, e) = dFr dg d ts e := rfl
--ev
theorem fFr_ct (dg d ts e) : fFr dg d ts (.ct, e) = dFr dg d ts e := rfl
--ev
theorem fFr_bk (dg d ts e) : fFr dg d ts (.bk, e) = some (.nx, e) := rfl
--ev
theorem fFr_rt (dg d ts t e) : fFr dg d ts (.rt t, e) = some (.rt t, e) := rfl
--ev
theorem dFr_cons (dg d t ts env) : dFr dg d (t :: ts) env = (turn dg d t env).bind (fFr dg d ts) := by
  unfold turn; rw [dFr]; cases dg t env with
  | none => rfl
  | some e => simp only [Option.bind_some]; split <;> rename_i h <;> rw [h] <;> rfl
def fWh' (c : DE) (d : DS) (m : Nat) : Fl × List T → Option (Fl × List T)
  | (.nx, e) => dWh c d m e
  | (.ct, e) => dWh c d m e
  | (.bk, e) => some (.nx, e)
  | (.rt t, e) => some (.rt t, e)
theorem fWh'_nx (c d m e) : fWh' c d m (.nx, e) = dWh c d m e := rfl
theorem fWh'_ct (c d m e) : fWh' c d m (.ct, e) = dWh c d m e := rfl
theorem fWh'_bk (c d m e) : fWh' c d m (.bk, e) = some (.nx, e) := rfl
theorem fWh'_rt (c d m t e) : fWh' c d m (.rt t, e) = some (.rt t, e) := rfl
/-- one round of a while -/
theorem wh_stop {c : DE} {d : DS} {m : Nat} {env e : List T} (h : c env = some (B false, e)) : dWh c d (m + 1) env = some (.nx, e) := by rw [dWh, h]
theorem wh_go {c : DE} {d : DS} {m : Nat} {env e e2 : List T} (h : c env = some (B true, e)) (h2 : d e = some (.nx, e2)) : dWh c d (m + 1) env = dWh c d m e2 := by rw [dWh, h]; simp only [h2]
theorem wh_rt {c : DE} {d : DS} {m : Nat} {env e e2 : List T} {t : T} (h : c env = some (B true, e)) (h2 : d e = some (.rt t, e2)) : dWh c d (m + 1) env = some (.rt t, e2) := by rw [dWh, h]; simp only [h2]
/-- loops by an invariant -/
theorem lp {dg : DG} {d : DS} (its : List T) (Iv : Nat → List T → Prop) (env : List T) (h0 : Iv 0 env)
    (hs : ∀ i t env, its[i]? = some t → Iv i env → ∃ e', (turn dg d t env = some (.nx, e') ∨ turn dg d t env = some (.ct, e')) ∧ Iv (i + 1) e') : ∃ env', dFr dg d its env = some (.nx, env') ∧ Iv its.length env' :=
  dFr_inv its Iv env h0 fun i t env h k => by
    obtain ⟨e', h1, h2⟩ := hs i t env h k
    cases hg : dg t env with
    | none => simp [turn, hg] at h1
    | some e => exact ⟨e, e', rfl, by simpa [turn, hg] using h1, h2⟩
theorem lp_li {dg : DG} {d : DS} (xs : List Int) (Iv : Nat → List T → Prop) (env : List T) (h0 : Iv 0 env)
    (hs : ∀ i (hi : i < xs.length) env, Iv i env → ∃ e', turn dg d (I xs[i]) env = some (.nx, e') ∧ Iv (i + 1) e') : ∃ env', dFr dg d (xs.map lfI) env = some (.nx, env') ∧ Iv xs.length env' := by
  have := lp (dg := dg) (d := d) (xs.map lfI) Iv env h0 fun i t env h k => by
    obtain ⟨hi, rfl⟩ := li_get h
    obtain ⟨e', h1, h2⟩ := hs i hi env k
    exact ⟨e', .inl h1, h2⟩
  simpa using this
theorem lp_rng {dg : DG} {d : DS} (n : Nat) (Iv : Nat → List T → Prop) (env : List T) (h0 : Iv 0 env)
    (hs : ∀ (i : Nat), i < n → ∀ env, Iv i env → ∃ e', turn dg d (I (i : Int)) env = some (.nx, e') ∧ Iv (i + 1) e') : ∃ env', dFr dg d (rngT n) env = some (.nx, env') ∧ Iv n env' := by
  have := lp (dg := dg) (d := d) (rngT n) Iv env h0 fun i t env h k => by
    obtain ⟨hi, rfl⟩ := rng_get h
    obtain ⟨e', h1, h2⟩ := hs i hi env k
    exact ⟨e', .inl h1, h2⟩
  simpa [rngT] using this
theorem lp_ll {dg : DG} {d : DS} (xs : List (List Int)) (Iv : Nat → List T → Prop) (env : List T) (h0 : Iv 0 env)
    (hs : ∀ i (hi : i < xs.length) env, Iv i env → ∃ e', turn dg d (li false xs[i]) env = some (.nx, e') ∧ Iv (i + 1) e') : ∃ env', dFr dg d (xs.map (li false)) env = some (.nx, env') ∧ Iv xs.length env' := by
  have := lp (dg := dg) (d := d) (xs.map (li false)) Iv env h0 fun i t env h k => by
    obtain ⟨hi, rfl⟩ := ll_get h
    obtain ⟨e', h1, h2⟩ := hs i hi env k
    exact ⟨e', .inl h1, h2⟩
  simpa using this
/-- a loop that answers at the first of these -/
theorem lp_find {dg : DG} {d : DS} (Iv : List T → Prop) (p : Int → Bool) (r : T) : ∀ (xs : List Int) (env : List T), Iv env →
    (∀ x ∈ xs, ∀ env, Iv env → ∃ e', turn dg d (I x) env = some (if p x = true then .rt r else .nx, e') ∧ Iv e') → ∃ e, Iv e ∧ dFr dg d (xs.map lfI) env = some (if xs.any p = true then .rt r else .nx, e)
  | [], env, h0, _ => ⟨env, h0, rfl⟩
  | x :: xs, env, h0, hs => by
    obtain ⟨e', h1, h2⟩ := hs x (List.mem_cons_self ..) env h0
    have h1' : turn dg d (lfI x) env = _ := h1
    rw [List.map_cons, dFr_cons, h1', Option.bind_some]
    cases hp : p x with
    | true => exact ⟨e', h2, by simp [hp, fFr_rt]⟩
    | false =>
      obtain ⟨e9, g1, g2⟩ := lp_find Iv p r xs e' h2 fun u hu => hs u (List.mem_cons_of_mem _ hu)
      exact ⟨e9, g1, by simpa [hp, fFr_nx] using g2⟩
/-! comprehensions -/
def fLc' (e : List T) (vs : List Nat) : List T × List T → Option (T × List T) := fun q => some (.nd true .lst q.1, backT e q.2 vs)
def fLc (dg : DG) (dc de : DE) (vs : List Nat) : List T × List T → Option (T × List T) := fun p => if cleanAt p.2 vs = true then (dLr dg dc de vs p.1 [] (wipeT p.2 vs)).bind (fLc' p.2 vs) else none
--ev
theorem fLc'_ev (e vs acc e2) : fLc' e vs (acc, e2) = some (.nd true .lst acc, backT e e2 vs) := rfl
--ev
theorem fLc_ev (dg dc de vs its e) : fLc dg dc de vs (its, e) = if cleanAt e vs = true then (dLr dg dc de vs its [] (wipeT e vs)).bind (fLc' e vs) else none := rfl
--ev
theorem dLc_ev (di dg dc de vs env) : dLc di dg dc de vs env = (di env).bind (fLc dg dc de vs) := by
  unfold dLc fLc; cases di env with
  | none => rfl
  | some p => simp only [Option.bind_some]; split
              · cases dLr dg dc de vs p.1 [] (wipeT p.2 vs) <;> rfl
              · rfl
--ev
theorem dLr_nil (dg dc de vs acc env) : dLr dg dc de vs [] acc env = some (acc, env) := rfl
--ev
theorem wipeT_nil (e) : wipeT e [] = e := rfl
--ev
theorem wipeT_cons (e v vs) : wipeT e (v :: vs) = (wipeT e vs).set v .no := rfl
--ev
theorem backT_nil (o e) : backT o e [] = e := rfl
--ev
theorem backT_cons (o e v vs) : backT o e (v :: vs) = backT o (e.set v (o.getD v .no)) vs := rfl
--ev
theorem cleanAt_nil (e) : cleanAt e [] = true := rfl
--ev
theorem cleanAt_cons (e v vs) : cleanAt e (v :: vs) = (decide (v < e.length) && cln (e.getD v .no) && cleanAt e vs) := by simp [cleanAt]
/-- a comprehension without a test -/
theorem lc_map {dg : DG} {de : DE} {vs : List Nat} (env : List T) (f : T → T) (its : List T) (hl : its.length ≤ 1000) (hs : ∀ t ∈ its, ∃ e e2, dg t env = some e ∧ de e = some (f t, e2) ∧ wipeT e2 vs = env) :
    dLr dg dYes de vs its [] env = some (its.map f, env) := by
  have := dLr_run (dg := dg) (dc := dYes) (de := de) (vs := vs) env (fun _ => true) f its [] (by have := small hl; simp; omega) fun t ht => by
    obtain ⟨e, e2, h1, h2, h3⟩ := hs t ht
    exact ⟨e, e, h1, rfl, fun _ => ⟨e2, h2, h3⟩, fun h => by cases h⟩
  rw [this]; congr 2; simp [List.filter_eq_self.mpr]
/-- a comprehension with a test: the items that pass, as they are -/
theorem lc_filter {dg : DG} {dc de : DE} {vs : List Nat} (env : List T) (xs : List Int) (p : Int → Bool) (hl : xs.length ≤ 1000)
    (hs : ∀ x ∈ xs, ∃ e e1, dg (I x) env = some e ∧ dc e = some (B (p x), e1) ∧ (p x = true → ∃ e2, de e1 = some (I x, e2) ∧ wipeT e2 vs = env) ∧ (p x = false → wipeT e1 vs = env)) :
    dLr dg dc de vs (xs.map lfI) [] env = some ((xs.filter p).map lfI, env) := by
  let q : T → Bool := fun t => match t with | .lf (.int o) => p o | _ => false
  have := dLr_run (dg := dg) (dc := dc) (de := de) (vs := vs) env q id (xs.map lfI) [] (by have := small hl; simp; omega) fun t ht => by
    obtain ⟨x, hx, rfl⟩ := List.mem_map.mp ht
    obtain ⟨e, e1, h1, h2, h3, h4⟩ := hs x hx
    exact ⟨e, e1, h1, h2, h3, h4⟩
  rw [this, List.map_id, List.nil_append, List.filter_map]; rfl
/-! defs -/
def fFun (keep : List Bool) : Fl × List T → Option (T × List T)
  | (.rt t, e) => some (t, outs keep e)
  | (.nx, e) => some (.lf .non, outs keep e)
  | _ => none
--ev
theorem fFun_rt (keep t e) : fFun keep (.rt t, e) = some (t, outs keep e) := rfl
--ev
theorem fFun_nx (keep e) : fFun keep (.nx, e) = some (.lf .non, outs keep e) := rfl
--ev
theorem dFun_ev (keep n d ts) : dFun keep n d ts = if ts.length = keep.length then (d (ts ++ List.replicate (n - keep.length) .no)).bind (fFun keep) else none := by
  unfold dFun; split
  · cases d (ts ++ List.replicate (n - keep.length) .no) with
    | none => rfl
    | some p => obtain ⟨r, e⟩ := p; cases r <;> rfl
  · rfl
--ev
theorem outs_cons (b bs t ts) : outs (b :: bs) (t :: ts) = (if b = true then t else .no) :: outs bs ts := rfl
--ev
theorem outs_nil (ts) : outs [] ts = [] := by cases ts <;> rfl
/-! frozen, clean, pure -/
--ev
theorem frzs_nil : frzs [] = [] := by rw [frzs]
--ev
theorem frzs_cons (t ts) : frzs (t :: ts) = frz t :: frzs ts := by rw [frzs]
theorem frz_tup2 (o a b) : frz (.nd o .tup [a, b]) = .nd false .tup [frz a, frz b] := by rw [frz, frzs, frzs, frzs]
theorem cln_dk (xs) : cln (dk false xs) = true := by rw [← frz_dk true]; exact cln_frz _
theorem cln_mks (xs) : cln (mks false xs) = true := by rw [← frz_mks true]; exact cln_frz _
theorem cln_mch (a b c) : cln (mch false a b c) = true := by rw [← frz_mch true]; exact cln_frz _
theorem cln_mk1 (m) : cln (mk1 false m) = true := by rw [← frz_mk1 true]; exact cln_frz _
theorem frz_nd (o k xs) : frz (.nd o k xs) = .nd false k (frzs xs) := by rw [frz]
theorem cln_nd (k xs) : cln (.nd false k xs) = clns xs := by rw [cln]; rfl
theorem clns_nil : clns [] = true := by rw [clns]
theorem clns_cons (t ts) : clns (t :: ts) = (cln t && clns ts) := by rw [clns]
theorem pure_nd (k xs) : pureT (.nd true k xs) = pureTs xs := by rw [pureT]; rfl
theorem pureTs_nil : pureTs [] = true := by rw [pureTs]
theorem pureTs_cons (t ts) : pureTs (t :: ts) = (pureT t && pureTs ts) := by rw [pureTs]
--ev
theorem z_frz1 (o xs) : frz (li o xs) = li false xs := frz_li o xs
--ev
theorem z_frz2 (o xs) : frz (ll o xs) = ll false xs := frz_ll o xs
--ev
theorem z_frz3 (v) : frz (.lf v) = .lf v := frz_lf v
--ev
theorem z_frz4 : frz .no = .no := frz_no
--ev
theorem z_frz5 (ns) : frz (scrT ns) = scrT ns := frz_scr ns
--ev
theorem z_frz6 (o ks) : frz (dk o ks) = dk false ks := frz_dk o ks
--ev
theorem z_frz7 (o m) : frz (mk1 o m) = mk1 false m := frz_mk1 o m
--ev
theorem z_frz8 (o ms) : frz (mks o ms) = mks false ms := frz_mks o ms
--ev
theorem z_frz9 (o a b c) : frz (mch o a b c) = mch false a b c := frz_mch o a b c
--ev
theorem z_frz10 (o a b) : frz (tp o a b) = tp false a b := frz_tp o a b
--ev
theorem z_frz11 (o k xs) : frz (.nd o k xs) = .nd false k (frzs xs) := frz_nd o k xs
--ev
theorem z_cln1 (v) : cln (.lf v) = true := cln_lf v
--ev
theorem z_cln2 : cln .no = true := cln_no
--ev
theorem z_cln3 (xs) : cln (li false xs) = true := cln_li xs
--ev
theorem z_cln4 (xs) : cln (ll false xs) = true := cln_ll xs
--ev
theorem z_cln5 (ns) : cln (scrT ns) = true := cln_scr ns
--ev
theorem z_cln6 (ks) : cln (dk false ks) = true := cln_dk ks
--ev
theorem z_cln7 (ms) : cln (mks false ms) = true := cln_mks ms
--ev
theorem z_cln8 (m) : cln (mk1 false m) = true := cln_mk1 m
--ev
theorem z_cln9 (a b c) : cln (mch false a b c) = true := cln_mch a b c
--ev
theorem z_cln10 (k xs) : cln (.nd false k xs) = clns xs := cln_nd k xs
--ev
theorem z_clns1 : clns [] = true := clns_nil
--ev
theorem z_clns2 (t ts) : clns (t :: ts) = (cln t && clns ts) := clns_cons t ts
--ev
theorem z_clns3 (xs : List Int) : clns (xs.map lfI) = true := clns_ints xs
--ev
theorem z_pure1 (v) : pureT (.lf v) = true := pure_lf v
--ev
theorem z_pure2 (xs) : pureT (li true xs) = true := pure_li xs
--ev
theorem z_pure3 (xs) : pureT (ll true xs) = true := pure_ll xs
--ev
theorem z_pure4 (ks) : pureT (dk true ks) = true := pure_dk ks
--ev
theorem z_pure5 (k xs) : pureT (.nd true k xs) = pureTs xs := pure_nd k xs
--ev
theorem z_pure6 : pureTs [] = true := pureTs_nil
--ev
theorem z_pure7 (t ts) : pureTs (t :: ts) = (pureT t && pureTs ts) := pureTs_cons t ts
/-! operators -/
--ev
theorem z_lfI (i) : lfI i = .lf (.int i) := rfl
--ev
theorem z_li (o) (xs : List Int) : (.nd o .lst (xs.map lfI) : T) = li o xs := rfl
--ev
theorem z_add (i j : Int) : oAdd (.lf (.int i)) (.lf (.int j)) = some (.lf (.int (i + j))) := rfl
--ev
theorem z_sub (i j : Int) : oSub (.lf (.int i)) (.lf (.int j)) = some (.lf (.int (i - j))) := I_sub i j
--ev
theorem z_mulr (i j : Int) (h : -1000000 < j ∧ j < 1000000) : oMul (.lf (.int i)) (.lf (.int j)) = some (.lf (.int (i * j))) := I_mul ⟨by omega, by omega⟩
--ev
theorem z_mod (i j : Int) (h : 0 < j) : oMod (.lf (.int i)) (.lf (.int j)) = some (.lf (.int (i % j))) := I_mod h
--ev
theorem z_div (i j : Int) (h : 0 < j ∧ j < 1073741824) : oDiv (.lf (.int i)) (.lf (.int j)) = some (.lf (.int (i / j))) := I_div h
--ev
theorem z_lt (i j : Int) : oLt (.lf (.int i)) (.lf (.int j)) = some (.lf (.bl (decide (i < j)))) := I_lt i j
--ev
theorem z_le (i j : Int) : oLe (.lf (.int i)) (.lf (.int j)) = some (.lf (.bl (decide (i ≤ j)))) := by simp [oLe, oI]
--ev
theorem z_gt (i j : Int) : oGt (.lf (.int i)) (.lf (.int j)) = some (.lf (.bl (decide (j < i)))) := I_gt i j
--ev
theorem z_ge (i j : Int) : oGe (.lf (.int i)) (.lf (.int j)) = some (.lf (.bl (decide (j ≤ i)))) := I_ge i j
--ev
theorem z_eq (i j : Int) : oEq (.lf (.int i)) (.lf (.int j)) = some (.lf (.bl (decide (i = j)))) := oEq_int i j
--ev
theorem z_ne (i j : Int) : oNe (.lf (.int i)) (.lf (.int j)) = some (.lf (.bl (!decide (i = j)))) := oNe_int i j
--ev
theorem z_neg (i : Int) : oNeg (.lf (.int i)) = some (.lf (.int (-i))) := I_neg i
--ev
theorem z_eqli (o o' : Bool) (xs ys : List Int) : oEq (li o xs) (li o' ys) = some (.lf (.bl (decide (xs = ys)))) := oEq_li o o' xs ys
--ev
theorem z_neli (o o' : Bool) (xs ys : List Int) : oNe (li o xs) (li o' ys) = some (.lf (.bl (!decide (xs = ys)))) := oNe_li o o' xs ys
--ev
theorem z_eqnil (o o' : Bool) (xs : List Int) : oEq (li o xs) (.nd o' .lst []) = some (.lf (.bl (decide (xs = [])))) := oEq_li o o' xs []
--ev
theorem z_nenil (o o' : Bool) (xs : List Int) : oNe (li o xs) (.nd o' .lst []) = some (.lf (.bl (!decide (xs = [])))) := oNe_li o o' xs []
--ev
theorem z_inli (x o xs) : oIn (.lf (.int x)) (li o xs) = some (.lf (.bl (decide (x ∈ xs)))) := oIn_li x o xs
--ev
theorem z_ninli (x o xs) : oNotIn (.lf (.int x)) (li o xs) = some (.lf (.bl (!decide (x ∈ xs)))) := oNotIn_li x o xs
--ev
theorem z_indk (o xs x) : oIn (.lf (.int x)) (dk o (kI xs)) = some (.lf (.bl (decide (x ∈ xs)))) := dkI_in o xs x
--ev
theorem z_nindk (o xs x) : oNotIn (.lf (.int x)) (dk o (kI xs)) = some (.lf (.bl (!decide (x ∈ xs)))) := by
  have := dkI_in o xs x
  unfold oIn at this
  obtain ⟨b, e1, e2⟩ := Option.map_eq_some_iff.mp this
  unfold oNotIn
  rw [e1]
  cases e2
  rfl
--ev
theorem z_ll (o) (xs : List (List Int)) : (.nd o .lst (xs.map (li o)) : T) = ll o xs := rfl
--ev
theorem z_mks (o) (xs : List (Str × List Int)) : (.nd o .lst (xs.map (mk1 o)) : T) = mks o xs := rfl
--ev
theorem z_nil (o : Bool) : (.nd o .lst [] : T) = li o [] := rfl
--ev
theorem z_appll (x : List Int) : mAppend (li true []) [li true x] = some (.lf .non, ll true [x]) := ap_ll [] x (by simp)
--ev
theorem z_int1 (i : Int) : oInt (.lf (.int i)) = some (.lf (.int i)) := rfl
--ev
theorem z_int2 (b : Bool) : oInt (.lf (.bl b)) = some (.lf (.int (if b = true then 1 else 0))) := rfl
--ev
theorem z_len1 (o xs) : oLen (li o xs) = some (.lf (.int xs.length)) := oLen_li o xs
--ev
theorem z_len2 (o xs) : oLen (ll o xs) = some (.lf (.int xs.length)) := oLen_ll o xs
--ev
theorem z_len3 (ns) : oLen (scrT ns) = some (.lf (.int ns.length)) := oLen_scr ns
--ev
theorem z_len4 (o ks) : oLen (dk o ks) = some (.lf (.int ks.length)) := dk_len o ks
--ev
theorem z_len5 (o ms) : oLen (mks o ms) = some (.lf (.int ms.length)) := by unfold mks oLen; simp
--ev
theorem z_len6 (o) (xs : List T) : oLen (.nd o .lst xs) = some (.lf (.int xs.length)) := rfl
--ev
theorem z_len7 (o) (xs : List T) : oLen (.nd o .tup xs) = some (.lf (.int xs.length)) := rfl
--ev
theorem z_not (b) : oNot (.lf (.bl b)) = some (.lf (.bl (!b))) := rfl
--ev
theorem z_isi1 (x) : oIsi "int" (.lf (.int x)) = some (.lf (.bl true)) := isi_int x
--ev
theorem z_isi2 (x) : oIsi "bool" (.lf (.int x)) = some (.lf (.bl false)) := isi_bool x
--ev
theorem z_isi3 (o ts) : oIsi "list" (.nd o .lst ts) = some (.lf (.bl true)) := isi_list o ts
--ev
theorem z_isi4 (o ts) : oIsi "list" (li o ts) = some (.lf (.bl true)) := isi_list o _
--ev
theorem z_isi5 (o ts) : oIsi "list" (ll o ts) = some (.lf (.bl true)) := isi_list o _
--ev
theorem z_isi6 (o ts) : oIsi "tuple" (.nd o .tup ts) = some (.lf (.bl true)) := by simp [oIsi, tyN, isiB]
--ev
theorem z_list1 (o xs) : oList (li o xs) = some (li true xs) := oList_li o xs
--ev
theorem z_sort1 (o xs) : oSorted (li o xs) = some (li true (isort xs)) := oSorted_li o xs
theorem oSortedDk (o : Bool) (K : List Int) (h : K.length < 64) : oSorted (dk o (kI K)) = some (li true (isort K)) := by
  have e : intsOf ((kI K).map fun k => T.lf (kV k)) = some K := by
    have : ((kI K).map fun k => T.lf (kV k)) = K.map lfI := by rw [List.map_map]; rfl
    rw [this, intsOf_li]
  show (intsOf ((kI K).map fun k => T.lf (kV k))).bind _ = _
  rw [e]
  simp only [Option.bind_some, h, if_true]
  rfl
--ev
theorem z_sort2 (o K) (h : K.length < 64) : oSorted (dk o (kI K)) = some (li true (isort K)) := oSortedDk o K h
--ev
theorem z_app1 (xs x) (h : xs.length ≤ 1000) : mAppend (li true xs) [.lf (.int x)] = some (.lf .non, li true (xs ++ [x])) := ap_li xs x h
--ev
theorem z_app2 (xs x) (h : xs.length ≤ 1000) : mAppend (ll true xs) [li true x] = some (.lf .non, ll true (xs ++ [x])) := ap_ll xs x h
--ev
theorem z_pop1 (L x) : mPop (li true (L ++ [x])) [] = some (.lf (.int x), li true L) := by
  unfold li mPop
  rw [List.map_append, List.map_cons, List.map_nil]
  simp [lfI]
--ev
theorem z_clr1 (xs) : mClear (li true xs) [] = some (.lf .non, li true []) := rfl
--ev
theorem z_clr2 (xs) : mClear (ll true xs) [] = some (.lf .non, ll true []) := rfl
--ev
theorem z_rev1 (xs : List Int) : mReverse (li true xs) [] = some (.lf .non, li true xs.reverse) := by
  show some (_, T.nd true .lst (xs.map lfI).reverse) = _
  rw [← List.map_reverse]; rfl
--ev
theorem z_ext1 (xs ys : List Int) (o) (h : xs.length + ys.length ≤ 1000) : mExtend (li true xs) [li o ys] = some (.lf .non, li true (xs ++ ys)) := by
  have := small h
  show (if (xs.map lfI).length + (ys.map lfI).length ≤ sizeLine then some (T.lf .non, T.nd true .lst (xs.map lfI ++ ys.map lfI)) else none) = _
  rw [if_pos (by simp; omega), ← List.map_append]; rfl
--ev
theorem z_cat1 (o o' : Bool) (xs ys : List Int) (h : xs.length + ys.length ≤ 1000) : oCat (li o xs) (li o' ys) = some (li true (xs ++ ys)) := by
  have := small h
  show (if clns (xs.map lfI) = true ∧ clns (ys.map lfI) = true ∧ (xs.map lfI).length + (ys.map lfI).length ≤ sizeLine then some (T.nd true .lst (xs.map lfI ++ ys.map lfI)) else none) = _
  rw [if_pos ⟨clns_ints _, clns_ints _, by simp; omega⟩, ← List.map_append]; rfl
--ev
theorem z_it1 (o xs) : itemsL (li o xs) = some (xs.map lfI) := items_li o xs
--ev
theorem z_it2 (o xs) : itemsL (ll o xs) = some (xs.map (li false)) := items_ll o xs
--ev
theorem z_it3 (o ms) : itemsL (mks o ms) = some (ms.map (mk1 false)) := items_mks o ms
--ev
theorem z_it4 (o) (xs : List T) : itemsL (.nd o .lst xs) = some (frzs xs) := rfl
--ev
theorem z_ty1 (o) (xs : List T) : isTy "list" (.nd o .lst xs) = true := rfl
--ev
theorem z_ty2 (o xs) : isTy "list" (li o xs) = true := rfl
--ev
theorem z_ty3 (o xs) : isTy "list" (ll o xs) = true := rfl
--ev
theorem z_ty4 (o xs) : isTy "list" (mks o xs) = true := rfl
--ev
theorem z_fst (o rs ms fs) : oFld "Machine" "steps" (mch o rs ms fs) = some (ll o rs) := fld_steps o rs ms fs
--ev
theorem z_fma (o rs ms fs) : oFld "Machine" "marks" (mch o rs ms fs) = some (mks o ms) := fld_marks o rs ms fs
--ev
theorem z_ffa (o rs ms fs) : oFld "Machine" "fair" (mch o rs ms fs) = some (ll o fs) := fld_fair o rs ms fs
--ev
theorem z_ins1 (o rs ms fs) : isIns "Machine" "next_of" (mch o rs ms fs) = true := isIns_mch o rs ms fs nbn
--ev
theorem z_ins2 (o rs ms fs) : isIns "Machine" "many" (mch o rs ms fs) = true := isIns_mch o rs ms fs (by decide +kernel)
--ev
theorem z_ins3 (o rs ms fs) : isIns "Machine" "fair_at" (mch o rs ms fs) = true := isIns_mch o rs ms fs (by decide +kernel)
--ev
theorem z_ins4 (o rs ms fs) : isIns "Machine" "marked" (mch o rs ms fs) = true := isIns_mch o rs ms fs (by decide +kernel)
--ev
theorem z_ins5 (o rs ms fs) : isIns "Machine" "before" (mch o rs ms fs) = true := isIns_mch o rs ms fs (by decide +kernel)
/-- indexing: by a number that is known to be within -/
--ev
theorem z_ixli (o) (xs : List Int) (i : Int) (h0 : 0 ≤ i) (h : i.toNat < xs.length) : oIx (li o xs) (.lf (.int i)) = some (.lf (.int (xs.getD i.toNat 0))) := by
  rw [oIx_li o xs i h0 h]; simp [h]
--ev
theorem z_ixll (o) (xs : List (List Int)) (i : Int) (h0 : 0 ≤ i) (h : i.toNat < xs.length) : oIx (ll o xs) (.lf (.int i)) = some (li o (xs.getD i.toNat [])) := by
  rw [oIx_ll o xs i h0 h]; simp [h]
--ev
theorem z_ixlast (o) (xs : List Int) (h : xs ≠ []) : oIx (li o xs) (.lf (.int (-1))) = some (.lf (.int (xs.getD (xs.length - 1) 0))) := by
  have hl : 0 < xs.length := List.length_pos_iff.mpr h
  show L2.atI (xs.map lfI) (-1) = _
  unfold L2.atI ixN
  rw [if_neg (by omega), if_pos (by simp; omega)]
  have : ((-1 + ((xs.map lfI).length : Nat) : Int)).toNat = xs.length - 1 := by simp; omega
  have h2 : ((((xs.map lfI).length : Nat) : Int) + -1).toNat = xs.length - 1 := by simp; omega
  simp only [Option.bind_some]
  have h3 : xs[xs.length - 1]? = some (xs[xs.length - 1]'(by omega)) := List.getElem?_eq_getElem _
  first
    | rw [this]; simp [lfI, h3]
    | rw [h2]; simp [lfI, h3]
--ev
theorem z_setdk (xs x) (nd : xs.Nodup) (h : x ∉ xs) (hl : xs.length < 1000) : mSetD (.int x) (dk true (kI xs)) [.lf (.bl true)] = some (.lf .non, dk true (kI (xs ++ [x]))) := dkI_put xs x nd h (small (by omega))
def fDic1' (env : List T) (k : V) : T → Option (T × List T)
  | .lf w => (keyOf k).map fun kk => (.nd true (.dK [kk]) [.lf w], env)
  | _ => none
def fDic1 (dv : DV) (env : List T) : T → Option (T × List T)
  | .lf k => (dv env).bind (fDic1' env k)
  | _ => none
--ev
theorem fDic1_ev (dv env k) : fDic1 dv env (.lf k) = (dv env).bind (fDic1' env k) := rfl
--ev
theorem fDic1'_ev (env) (k : Int) : fDic1' env (.int k) (.lf (.bl true)) = some (dk true (kI [k]), env) := rfl
--ev
theorem dDic1_ev (dk dv env) : dDic1 dk dv env = (dk env).bind (fDic1 dv env) := by
  unfold dDic1
  cases h1 : dk env with
  | none => rfl
  | some x => cases x with
    | lf k =>
      show _ = (dv env).bind (fDic1' env k)
      cases h2 : dv env with
      | none => rfl
      | some y => cases y <;> rfl
    | no => rfl
    | nd _ _ _ => rfl
def fLRg : T × List T → Option (T × List T)
  | (.lf (.int j), e) => if -(2 ^ 62) ≤ j ∧ j ≤ 2 ^ 24 then some (.nd true .lst (rngT j.toNat), e) else none
  | _ => none
def rgI (n : Nat) : List Int := (List.range n).map fun (k : Nat) => (k : Int)
theorem rgI_len (n) : (rgI n).length = n := by simp [rgI]
theorem rgI_asc (n) : Asc n (rgI n) := ⟨List.pairwise_map.mpr (List.pairwise_lt_range.imp fun h => by omega), fun x h => by
  obtain ⟨k, h2, rfl⟩ := List.mem_map.mp h
  have := List.mem_range.mp h2
  omega⟩
theorem asc_up {n : Nat} {xs : List Int} (h : Asc n xs) : Asc (n + 1) xs := ⟨h.lt, fun x hx => by have := h.bd x hx; omega⟩
theorem asc_snoc {n : Nat} {xs : List Int} (h : Asc n xs) : Asc (n + 1) (xs ++ [(n : Int)]) := by
  have one : ∀ b : Int, b ∈ [(n : Int)] → b = (n : Int) := fun b hb => by simpa using hb
  constructor
  · rw [List.pairwise_append]
    refine ⟨h.lt, List.pairwise_singleton _ _, fun a ha b hb => ?_⟩
    have h1 := h.bd a ha
    have h2 := one b hb
    omega
  · intro x hx
    rcases List.mem_append.mp hx with hx | hx
    · have := h.bd x hx; omega
    · have := one x hx; omega
theorem asc_one {n : Nat} {x : Int} (h : 0 ≤ x ∧ x < n) : Asc n [x] := by
  refine ⟨List.pairwise_singleton _ _, fun y hy => ?_⟩
  have : y = x := by simpa using hy
  omega
theorem mem_rgI {n : Nat} {x : Int} : x ∈ rgI n ↔ 0 ≤ x ∧ x < n := ⟨(rgI_asc n).bd x, fun h => List.mem_map.mpr ⟨x.toNat, List.mem_range.mpr (by omega), by omega⟩⟩
theorem rngT_rgI (n) : rngT n = (rgI n).map lfI := rng_map n
--ev
theorem fLRg_nat (n : Nat) (e) (h : n ≤ 1000) : fLRg (.lf (.int (n : Int)), e) = some (li true (rgI n), e) := by
  show (if -(2 ^ 62) ≤ (n : Int) ∧ (n : Int) ≤ 2 ^ 24 then some (T.nd true .lst (rngT (n : Int).toNat), e) else none) = _
  rw [if_pos (by omega)]; simp only [Int.toNat_natCast]; rw [rngT_rgI]; rfl
--ev
theorem dLRg_ev (d env) : dLRg d env = (d env).bind fLRg := by
  unfold dLRg; split <;> rename_i h
  · rw [h]; rfl
  · cases hd : d env with
    | none => rfl
    | some p =>
      obtain ⟨t, e⟩ := p; rw [Option.bind_some]; unfold fLRg; split
      · rename_i hp; cases hp; exact (h _ _ hd).elim
      · rfl
--ev
theorem z_len8 (n) : (rngT n).length = n := by simp [rngT]
--ev
theorem z_bind_some {α β : Type} (a : α) (f : α → Option β) : (some a).bind f = f a := rfl
--ev
theorem z_get0 {α : Type} (a : α) (l : List α) : (a :: l)[0]? = some a := rfl
--ev
theorem z_gets {α : Type} (a : α) (l : List α) (i : Nat) : (a :: l)[i + 1]? = l[i]? := rfl
--ev
theorem z_getD0 {α : Type} (a d : α) (l : List α) : (a :: l).getD 0 d = a := rfl
--ev
theorem z_getDs {α : Type} (a d : α) (l : List α) (i : Nat) : (a :: l).getD (i + 1) d = l.getD i d := rfl
--ev
theorem z_set0 {α : Type} (a b : α) (l : List α) : (a :: l).set 0 b = b :: l := rfl
--ev
theorem z_sets {α : Type} (a b : α) (l : List α) (i : Nat) : (a :: l).set (i + 1) b = a :: l.set i b := rfl
--ev
theorem z_app {α : Type} (a : α) (l m : List α) : (a :: l) ++ m = a :: (l ++ m) := rfl
--ev
theorem z_nil_app {α : Type} (m : List α) : ([] : List α) ++ m = m := rfl
--ev
theorem z_app_nil {α : Type} (m : List α) : m ++ [] = m := List.append_nil m
--ev
theorem z_map0 {α β : Type} (f : α → β) : [].map f = [] := rfl
--ev
theorem z_mapc (v : V) (l : List V) : (v :: l).map T.lf = T.lf v :: l.map T.lf := rfl
--ev
theorem z_rep0 : List.replicate 0 T.no = [] := rfl
--ev
theorem z_reps (n) : List.replicate (n + 1) T.no = T.no :: List.replicate n T.no := rfl
--ev
theorem z_lenc {α : Type} (a : α) (l : List α) : (a :: l).length = l.length + 1 := rfl
--ev
theorem z_lenn {α : Type} : ([] : List α).length = 0 := rfl
end Tr


set_option Elab.async false
set_option linter.all false
set_option maxRecDepth 100000
set_option maxHeartbeats 4000000
/-! EV2: more things: lists by a function of the place (ranks, Nones), dicts of lists; a loop that answers at the first of these. -/
namespace Tr
open PySem PySem.Spec PyProof.Rows L2 Pm

--ev
theorem z_c0 : ((0 : Nat) : Int) = 0 := rfl
--ev
theorem z_c1 : ((1 : Nat) : Int) = 1 := rfl
--ev
theorem z_c2 : ((2 : Nat) : Int) = 2 := rfl
--ev
theorem z_c3 : ((3 : Nat) : Int) = 3 := rfl
def oV : Option Int → T
  | some i => I i
  | none => N
theorem frz_oV (x : Option Int) : frz (oV x) = oV x := by cases x <;> exact frz_lf _
theorem cln_oV (x : Option Int) : cln (oV x) = true := by cases x <;> exact cln_lf _
theorem pure_oV (x : Option Int) : pureT (oV x) = true := by cases x <;> exact pure_lf _
theorem okT_oV (x) : okT (oV x) = some (oV x) := by cases x <;> rfl
/-- a rank, or None -/
def rkT : Option (Int × Option Int) → T
  | none => N
  | some r => .nd false .tup [I r.1, oV r.2]
theorem frz_rk (x) : frz (rkT x) = rkT x := by cases x with
  | none => exact frz_lf _
  | some r => unfold rkT; rw [frz_nd, frzs, frzs, frzs, frz_lf, frz_oV]
theorem cln_rk (x) : cln (rkT x) = true := by rw [← frz_rk]; exact cln_frz _
theorem okT_rk (x) : okT (rkT x) = some (rkT x) := by cases x <;> rfl
/-- a list with a thing for each of n -/
def tl (o : Bool) (n : Nat) (f : Int → T) : T := .nd o .lst ((rgI n).map f)
def rl (o : Bool) (n : Nat) (F : Int → Option (Int × Option Int)) : T := tl o n fun x => rkT (F x)
theorem rgI_get {n : Nat} {i : Nat} (h : i < n) : (rgI n)[i]? = some (i : Int) := by simp [rgI, h]
theorem ix_tl (o n f i) (h0 : 0 ≤ i) (h : i.toNat < n) : oIx (tl o n f) (.lf (.int i)) = some (f i) := by
  show L2.atI ((rgI n).map f) i = _
  rw [atI_of h0 (by simpa [rgI_len] using h), List.getElem?_map, rgI_get h]
  simp [show ((i.toNat : Nat) : Int) = i by omega]
theorem set_tl (n f i t) (h0 : 0 ≤ i) (h : i.toNat < n) : mSetL (.int i) (tl true n f) [t] = some (.lf .non, tl true n fun y => if y = i then t else f y) := by
  have e : ixN ((rgI n).map f).length i = some i.toNat := by
    unfold ixN
    rw [if_pos h0, if_pos (by simp [rgI_len]; omega)]
  show (ixN ((rgI n).map f).length i).map _ = _
  rw [e]
  simp only [Option.map_some, tl]
  congr 3
  refine List.ext_getElem (by simp) fun j h1 h2 => ?_
  rw [List.getElem_set]
  simp only [List.getElem_map]
  have hj : (rgI n)[j]'(by simpa using h2) = (j : Int) := by
    have := rgI_get (n := n) (i := j) (by simpa [rgI_len] using h2)
    rw [List.getElem?_eq_getElem (by simpa using h2)] at this
    exact Option.some.inj this
  rw [hj]
  by_cases hi : i.toNat = j
  · rw [if_pos hi, if_pos (by omega)]
  · rw [if_neg hi, if_neg (by omega)]
theorem frz_tl (o n f) : frz (tl o n f) = tl false n fun x => frz (f x) := by
  unfold tl; rw [frz_nd, frzs_map, List.map_map]; rfl
theorem len_tl (o n f) : oLen (tl o n f) = some (.lf (.int n)) := by
  show some (I ((rgI n).map f).length) = _; rw [List.length_map, rgI_len]
theorem it_tl (o n f) : itemsL (tl o n f) = some ((rgI n).map fun x => frz (f x)) := by
  show some (frzs ((rgI n).map f)) = _; rw [frzs_map, List.map_map]; rfl
--ev
theorem z_okoV (x) : okT (oV x) = some (oV x) := okT_oV x
--ev
theorem z_okrk (x) : okT (rkT x) = some (rkT x) := okT_rk x
--ev
theorem z_okrl (o n F) : okT (rl o n F) = some (rl o n F) := rfl
--ev
theorem z_frzoV (x) : frz (oV x) = oV x := frz_oV x
--ev
theorem z_clnoV (x) : cln (oV x) = true := cln_oV x
--ev
theorem z_pureoV (x) : pureT (oV x) = true := pure_oV x
--ev
theorem z_frzrk (x) : frz (rkT x) = rkT x := frz_rk x
--ev
theorem z_clnrk (x) : cln (rkT x) = true := cln_rk x
theorem frz_rl (o n F) : frz (rl o n F) = rl false n F := by
  unfold rl; rw [frz_tl]; simp only [frz_rk]
--ev
theorem z_frzrl (o n F) : frz (rl o n F) = rl false n F := frz_rl o n F
--ev
theorem z_clnrl (n F) : cln (rl false n F) = true := by rw [← frz_rl true]; exact cln_frz _
--ev
theorem z_ixrl (o n F i) (h0 : 0 ≤ i) (h : i.toNat < n) : oIx (rl o n F) (.lf (.int i)) = some (rkT (F i)) := ix_tl o n _ i h0 h
--ev
theorem z_lenrl (o n F) : oLen (rl o n F) = some (.lf (.int n)) := len_tl o n _
--ev
theorem z_isirl (o n F) : oIsi "list" (rl o n F) = some (.lf (.bl true)) := isi_list o _
--ev
theorem z_tyrl (o n F) : isTy "list" (rl o n F) = true := rfl
--ev
theorem z_clrrl (n F) : mClear (rl true n F) [] = some (.lf .non, li true []) := rfl
--ev
theorem z_oVs (i) : oV (some i) = .lf (.int i) := rfl
--ev
theorem z_oVn : oV none = .lf .non := rfl
--ev
theorem z_rks (d m) : rkT (some (d, m)) = .nd false .tup [.lf (.int d), oV m] := rfl
--ev
theorem z_rkn : rkT none = .lf .non := rfl
--ev
theorem z_ixt0 (o a xs) : oIx (.nd o .tup (a :: xs)) (.lf (.int 0)) = some a := by
  show L2.atI (a :: xs) 0 = _; rw [atI_of (by omega) (by simp)]; rfl
--ev
theorem z_ixt1 (o a b xs) : oIx (.nd o .tup (a :: b :: xs)) (.lf (.int 1)) = some b := by
  show L2.atI (a :: b :: xs) 1 = _; rw [atI_of (by omega) (by simp)]; rfl
--ev
theorem z_isN1 : oIsN (.lf .non) (.lf .non) = some (.lf (.bl true)) := rfl
--ev
theorem z_isN2 (i) : oIsN (.lf (.int i)) (.lf .non) = some (.lf (.bl false)) := rfl
--ev
theorem z_isN3 (o k xs) : oIsN (.nd o k xs) (.lf .non) = some (.lf (.bl false)) := rfl
--ev
theorem z_notN1 : oNotN (.lf .non) (.lf .non) = some (.lf (.bl false)) := rfl
--ev
theorem z_notN2 (i) : oNotN (.lf (.int i)) (.lf .non) = some (.lf (.bl true)) := rfl
--ev
theorem z_notN3 (o k xs) : oNotN (.nd o k xs) (.lf .non) = some (.lf (.bl true)) := rfl
--ev
theorem z_isN4 (x) : oIsN (rkT x) (.lf .non) = some (.lf (.bl x.isNone)) := by cases x <;> rfl
--ev
theorem z_notN4 (x) : oNotN (rkT x) (.lf .non) = some (.lf (.bl x.isSome)) := by cases x <;> rfl
--ev
theorem z_isN5 (x) : oIsN (oV x) (.lf .non) = some (.lf (.bl x.isNone)) := by cases x <;> rfl
--ev
theorem z_notN5 (x) : oNotN (oV x) (.lf .non) = some (.lf (.bl x.isSome)) := by cases x <;> rfl
def fCh3 (o2 : T → T → Option T) (vc : DV) (env : List T) (y : T) : T → Option T
  | .lf (.bl true) => (vc env).bind (o2 y)
  | .lf (.bl false) => some (.lf (.bl false))
  | _ => none
--ev
theorem fCh3_ev (o2 vc env y b) : fCh3 o2 vc env y (.lf (.bl b)) = if b = true then (vc env).bind (o2 y) else some (.lf (.bl false)) := by cases b <;> rfl
def fCh2 (o1 o2 : T → T → Option T) (vc : DV) (env : List T) (x y : T) : Option T := (o1 x y).bind (fCh3 o2 vc env y)
--ev
theorem fCh2_ev (o1 o2 vc env x y) : fCh2 o1 o2 vc env x y = (o1 x y).bind (fCh3 o2 vc env y) := rfl
def fCh1 (o1 o2 : T → T → Option T) (vb vc : DV) (env : List T) (x : T) : Option T := (vb env).bind (fCh2 o1 o2 vc env x)
--ev
theorem fCh1_ev (o1 o2 vb vc env x) : fCh1 o1 o2 vb vc env x = (vb env).bind (fCh2 o1 o2 vc env x) := rfl
--ev
theorem z_ch (o1 o2 : T → T → Option T) (va vb vc : DV) (env) : oCh o1 o2 va vb vc env = (va env).bind (fCh1 o1 o2 vb vc env) := by
  unfold oCh fCh1 fCh2
  cases va env with
  | none => rfl
  | some x =>
    simp only [Option.bind_some]
    cases vb env with
    | none => rfl
    | some y =>
      simp only [Option.bind_some]
      split <;> rename_i h
      · rw [h]; rfl
      · rw [h]; rfl
      · cases hd : o1 x y with
        | none => rfl
        | some z => rw [Option.bind_some]; unfold fCh3; split <;> simp_all
/-! ### dicts of lists -/
def dls (o : Bool) (ks : List Int) (F : Int → List Int) : T := .nd o (.dK (kI ks)) (ks.map fun s => li o (F s))
--ev
theorem z_okdls (o ks F) : okT (dls o ks F) = some (dls o ks F) := rfl
theorem frz_dls (o ks F) : frz (dls o ks F) = dls false ks F := by
  unfold dls; rw [frz_nd, frzs_map, List.map_map]; congr 1; exact List.map_congr_left fun x _ => frz_li o _
--ev
theorem z_frzdls (o ks F) : frz (dls o ks F) = dls false ks F := frz_dls o ks F
--ev
theorem z_clndls (ks F) : cln (dls false ks F) = true := by rw [← frz_dls true]; exact cln_frz _
theorem getK_kI (f : Int → T) : ∀ (ks : List Int) (x : Int), x ∈ ks → getK (kI ks) (ks.map f) (Sum.inl x) = some (f x)
  | [], _, h => by cases h
  | k :: ks, x, h => by
    rw [List.map_cons]
    show (if (Sum.inl k : Key) = Sum.inl x then some (f k) else getK (kI ks) (ks.map f) (Sum.inl x)) = _
    by_cases e : k = x
    · subst e; rw [if_pos rfl]
    · rw [if_neg fun z => e (Sum.inl.inj z)]
      exact getK_kI f ks x ((List.mem_cons.mp h).resolve_left fun z => e z.symm)
--ev
theorem z_ixdls (o ks F x) (h : x ∈ ks) : oIx (dls o ks F) (.lf (.int x)) = some (li o (F x)) := getK_kI _ ks x h
--ev
theorem z_indls (o ks F x) : oIn (.lf (.int x)) (dls o ks F) = some (.lf (.bl (decide (x ∈ ks)))) := by
  have := dkI_in o ks x
  exact this
theorem set_dls (ks F x) (nd : ks.Nodup) (h : x ∉ ks) (hl : ks.length ≤ 1000) : mSetD (.int x) (dls true ks F) [li true (F x)] = some (.lf .non, dls true (ks ++ [x]) F) := by
  have := small hl
  unfold dls mSetD
  simp only [keyOf, Option.bind_some, List.length_map, this, nodupK_iff (kI_nd nd), and_self, if_true]
  rw [putKT_last (kI ks) _ (fun e => h (kI_mem.mp e)) (by simp)]
  simp
/-! ### dicts of dicts of keys -/
def dds (o : Bool) (ks : List Int) (F : Int → List Int) : T := .nd o (.dK (kI ks)) (ks.map fun s => dk o (kI (F s)))
--ev
theorem z_okdds (o ks F) : okT (dds o ks F) = some (dds o ks F) := rfl
theorem frz_dds (o ks F) : frz (dds o ks F) = dds false ks F := by
  unfold dds; rw [frz_nd, frzs_map, List.map_map]; congr 1; exact List.map_congr_left fun x _ => frz_dk o _
--ev
theorem z_frzdds (o ks F) : frz (dds o ks F) = dds false ks F := frz_dds o ks F
--ev
theorem z_clndds (ks F) : cln (dds false ks F) = true := by rw [← frz_dds true]; exact cln_frz _
--ev
theorem z_ixdds (o ks F x) (h : x ∈ ks) : oIx (dds o ks F) (.lf (.int x)) = some (dk o (kI (F x))) := getK_kI _ ks x h
theorem set_dds (ks F x) (nd : ks.Nodup) (h : x ∉ ks) (hl : ks.length ≤ 1000) : mSetD (.int x) (dds true ks F) [dk true (kI (F x))] = some (.lf .non, dds true (ks ++ [x]) F) := by
  have := small hl
  unfold dds mSetD
  simp only [keyOf, Option.bind_some, List.length_map, this, nodupK_iff (kI_nd nd), and_self, if_true]
  rw [putKT_last (kI ks) _ (fun e => h (kI_mem.mp e)) (by simp)]
  simp
/-! ### a value into a target -/
def fAsg' (e : List T) : Option (Fl × List T) := some (.nx, e)
--ev
theorem fAsg'_ev (e) : fAsg' e = some (.nx, e) := rfl
def fAsg (dg : DG) : T × List T → Option (Fl × List T) := fun p => (dg p.1 p.2).bind fAsg'
--ev
theorem fAsg_ev (dg t e) : fAsg dg (t, e) = (dg t e).bind fAsg' := rfl
--ev
theorem dAsg_ev (d dg env) : dAsg d dg env = (d env).bind (fAsg dg) := by
  unfold dAsg fAsg
  cases d env with
  | none => rfl
  | some p => simp only [Option.bind_some]; cases dg p.1 p.2 <;> rfl
/-! ### a loop that answers -/
theorem lp_findT {α : Type} {dg : DG} {d : DS} (Iv : List T → Prop) (p : α → Bool) (r : T) (c : α → T) : ∀ (xs : List α) (env : List T), Iv env →
    (∀ x ∈ xs, ∀ env, Iv env → ∃ e', turn dg d (c x) env = some (if p x = true then .rt r else .nx, e') ∧ Iv e') → ∃ e, Iv e ∧ dFr dg d (xs.map c) env = some (if xs.any p = true then .rt r else .nx, e)
  | [], env, h0, _ => ⟨env, h0, rfl⟩
  | x :: xs, env, h0, hs => by
    obtain ⟨e', h1, h2⟩ := hs x (List.mem_cons_self ..) env h0
    rw [List.map_cons, dFr_cons, h1, Option.bind_some]
    cases hp : p x with
    | true => exact ⟨e', h2, by simp [hp, fFr_rt]⟩
    | false =>
      obtain ⟨e9, g1, g2⟩ := lp_findT Iv p r c xs e' h2 fun u hu => hs u (List.mem_cons_of_mem _ hu)
      exact ⟨e9, g1, by simpa [hp, fFr_nx] using g2⟩
theorem take_filter {α : Type} (p : α → Bool) (xs : List α) (i : Nat) (h : i < xs.length) : (xs.take (i + 1)).filter p = (xs.take i).filter p ++ if p xs[i] = true then [xs[i]] else [] := by
  rw [List.take_succ_eq_append_getElem h, List.filter_append]
  congr 1
  by_cases hp : p xs[i] = true <;> simp [hp]

def flF (r : Int → T) : Option Int → Fl
  | some x => .rt (r x)
  | none => .nx
theorem lp_first {dg : DG} {d : DS} (Iv : List T → Prop) (p : Int → Bool) (r : Int → T) : ∀ (xs : List Int) (env : List T), Iv env →
    (∀ x ∈ xs, ∀ env, Iv env → ∃ e', turn dg d (I x) env = some (if p x = true then .rt (r x) else .nx, e') ∧ Iv e') → ∃ e, Iv e ∧ dFr dg d (xs.map lfI) env = some (flF r (xs.find? p), e)
  | [], env, h0, _ => ⟨env, h0, rfl⟩
  | x :: xs, env, h0, hs => by
    obtain ⟨e', h1, h2⟩ := hs x (List.mem_cons_self ..) env h0
    have h1' : turn dg d (lfI x) env = _ := h1
    rw [List.map_cons, dFr_cons, h1', Option.bind_some]
    cases hp : p x with
    | true => exact ⟨e', h2, by simp [hp, fFr_rt, flF]⟩
    | false =>
      obtain ⟨e9, g1, g2⟩ := lp_first Iv p r xs e' h2 fun u hu => hs u (List.mem_cons_of_mem _ hu)
      exact ⟨e9, g1, by simpa [hp, fFr_nx] using g2⟩
/-! ### all frozen meanwhile -/
--ev
theorem fBwS_ev (env w e) : fBwS env (.lf w, e) = some (.lf w, env) := rfl
--ev
theorem bwS_ev (d env) : bwS d env = (d (frzs env)).bind (fBwS env) := rfl
/-! ### slices -/
def fPt : T → Option (Option Int)
  | .lf (.int i) => some (some i)
  | _ => none
--ev
theorem fPt_ev (i) : fPt (.lf (.int i)) = some (some i) := rfl
--ev
theorem ptT_no (e) : ptT none e = some none := rfl
--ev
theorem ptT_so (v e) : ptT (some v) e = (v e).bind fPt := by
  show (match v e with | some (.lf (.int i)) => some (some i) | _ => none) = _
  cases v e with
  | none => rfl
  | some t => cases t with
    | lf w => cases w <;> rfl
    | _ => rfl
def fSl2 (o : Option Int → Option Int → T → Option T) (t : T) (e : List T) (l u : Option Int) : Option (T × List T) := (o l u t).bind (fP e)
--ev
theorem fSl2_ev (o t e l u) : fSl2 o t e l u = (o l u t).bind (fP e) := rfl
def fSl1 (o : Option Int → Option Int → T → Option T) (hi : Option DV) (t : T) (e : List T) (l : Option Int) : Option (T × List T) := (ptT hi e).bind (fSl2 o t e l)
--ev
theorem fSl1_ev (o hi t e l) : fSl1 o hi t e l = (ptT hi e).bind (fSl2 o t e l) := rfl
def fSl (o : Option Int → Option Int → T → Option T) (lo hi : Option DV) : T × List T → Option (T × List T) := fun p => (ptT lo p.2).bind (fSl1 o hi p.1 p.2)
--ev
theorem fSl_ev (o lo hi t e) : fSl o lo hi (t, e) = (ptT lo e).bind (fSl1 o hi t e) := rfl
--ev
theorem dSl_ev (o d lo hi env) : dSl o d lo hi env = (d env).bind (fSl o lo hi) := by
  unfold dSl fSl fSl1 fSl2
  cases d env with
  | none => rfl
  | some p =>
    simp only [Option.bind_some]
    cases ptT lo p.2 with
    | none => rfl
    | some l =>
      simp only [Option.bind_some]
      cases ptT hi p.2 with
      | none => rfl
      | some u => simp only [Option.bind_some]; cases o l u p.1 <;> rfl
theorem cutT_map {α β : Type} (f : α → β) (xs : List α) (l u) : cutT (xs.map f) l u = (cutT xs l u).map f := by
  unfold cutT; rw [List.length_map, List.map_take, List.map_drop]
--ev
theorem z_slli (o xs l u) : oSlL l u (li o xs) = some (li true (cutT xs l u)) := by
  show (if clns (xs.map lfI) = true then some (T.nd true .lst (cutT (xs.map lfI) l u)) else none) = _
  rw [clns_ints, cutT_map]; rfl
--ev
theorem z_cutTail {α : Type} (xs : List α) : cutT xs (some 1) none = xs.tail := by
  unfold cutT
  rw [HT.sIx_none, show HT.sIx xs.length 0 (some 1) = min 1 xs.length from HT.sIx_nat _ _ 1]
  cases xs with
  | nil => rfl
  | cons a l => simp
--ev
theorem z_cutInit {α : Type} (xs : List α) : cutT xs none (some (-1)) = xs.dropLast := by
  unfold cutT
  rw [HT.sIx_none]
  show (xs.drop 0).take ((-1 + (xs.length : Int)).toNat - 0) = _
  rw [List.dropLast_eq_take, List.drop_zero]
  congr 1
  omega
end Tr


set_option Elab.async false
set_option linter.all false
set_option autoImplicit false
set_option maxRecDepth 100000
set_option maxHeartbeats 4000000
/-! EV3: texts by their codes. -/
namespace Tr
open PySem PySem.Spec PyProof.Rows L2 Pm

/-- a text by its codes -/
def tx (l : List Nat) : T := .lf (.str ⟨l.toArray⟩)
--ev
theorem z_okst (l) : okT (tx l) = some (tx l) := rfl
--ev
theorem z_frzst (l) : frz (tx l) = tx l := frz_lf _
--ev
theorem z_clnst (l) : cln (tx l) = true := cln_lf _
--ev
theorem z_purest (l) : pureT (tx l) = true := pure_lf _
theorem str_len (l : List Nat) : (⟨l.toArray⟩ : Str).length = l.length := by show l.toArray.size = _; simp
theorem str_inj {a b : List Nat} : ((⟨a.toArray⟩ : Str) = ⟨b.toArray⟩) ↔ a = b := by
  constructor
  · intro h
    have := congrArg (fun s : Str => s.cps.toList) h
    simpa using this
  · rintro rfl; rfl
--ev
theorem z_addst (a b : List Nat) (h : a.length + b.length ≤ 1000) : oAdd (tx a) (tx b) = some (tx (a ++ b)) := by
  have := small h
  show (if (⟨a.toArray⟩ : Str).length + (⟨b.toArray⟩ : Str).length ≤ sizeLine then some (T.lf (.str (⟨a.toArray⟩ ++ ⟨b.toArray⟩))) else none) = _
  rw [str_len, str_len, if_pos (by omega)]
  unfold tx
  congr 3
  show (⟨a.toArray ++ b.toArray⟩ : Str) = _
  simp
--ev
theorem z_lenst (a : List Nat) (h : a.length ≤ 1000) : oLen (tx a) = some (.lf (.int a.length)) := by
  have := small h
  unfold tx oLen
  simp only [str_len]
  rw [if_pos (by omega)]
--ev
theorem z_inst1 (c : Nat) (l : List Nat) : oIn (tx [c]) (tx l) = some (.lf (.bl (decide (c ∈ l)))) := by
  show (inB (tx [c]) (tx l)).map _ = _
  unfold tx inB; simp
--ev
theorem z_ninst1 (c : Nat) (l : List Nat) : oNotIn (tx [c]) (tx l) = some (.lf (.bl (!decide (c ∈ l)))) := by
  show (inB (tx [c]) (tx l)).map _ = _
  unfold tx inB; simp
--ev
theorem z_ixst (l : List Nat) (i : Int) (hl : l.length ≤ 1000) (h0 : 0 ≤ i) (h : i.toNat < l.length) : oIx (tx l) (.lf (.int i)) = some (tx [l.getD i.toNat 0]) := by
  have := small hl
  show (if (⟨l.toArray⟩ : Str).length ≤ sizeLine then (L2.atI (⟨l.toArray⟩ : Str).cps.toList i).map fun c => T.lf (.str ⟨#[c]⟩) else none) = _
  rw [str_len, if_pos (by omega)]
  show (L2.atI l i).map _ = _
  rw [atI_of h0 h, List.getElem?_eq_getElem h]
  simp [tx, h]
/-- codes of signs that there are -/
def Okc (l : List Nat) : Bool := l.all fun c => decide (c < 1114112)
theorem shaped_str {s : Str} (h : PyData.strOk s = true) : SeqAt.shaped (.str s) = true := by
  unfold SeqAt.shaped
  rw [PyData.canLay0, PyData.depth, h]
  decide
theorem strOk_st {l : List Nat} (h : Okc l = true) : PyData.strOk ⟨l.toArray⟩ = true := by
  unfold PyData.strOk; simpa [Okc] using h
theorem oEq_str {s t : Str} (hs : PyData.strOk s = true) (ht : PyData.strOk t = true) : oEq (.lf (.str s)) (.lf (.str t)) = some (.lf (.bl (decide (s = t)))) := by
  unfold oEq
  simp only [toD, Option.bind_some, shaped_str hs, shaped_str ht, and_self, if_true, PyData.eqv]
  by_cases h : s = t <;> simp [h]
theorem oNe_str {s t : Str} (hs : PyData.strOk s = true) (ht : PyData.strOk t = true) : oNe (.lf (.str s)) (.lf (.str t)) = some (.lf (.bl (!decide (s = t)))) := by
  unfold oNe
  simp only [toD, Option.bind_some, shaped_str hs, shaped_str ht, and_self, if_true, PyData.eqv]
  by_cases h : s = t <;> simp [h]
/-- are two texts alike -/
def eqL (a b : List Nat) : Bool := decide (a = b)
--ev
theorem eqL_self (a) : eqL a a = true := decide_eq_true rfl
--ev
theorem eqL_nn : eqL [] [] = true := rfl
--ev
theorem eqL_nc (c a) : eqL [] (c :: a) = false := rfl
--ev
theorem eqL_cn (c a) : eqL (c :: a) [] = false := rfl
--ev
theorem eqL_cc (c a d b) : eqL (c :: a) (d :: b) = (decide (c = d) && eqL a b) := by
  unfold eqL; by_cases h : c = d <;> by_cases k : a = b <;> simp [h, k]
theorem eqL_iff {a b : List Nat} : eqL a b = true ↔ a = b := decide_eq_true_iff
theorem eqL_ne {a b : List Nat} (h : a ≠ b) : eqL a b = false := decide_eq_false h
--ev
theorem z_eqst (a b : List Nat) (ha : Okc a = true) (hb : Okc b = true) : oEq (tx a) (tx b) = some (.lf (.bl (eqL a b))) := by unfold tx; rw [oEq_str (strOk_st ha) (strOk_st hb)]; simp only [str_inj, eqL]
--ev
theorem z_nest (a b : List Nat) (ha : Okc a = true) (hb : Okc b = true) : oNe (tx a) (tx b) = some (.lf (.bl (!eqL a b))) := by unfold tx; rw [oNe_str (strOk_st ha) (strOk_st hb)]; simp only [str_inj, eqL]
theorem any_st (x : List Nat) (ws : List (List Nat)) : (ws.map tx).any (eqT (.str ⟨x.toArray⟩)) = decide (x ∈ ws) := by
  induction ws with
  | nil => rfl
  | cons y ys ih =>
    rw [List.map_cons, List.any_cons, ih]
    show ((⟨y.toArray⟩ : Str) == ⟨x.toArray⟩ || _) = _
    by_cases h : y = x
    · subst h; simp
    · have h1 : ¬ x = y := fun e => h e.symm
      have h2 : ((⟨y.toArray⟩ : Str) == ⟨x.toArray⟩) = false := by rw [beq_eq_false_iff_ne]; exact fun e => h (str_inj.mp e)
      rw [h2]; simp [h1]
theorem fl_st (ws : List (List Nat)) : (ws.map tx).all flT = true := by rw [List.all_map, List.all_eq_true]; intro x _; rfl
/-- a list or a tuple of texts -/
def sl (o : Bool) (k : Kd) (ws : List (List Nat)) : T := .nd o k (ws.map tx)
theorem inB_sl (x : List Nat) (o : Bool) (k : Kd) (hk : isSq k = true) (ws : List (List Nat)) : inB (tx x) (sl o k ws) = some (decide (x ∈ ws)) := by
  have : ∀ k, isSq k = true → inB (tx x) (sl o k ws) = if flatV (V.str ⟨x.toArray⟩) = true ∧ (ws.map tx).all flT = true then some ((ws.map tx).any (eqT (.str ⟨x.toArray⟩))) else none := fun k h => by cases k <;> first | rfl | cases h
  rw [this k hk, any_st, fl_st]
  simp [flatV]
--ev
theorem z_insl (x o k ws) (hk : isSq k = true) : oIn (tx x) (sl o k ws) = some (.lf (.bl (decide (x ∈ ws)))) := by unfold oIn; rw [inB_sl x o k hk]; rfl
--ev
theorem z_ninsl (x o k ws) (hk : isSq k = true) : oNotIn (tx x) (sl o k ws) = some (.lf (.bl (!decide (x ∈ ws)))) := by unfold oNotIn; rw [inB_sl x o k hk]; rfl
--ev
theorem z_sq1 : isSq .lst = true := rfl
--ev
theorem z_sq2 : isSq .tup = true := rfl
--ev
theorem z_sq3 : isSq .rot = true := rfl
--ev
theorem z_itst (l : List Nat) : itemsS (tx l) = some (l.map fun c => tx [c]) := rfl
--ev
theorem z_isist (l) : oIsi "str" (tx l) = some (.lf (.bl true)) := by simp [oIsi, tyN, isiB, tx]
--ev
theorem z_slst (l lo hi) (h : l.length ≤ 1000) : oSlS lo hi (tx l) = some (tx (cutT l lo hi)) := by
  have := small h
  show (if (⟨l.toArray⟩ : Str).length ≤ sizeLine then some (T.lf (.str (cutS ⟨l.toArray⟩ lo hi))) else none) = _
  rw [str_len, if_pos (by omega)]
  unfold tx cutS cutT
  rw [str_len]
--ev
theorem z_cutOne {α : Type} (xs : List α) : cutT xs none (some 1) = xs.take 1 := by
  unfold cutT
  rw [HT.sIx_none, show HT.sIx xs.length xs.length (some 1) = min 1 xs.length from HT.sIx_nat _ _ 1]
  cases xs with
  | nil => rfl
  | cons a l => simp
/-! texts that are written -/
--ev
theorem lit_all : (.lf (.str "all") : T) = tx [97, 108, 108] := rfl
--ev
theorem lit_not : (.lf (.str "not") : T) = tx [110, 111, 116] := rfl
--ev
theorem lit_both : (.lf (.str "both") : T) = tx [98, 111, 116, 104] := rfl
--ev
theorem lit_either : (.lf (.str "either") : T) = tx [101, 105, 116, 104, 101, 114] := rfl
--ev
theorem lit_somenext : (.lf (.str "somenext") : T) = tx [115, 111, 109, 101, 110, 101, 120, 116] := rfl
--ev
theorem lit_eachnext : (.lf (.str "eachnext") : T) = tx [101, 97, 99, 104, 110, 101, 120, 116] := rfl
--ev
theorem lit_sometill : (.lf (.str "sometill") : T) = tx [115, 111, 109, 101, 116, 105, 108, 108] := rfl
--ev
theorem lit_eachtill : (.lf (.str "eachtill") : T) = tx [101, 97, 99, 104, 116, 105, 108, 108] := rfl
--ev
theorem lit_someever : (.lf (.str "someever") : T) = tx [115, 111, 109, 101, 101, 118, 101, 114] := rfl
--ev
theorem lit_eachever : (.lf (.str "eachever") : T) = tx [101, 97, 99, 104, 101, 118, 101, 114] := rfl
--ev
theorem lit_somealways : (.lf (.str "somealways") : T) = tx [115, 111, 109, 101, 97, 108, 119, 97, 121, 115] := rfl
--ev
theorem lit_eachalways : (.lf (.str "eachalways") : T) = tx [101, 97, 99, 104, 97, 108, 119, 97, 121, 115] := rfl
--ev
theorem lit_mark : (.lf (.str "mark") : T) = tx [109, 97, 114, 107] := rfl
--ev
theorem lit_loop : (.lf (.str "loop") : T) = tx [108, 111, 111, 112] := rfl
--ev
theorem lit_rank : (.lf (.str "rank") : T) = tx [114, 97, 110, 107] := rfl
--ev
theorem lit_walk : (.lf (.str "walk") : T) = tx [119, 97, 108, 107] := rfl
--ev
theorem lit_shut : (.lf (.str "shut") : T) = tx [115, 104, 117, 116] := rfl
--ev
theorem lit_out : (.lf (.str "out") : T) = tx [111, 117, 116] := rfl
--ev
theorem lit_here : (.lf (.str "here") : T) = tx [104, 101, 114, 101] := rfl
--ev
theorem lit_dead : (.lf (.str "dead") : T) = tx [100, 101, 97, 100] := rfl
--ev
theorem lit_plain : (.lf (.str "plain") : T) = tx [112, 108, 97, 105, 110] := rfl
--ev
theorem lit_step : (.lf (.str "step") : T) = tx [115, 116, 101, 112] := rfl
--ev
theorem lit_none : (.lf (.str "none") : T) = tx [110, 111, 110, 101] := rfl
--ev
theorem lit_fair : (.lf (.str "fair") : T) = tx [102, 97, 105, 114] := rfl
--ev
theorem lit_answer : (.lf (.str "answer") : T) = tx [97, 110, 115, 119, 101, 114] := rfl
--ev
theorem lit_p : (.lf (.str "p") : T) = tx [112] := rfl
--ev
theorem lit_wet : (.lf (.str "wet") : T) = tx [119, 101, 116] := rfl
--ev
theorem lit_darkness : (.lf (.str "darkness") : T) = tx [100, 97, 114, 107, 110, 101, 115, 115] := rfl
--ev
theorem lit_x : (.lf (.str "x") : T) = tx [120] := rfl
--ev
theorem lit_q : (.lf (.str "q") : T) = tx [113] := rfl
--ev
theorem lit_empty : (.lf (.str "") : T) = tx [] := rfl
--ev
theorem lit_in : (.lf (.str "in") : T) = tx [105, 110] := rfl
/-! the words that are kept -/
def ABC : List Nat := [97, 98, 99, 100, 101, 102, 103, 104, 105, 106, 107, 108, 109, 110, 111, 112, 113, 114, 115, 116, 117, 118, 119, 120, 121, 122]
def KW : List (List Nat) := [[97, 108, 108], [110, 111, 116], [98, 111, 116, 104], [101, 105, 116, 104, 101, 114], [115, 111, 109, 101, 110, 101, 120, 116], [101, 97, 99, 104, 110, 101, 120, 116], [115, 111, 109, 101, 116, 105, 108, 108], [101, 97, 99, 104, 116, 105, 108, 108], [115, 111, 109, 101, 101, 118, 101, 114], [101, 97, 99, 104, 101, 118, 101, 114]]
--ev
theorem lit_letters : (.lf (.str "abcdefghijklmnopqrstuvwxyz") : T) = tx ABC := rfl
theorem lit_kept (o k) : (.nd o k [.lf (.str "all"), .lf (.str "not"), .lf (.str "both"), .lf (.str "either"), .lf (.str "somenext"), .lf (.str "eachnext"), .lf (.str "sometill"), .lf (.str "eachtill"), .lf (.str "someever"), .lf (.str "eachever")] : T) = sl o k KW := rfl
--ev
theorem z_kept (o k) : (.nd o k [tx [97, 108, 108], tx [110, 111, 116], tx [98, 111, 116, 104], tx [101, 105, 116, 104, 101, 114], tx [115, 111, 109, 101, 110, 101, 120, 116], tx [101, 97, 99, 104, 110, 101, 120, 116], tx [115, 111, 109, 101, 116, 105, 108, 108], tx [101, 97, 99, 104, 116, 105, 108, 108], tx [115, 111, 109, 101, 101, 118, 101, 114], tx [101, 97, 99, 104, 101, 118, 101, 114]] : T) = sl o k KW := rfl
/-! ### tuples put together, tables -/
--ev
theorem z_catX12 (a b c) : oCatX (.nd false .tup [a]) (.nd false .tup [b, c]) = some (.nd false .tup [a, b, c]) := by
  show (if ([a] : List T) ≠ [] ∧ [b, c] ≠ [] ∧ [a].length + [b, c].length ≤ sizeLine then some (T.nd false .tup ([a] ++ [b, c])) else none) = _
  rw [if_pos ⟨by simp, by simp, Nat.le_of_lt (small (by simp))⟩]; rfl
--ev
theorem z_catT12 (a b c o o') : oCatT (.nd o .tup [a]) (.nd o' .tup [b, c]) = if cln a = true ∧ cln b = true ∧ cln c = true then some (.nd false .tup [a, b, c]) else none := by
  show (if clns [a] = true ∧ clns [b, c] = true ∧ ([a] : List T) ≠ [] ∧ [b, c] ≠ [] ∧ [a].length + [b, c].length ≤ sizeLine then some (T.nd false .tup ([a] ++ [b, c])) else none) = _
  simp only [clns, Bool.and_true, Bool.and_eq_true]
  by_cases h : cln a = true ∧ cln b = true ∧ cln c = true
  · rw [if_pos h, if_pos ⟨h.1, h.2, by simp, by simp, Nat.le_of_lt (small (by simp))⟩]; rfl
  · rw [if_neg h, if_neg fun z => h ⟨z.1, z.2.1⟩]
--ev
theorem z_ixt2 (o a b c xs) : oIx (.nd o .tup (a :: b :: c :: xs)) (.lf (.int 2)) = some c := by
  show L2.atI (a :: b :: c :: xs) 2 = _; rw [atI_of (by omega) (by simp)]; rfl
theorem ap_tl (i : Nat) (f : Int → T) (h : i ≤ 1000) : mAppend (tl true i f) [f i] = some (.lf .non, tl true (i + 1) f) := by
  have := small h
  show (if ((rgI i).map f).length < sizeLine then some (T.lf .non, T.nd true .lst ((rgI i).map f ++ [f i])) else none) = _
  rw [List.length_map, rgI_len, if_pos this]
  unfold tl rgI
  rw [List.range_succ, List.map_append, List.map_append]; rfl
theorem tl_nil (f) : li true [] = tl true 0 f := rfl
end Tr


set_option Elab.async false
set_option linter.all false
set_option autoImplicit false
set_option maxRecDepth 100000
set_option maxHeartbeats 4000000
/-! EQ: things that are alike; comprehensions of any things; places within things. -/
namespace Tr
open PySem PySem.Spec PyProof.Rows L2 Pm

/-- data, nested so deep at most -/
inductive Dt : Nat → T → Prop
  | non {n : Nat} : Dt n (.lf .non)
  | bl {n : Nat} (b : Bool) : Dt n (.lf (.bl b))
  | int {n : Nat} (i : Int) : Dt n (.lf (.int i))
  | str {n : Nat} {x : Str} (h : PyData.strOk x = true) : Dt n (.lf (.str x))
  | lst {n : Nat} {o : Bool} {xs : List T} (h : ∀ x ∈ xs, Dt n x) : Dt (n + 1) (.nd o .lst xs)
  | tup {n : Nat} {o : Bool} {xs : List T} (h : ∀ x ∈ xs, Dt n x) : Dt (n + 1) (.nd o .tup xs)
theorem Dt.all {n : Nat} : ∀ {xs : List T}, (∀ x ∈ xs, ∃ d, toD x = some d ∧ d.canLay0 = true ∧ d.depth ≤ n ∧ PyData.eqv d d = true) → ∃ ds, toDs xs = some ds ∧ PyData.canLayAll0 ds = true ∧ PyData.depthAll ds ≤ n ∧ PyData.eqvAll ds ds = true
  | [], _ => ⟨[], rfl, by simp [PyData.canLayAll0], by simp [PyData.depthAll], by simp [PyData.eqvAll]⟩
  | x :: xs, h => by
    obtain ⟨d, h1, h2, h3, h4⟩ := h x (List.mem_cons_self ..)
    obtain ⟨ds, g1, g2, g3, g4⟩ := Dt.all fun y hy => h y (List.mem_cons_of_mem _ hy)
    refine ⟨d :: ds, by rw [toDs, h1, g1]; rfl, by rw [PyData.canLayAll0, h2, g2]; rfl, ?_, by rw [PyData.eqvAll, h4, g4]; rfl⟩
    rw [PyData.depthAll]
    omega
theorem Dt.dat {n : Nat} {t : T} (h : Dt n t) : ∃ d, toD t = some d ∧ d.canLay0 = true ∧ d.depth ≤ n ∧ PyData.eqv d d = true := by
  induction h with
  | non => exact ⟨.none, rfl, by simp [PyData.canLay0], by simp [PyData.depth], by simp [PyData.eqv]⟩
  | bl b => exact ⟨.bool b, rfl, by simp [PyData.canLay0], by simp [PyData.depth], by simp [PyData.eqv]⟩
  | int i => exact ⟨.int i, rfl, by simp [PyData.canLay0], by simp [PyData.depth], by simp [PyData.eqv]⟩
  | str h => exact ⟨.str _, rfl, by simpa [PyData.canLay0] using h, by simp [PyData.depth], by simp [PyData.eqv]⟩
  | lst _ ih =>
    obtain ⟨ds, g1, g2, g3, g4⟩ := Dt.all ih
    exact ⟨.list ds, by rw [toD, g1]; rfl, by rw [PyData.canLay0]; exact g2, by rw [PyData.depth]; omega, by rw [PyData.eqv]; exact g4⟩
  | tup _ ih =>
    obtain ⟨ds, g1, g2, g3, g4⟩ := Dt.all ih
    exact ⟨.tuple ds, by rw [toD, g1]; rfl, by rw [PyData.canLay0]; exact g2, by rw [PyData.depth]; omega, by rw [PyData.eqv]; exact g4⟩
mutual
theorem toD_frz : ∀ t : T, toD (frz t) = toD t
  | .no => rfl
  | .lf v => by rw [frz]
  | .nd o k xs => by rw [frz]; cases k <;> simp only [toD, toDs_frz xs]
theorem toDs_frz : ∀ ts : List T, toDs (frzs ts) = toDs ts
  | [] => rfl
  | t :: ts => by rw [frzs, toDs, toDs, toD_frz t, toDs_frz ts]
end
theorem oEq_alike {n : Nat} {a b : T} (hn : n ≤ 64) (h : Dt n a) (e : frz a = frz b) : oEq a b = some (.lf (.bl true)) := by
  obtain ⟨d, h1, h2, h3, h4⟩ := h.dat
  have h5 : toD b = some d := by rw [← toD_frz, ← e, toD_frz, h1]
  have sh : SeqAt.shaped d = true := by unfold SeqAt.shaped; rw [h2, decide_eq_true (by omega)]; rfl
  unfold oEq
  simp only [h1, h5, Option.bind_some, sh, and_self, if_true, h4]
theorem oNe_alike {n : Nat} {a b : T} (hn : n ≤ 64) (h : Dt n a) (e : frz a = frz b) : oNe a b = some (.lf (.bl false)) := by
  obtain ⟨d, h1, h2, h3, h4⟩ := h.dat
  have h5 : toD b = some d := by rw [← toD_frz, ← e, toD_frz, h1]
  have sh : SeqAt.shaped d = true := by unfold SeqAt.shaped; rw [h2, decide_eq_true (by omega)]; rfl
  unfold oNe
  simp only [h1, h5, Option.bind_some, sh, and_self, if_true, h4, Bool.not_true]
theorem Dt.li {n : Nat} (o : Bool) (xs : List Int) : Dt (n + 1) (li o xs) := .lst fun x hx => by
  obtain ⟨i, _, rfl⟩ := List.mem_map.mp hx
  exact .int i
theorem Dt.ll {n : Nat} (o : Bool) (xs : List (List Int)) : Dt (n + 2) (ll o xs) := .lst fun x hx => by
  obtain ⟨i, _, rfl⟩ := List.mem_map.mp hx
  exact .li o i
theorem Dt.st {n : Nat} {l : List Nat} (h : Okc l = true) : Dt n (tx l) := .str (strOk_st h)
theorem Dt.up {n m : Nat} {t : T} (h : Dt n t) (k : n ≤ m) : Dt m t := by
  induction h generalizing m with
  | non => exact .non
  | bl b => exact .bl b
  | int i => exact .int i
  | str h => exact .str h
  | lst _ ih =>
    obtain ⟨m, rfl⟩ : ∃ j, m = j + 1 := ⟨m - 1, by omega⟩
    exact .lst fun x hx => ih x hx (by omega)
  | tup _ ih =>
    obtain ⟨m, rfl⟩ : ∃ j, m = j + 1 := ⟨m - 1, by omega⟩
    exact .tup fun x hx => ih x hx (by omega)
/-! ### comprehensions -/
theorem lc_acc {α : Type} {dg : DG} {dc de : DE} {vs : List Nat} (env : List T) (c g : α → T) (p : α → Bool) : ∀ (xs : List α) (acc : List T), acc.length + xs.length ≤ 1000 →
    (∀ x ∈ xs, ∃ e e1, dg (c x) env = some e ∧ dc e = some (.lf (.bl (p x)), e1) ∧ (p x = true → ∃ e2, de e1 = some (g x, e2) ∧ wipeT e2 vs = env) ∧ (p x = false → wipeT e1 vs = env)) →
    dLr dg dc de vs (xs.map c) acc env = some (acc ++ (xs.filter p).map g, env)
  | [], acc, _, _ => by simp [dLr]
  | x :: xs, acc, hl, hs => by
    obtain ⟨e, e1, h1, h2, h3, h4⟩ := hs x (List.mem_cons_self ..)
    have hl' : acc.length + (xs.length + 1) ≤ 1000 := by simpa using hl
    rw [List.map_cons, dLr, h1, Option.bind_some]
    cases hp : p x with
    | true =>
      obtain ⟨e2, h5, h6⟩ := h3 hp
      rw [hp] at h2
      have hlt : acc.length < sizeLine := small (by omega)
      simp only [h2, h5, Option.bind_some, hlt, if_true, h6]
      rw [lc_acc env c g p xs (acc ++ [g x]) (by simp; omega) fun u hu => hs u (List.mem_cons_of_mem _ hu)]
      simp [hp]
    | false =>
      rw [hp] at h2
      simp only [h2, h4 hp]
      rw [lc_acc env c g p xs acc (by omega) fun u hu => hs u (List.mem_cons_of_mem _ hu)]
      simp [hp]
theorem lc_gen {α : Type} {dg : DG} {dc de : DE} {vs : List Nat} (env : List T) (xs : List α) (c g : α → T) (p : α → Bool) (hl : xs.length ≤ 1000)
    (hs : ∀ x ∈ xs, ∃ e e1, dg (c x) env = some e ∧ dc e = some (.lf (.bl (p x)), e1) ∧ (p x = true → ∃ e2, de e1 = some (g x, e2) ∧ wipeT e2 vs = env) ∧ (p x = false → wipeT e1 vs = env)) :
    dLr dg dc de vs (xs.map c) [] env = some ((xs.filter p).map g, env) := by
  rw [lc_acc env c g p xs [] (by simpa using hl) hs]; rfl
theorem lc_all {α : Type} {dg : DG} {de : DE} {vs : List Nat} (env : List T) (xs : List α) (c g : α → T) (hl : xs.length ≤ 1000)
    (hs : ∀ x ∈ xs, ∃ e e2, dg (c x) env = some e ∧ de e = some (g x, e2) ∧ wipeT e2 vs = env) :
    dLr dg dYes de vs (xs.map c) [] env = some (xs.map g, env) := by
  rw [lc_gen env xs c g (fun _ => true) hl fun x hx => by
    obtain ⟨e, e2, h1, h2, h3⟩ := hs x hx
    exact ⟨e, e, h1, rfl, fun _ => ⟨e2, h2, h3⟩, fun h => by cases h⟩]
  simp [List.filter_eq_self.mpr]
theorem lc_inv {α : Type} {dg : DG} {dc de : DE} {vs : List Nat} (Iv : List T → Prop) (c g : α → T) (p : α → Bool) : ∀ (xs : List α) (acc : List T) (env : List T), acc.length + xs.length ≤ 1000 → Iv env →
    (∀ x ∈ xs, ∀ env, Iv env → ∃ e e1, dg (c x) env = some e ∧ dc e = some (.lf (.bl (p x)), e1) ∧ (p x = true → ∃ e2, de e1 = some (g x, e2) ∧ Iv (wipeT e2 vs)) ∧ (p x = false → Iv (wipeT e1 vs))) →
    ∃ env', dLr dg dc de vs (xs.map c) acc env = some (acc ++ (xs.filter p).map g, env') ∧ Iv env'
  | [], acc, env, _, h0, _ => ⟨env, by simp [dLr], h0⟩
  | x :: xs, acc, env, hl, h0, hs => by
    obtain ⟨e, e1, h1, h2, h3, h4⟩ := hs x (List.mem_cons_self ..) env h0
    have hl' : acc.length + (xs.length + 1) ≤ 1000 := by simpa using hl
    rw [List.map_cons, dLr, h1, Option.bind_some]
    cases hp : p x with
    | true =>
      obtain ⟨e2, h5, h6⟩ := h3 hp
      rw [hp] at h2
      have hlt : acc.length < sizeLine := small (by omega)
      simp only [h2, h5, Option.bind_some, hlt, if_true]
      obtain ⟨env', g1, g2⟩ := lc_inv Iv c g p xs (acc ++ [g x]) _ (by simp; omega) h6 fun u hu => hs u (List.mem_cons_of_mem _ hu)
      exact ⟨env', by rw [g1]; simp [hp], g2⟩
    | false =>
      rw [hp] at h2
      simp only [h2]
      obtain ⟨env', g1, g2⟩ := lc_inv Iv c g p xs acc _ (by omega) (h4 hp) fun u hu => hs u (List.mem_cons_of_mem _ hu)
      exact ⟨env', by rw [g1]; simp [hp], g2⟩
theorem lc_allI {α : Type} {dg : DG} {de : DE} {vs : List Nat} (Iv : List T → Prop) (c g : α → T) (xs : List α) (env : List T) (hl : xs.length ≤ 1000) (h0 : Iv env)
    (hs : ∀ x ∈ xs, ∀ env, Iv env → ∃ e e2, dg (c x) env = some e ∧ de e = some (g x, e2) ∧ Iv (wipeT e2 vs)) :
    ∃ env', dLr dg dYes de vs (xs.map c) [] env = some (xs.map g, env') ∧ Iv env' := by
  obtain ⟨env', h1, h2⟩ := lc_inv (dg := dg) (dc := dYes) (de := de) (vs := vs) Iv c g (fun _ => true) xs [] env (by simpa using hl) h0 fun x hx env he => by
    obtain ⟨e, e2, h1, h2, h3⟩ := hs x hx env he
    exact ⟨e, e, h1, rfl, fun _ => ⟨e2, h2, h3⟩, fun h => by cases h⟩
  exact ⟨env', by rw [h1]; simp [List.filter_eq_self.mpr], h2⟩
theorem map_set {n : Nat} (f : Int → T) (i : Int) (t : T) (h0 : 0 ≤ i) : ((rgI n).map f).set i.toNat t = (rgI n).map fun y => if y = i then t else f y := by
  refine List.ext_getElem (by simp) fun j h1 h2 => ?_
  rw [List.getElem_set]
  simp only [List.getElem_map]
  have hj : (rgI n)[j]'(by simpa using h2) = (j : Int) := by
    have := rgI_get (n := n) (i := j) (by simpa [rgI_len] using h2)
    rw [List.getElem?_eq_getElem (by simpa using h2)] at this
    exact Option.some.inj this
  rw [hj]
  by_cases hi : i.toNat = j
  · rw [if_pos hi, if_pos (by omega)]
  · rw [if_neg hi, if_neg (by omega)]
theorem map_at {n : Nat} (f : Int → T) (i : Int) (h0 : 0 ≤ i) (h1 : i < n) : ((rgI n).map f)[i.toNat]? = some (f i) := by
  rw [List.getElem?_map, rgI_get (by omega), Option.map_some, show ((i.toNat : Nat) : Int) = i by omega]
/-! ### places within things -/
/-- a[b][j] of a list of tuples -/
theorem dp_tup {env : List T} {a b : Nat} {xs ys : List T} {k : Int} {j : Nat} {o : Bool} {t : T} (ha : gV a env = some (.nd true .lst xs)) (hb : gV b env = some (.lf (.int k))) (h0 : 0 ≤ k) (hk : xs[k.toNat]? = some (.nd o .tup ys)) (hj : ys[j]? = some t) :
    dpIx (dpIx (dpV a) (gV b)) (gC (.int (j : Int))) env = some (t, fun t' => env.set a (.nd true .lst (xs.set k.toNat (.nd o .tup (ys.set j t'))))) := by
  have l1 := (List.getElem?_eq_some_iff.mp hk).1
  have l2 := (List.getElem?_eq_some_iff.mp hj).1
  have e1 : ixN xs.length k = some k.toNat := by unfold ixN; rw [if_pos h0, if_pos (by omega)]
  have e2 : ixN ys.length (j : Int) = some j := by unfold ixN; rw [if_pos (by omega), if_pos (by omega)]; simp
  unfold dpIx dpV
  simp only [ha, hb, Option.map_some, e1, Option.bind_some, hk, gC, e2, hj]
theorem rngT_eq (n : Nat) : rngT n = (rgI n).map lfI := by simp [rngT, rgI, lfI]
end Tr


set_option Elab.async false
set_option linter.all false
set_option maxRecDepth 100000
set_option maxHeartbeats 4000000
/-! D15: classes in families: attributes of several classes, isinstance of own classes, classes without a constructor; defs that call themselves. -/
namespace Tr
open PySem PySem.Spec PyProof.Rows L2

/-! ### one class or another -/
def oOr (p q : T → Option T) : T → Option T := fun t => match p t with
  | some u => some u
  | none => q t
def mOr (p q : T → List T → Option (T × T)) : T → List T → Option (T × T) := fun t ts => match p t ts with
  | some u => some u
  | none => q t ts
section
variable {K : PySem.W.Frag} {mg : Mg}
theorem Op1V.or {r : V → Hp → VK → Prop} {p q : T → Option T} (hp : Op1V K mg r p) (hq : Op1V K mg r q) : Op1V K mg r (oOr p q) := fun F H x t R u Q le rx h k => by
  unfold oOr at h
  cases e : p t with
  | some w => rw [e] at h; cases h; exact hp F H x t R _ Q le rx e k
  | none => rw [e] at h; exact hq F H x t R u Q le rx h k
theorem OpM.or {r : V → List V → Hp → VK → Prop} {p q : T → List T → Option (T × T)} (hp : OpM K mg r p) (hq : OpM K mg r q) : OpM K mg r (mOr p q) := fun F H x t A vs ts R res t' Q le rx rs dj h k => by
  unfold mOr at h
  cases e : p t ts with
  | some w => rw [e] at h; cases h; exact hp F H x t A vs ts R _ _ Q le rx rs dj e k
  | none => rw [e] at h; exact hq F H x t A vs ts R _ _ Q le rx rs dj h k
end
section
variable {X : Cx} {e : Expr} {f : Str} {pos : Pos} {d : DV} {de : DE} {o : T → Option T}
theorem sv_fldA (hv : Op1V X.K X.mg (rFld X.K f) o) (he : SV X e d) (hb : attributeBase e f X.env (eval e X.env) = eval e X.env := by rfl) : SV X (.Attribute e f pos) (o1V o d) := pew (pe_fld he hb) fun _ _ _ => i1V hv
theorem sr_fldA (hv : Op1V X.K X.mg (rFld X.K f) o) (he : SR X e de) (hb : attributeBase e f X.env (eval e X.env) = eval e X.env := by rfl) : SR X (.Attribute e f pos) (o1 o de) := pew (pe_fld he hb) fun _ _ _ => i1R hv
end
section
variable {X : Cx} {x : Str} {i : Nat} {value : Expr} {px pos pos' : Pos} {dv : DE}
theorem ss_fldA {f : Str} {mk : T → List T → Option (T × T)} (hm : OpM X.K X.mg (rFldM X.K f) mk) (hv : SE X value dv) (hN : X.N[i]? = some x := by rfl) (hvis : Vis X.env.scope x := by first | exact Or.inl rfl | exact Or.inr (Or.inl rfl) | exact Or.inr (Or.inr rfl)) (hd : (x == ("__debug__" : Str)) = false := by decide) (hcd : (x == ("__classdict__" : Str)) = false := by decide)
    (hs : swapsWith value (some (.Attribute (.Name x px) f pos)) pos'.line X.env = pure false := by rfl) :
    SS X (.Assign [.Attribute (.Name x px) f pos] value pos') [] (dPut i (fun _ => mk) dv (gC .non)) :=
  psw (ps_fld (pe_var hN hvis hd hcd) hv hs) fun D σ H h => by
    obtain ⟨F, env, S, t, e, ok, hd, q⟩ := put_imp (r := fun _ => rFldM X.K f) (fun _ => hm) h
    exact ⟨F, env, S, t, e, ok, hd, fun v F' H' S' R a b c d => by
      obtain ⟨x, e1, q2⟩ := q v F' H' S' R a b c d
      obtain ⟨F2, en2, S2, t2, ok2, hd2, q2⟩ := q2
      cases hd2
      obtain ⟨v', a', C', dx, fs, e3, e4, e5, e6, e7, e8, q3⟩ := q2 .non Emp (.lf rfl fun _ z => z)
      cases e3
      exact ⟨x, e1, a', C', dx, fs, e4, e5, e6, e7, e8, q3⟩⟩
end

/-! ### isinstance of own classes -/
/-- what isinstance asks of the class of an instance -/
structure Ins0 (K : PySem.W.Frag) (C : Addr) : Prop where
  cl : Cls K C
  ha : PySem.W.findIn K (.ref C) "__class__" = some (some (.builtin "object.__class__"))
  hn : PySem.W.specialIn K (.builtin "object.__class__") "__get__" = some (some (.builtin "getset_descriptor.__get__"))
  htk : PySem.W.takesIn K (.builtin "object.__class__") = some true
  hm : PySem.W.mroIn K C (.type "object") = some true
def clsOf : T → Option Str
  | .nd _ (.ins c _) _ => some c
  | _ => none
/-- of an instance of c the answer is b -/
def oIs1 (c : Str) (b : Bool) : T → Option T := fun t => if clsOf t = some c then some (.lf (.bl b)) else none
section
variable {K : PySem.W.Frag} {mg : Mg} {F H : Hp}
theorem tyx_ins {c : Str} {C : Addr} {v : V} {t : T} {R : AS} (hc : mg c = some (.ref C)) (ic : Ins0 K C) (le : Le F H) (r : Rep K mg F H v t R) (h : clsOf t = some c) : TyX K H v (.ref C) := by
  unfold clsOf at h
  split at h
  · cases h
    obtain ⟨a, vs, S0, rfl, p, _, hl, C', dx, hr, hm⟩ := r.nd_inv le
    rw [hc] at hm
    cases hm
    exact .base (.ins hr ic.cl ic.ha ic.hn ic.htk ic.hm)
  · cases h
theorem v_is1 {c : Str} {C D : Addr} {b : Bool} (hc : mg c = some (.ref C)) (ic : Ins0 K C) (kt : PySem.W.kitOne K (.ref C) (.ref D) = some b) : Op1V K mg (fun x H Q => rIsi K [x, .ref D] H Q) (oIs1 c b) := fun F H x t R u Q le r h q => by
  unfold oIs1 at h
  split at h
  · rename_i hcl
    cases h
    exact ⟨x, _, _, _, b, rfl, .own D, tyx_ins hc ic le r hcl, kt, q _ Emp (.lf rfl fun _ z => z)⟩
  · cases h
/-- isinstance of one of these classes: the answer for the tuple of classes us -/
def rIsA (K : PySem.W.Frag) (us : List Value) : V → Hp → VK → Prop := fun x H Q => ∃ t b, TyX K H x t ∧ PySem.W.kitAny K t us = some b ∧ Q (.bl b) H
theorem v_isA {c : Str} {C : Addr} {us : List Value} {b : Bool} (hc : mg c = some (.ref C)) (ic : Ins0 K C) (kt : PySem.W.kitAny K (.ref C) us = some b) : Op1V K mg (rIsA K us) (oIs1 c b) := fun F H x t R u Q le r h q => by
  unfold oIs1 at h
  split at h
  · rename_i hcl
    cases h
    exact ⟨_, b, tyx_ins hc ic le r hcl, kt, q _ Emp (.lf rfl fun _ z => z)⟩
  · cases h
end
section
variable {X : Cx} {e : Expr} {y : Str} {D : Addr} {p pos py : Pos} {d : DV} {de : DE} {o : T → Option T}
/-- isinstance(e, D), D an own class -/
theorem sv_isC (hgi : Gl X "isinstance") (hmi : X.mg "isinstance" = none) (hgy : Gl X y) (hmy : X.mg y = some (.ref D)) (ho : Op1V X.K X.mg (fun x H Q => rIsi X.K [x, .ref D] H Q) o) (ha : SV X e d)
    (hdb : (y == ("__debug__" : Str)) = false := by decide)
    (hs : starEach (e :: [.Name y py]) X.env = (false, eval e X.env) :: starEach [.Name y py] X.env := by rfl) (hs2 : starEach [.Name y py] X.env = (false, eval (.Name y py) X.env) :: starEach [] X.env := by rfl) (hpl : (backTo pos (starEach [.Name y py] X.env)).any (·.1) = false := by rfl) :
    SV X (.Call (.Name "isinstance" p) [e, .Name y py] [] pos) (o1V o d) :=
  pew (pe_callB call_isi hgi hmi (by decide +kernel) (pa_cons ha (pa_cons (pe_glob hgy hmy (show RelV (.ref D) (.ref D) from rfl) hdb) pa_nil hs2) hs) (he := hs) (hpl := hpl)) fun _ _ _ h => i1V ho h
/-- the classes of a tuple -/
inductive PCs (X : Cx) : List Expr → List Addr → Prop
  | nil : PCs X [] []
  | cons {y : Str} {D : Addr} {py : Pos} {es : List Expr} {Ds : List Addr} (hgy : Gl X y) (hmy : X.mg y = some (.ref D)) (hr : PCs X es Ds)
      (hdb : (y == ("__debug__" : Str)) = false := by decide) (hs : starEach (.Name y py :: es) X.env = (false, eval (.Name y py) X.env) :: starEach es X.env := by rfl) : PCs X (.Name y py :: es) (D :: Ds)
def tCs (Ds : List Addr) : TA := fun _ H Q => Q (Ds.map V.ref) H
theorem PCs.pa : ∀ {es : List Expr} {Ds : List Addr}, PCs X es Ds → PA X es (tCs Ds)
  | _, _, .nil => pa_nil
  | _, _, .cons hgy hmy hr hdb hs => pa_cons (pe_glob (v := .ref _) hgy hmy rfl hdb) hr.pa hs
theorem paired_own : ∀ Ds : List Addr, Paired ClsV (Ds.map V.ref) (Ds.map Value.ref)
  | [] => .nil
  | D :: Ds => .cons (.own D) (paired_own Ds)
/-- isinstance(e, (D1, D2, ..)) -/
theorem sr_isCs {es : List Expr} {Ds : List Addr} {k : Nat} {tpos : Pos} (hgi : Gl X "isinstance") (hmi : X.mg "isinstance" = none) (hes : PCs X es Ds) (hl : Ds.length ≤ 60) (ho : Op1V X.K X.mg (rIsA X.K (Ds.map Value.ref)) o) (ha : SV X e d)
    (hs : starEach (e :: [.Tuple es k tpos]) X.env = (false, eval e X.env) :: starEach [.Tuple es k tpos] X.env := by rfl) (hs2 : starEach [.Tuple es k tpos] X.env = (false, eval (.Tuple es k tpos) X.env) :: starEach [] X.env := by rfl) (hpl : (backTo pos (starEach [.Tuple es k tpos] X.env)).any (·.1) = false := by rfl) :
    SR X (.Call (.Name "isinstance" p) [e, .Tuple es k tpos] [] pos) (vr (o1V o d)) :=
  pew (pe_callB call_isiT hgi hmi (by decide +kernel) (pa_cons ha (pa_cons (pe_tup hes.pa) pa_nil hs2) hs) (he := hs) (hpl := hpl)) fun σ H Q h => by
    obtain ⟨F, env, S, t, env', ok, hd, q⟩ := h
    obtain ⟨hd, rfl⟩ := vr_some hd
    obtain ⟨t0, h1, h2⟩ := Option.bind_eq_some_iff.mp hd
    refine ⟨F, env', S, t0, ok, h1, fun v R r => ⟨?_, fun tp htp => ?_⟩⟩
    · rw [List.length_map, sizeLine_eq]; omega
    · have fp : F tp = none := ok.le.nn htp
      have st : Stp F H S F (upd H tp (.tup (Ds.map V.ref))) S := ⟨Le.refl _, fun a o e _ => by rw [upd_ne (ne_of_none e htp)]; exact e, fun _ _ e => .inl e, fun a e => .inl e⟩
      have le2 : Le F (upd H tp (.tup (Ds.map V.ref))) := fun a o e => by rw [upd_ne (ne_of_none (ok.le a o e) htp)]; exact ok.le a o e
      have ok2 : Ok X.K X.mg F (upd H tp (.tup (Ds.map V.ref))) σ env' S := ⟨le2, ok.st.frame (Le.refl _) fun x z => by
        obtain ⟨⟨o, e⟩, g⟩ := ok.st.dom x z
        exact ⟨upd_ne (ne_of_none e htp), g⟩⟩
      have r2 : Rep X.K X.mg F (upd H tp (.tup (Ds.map V.ref))) v t0 R := r.frame (Le.refl _) fun x z => by
        obtain ⟨⟨o, e⟩, g⟩ := r.dom x z
        exact ⟨upd_ne (ne_of_none e htp), g⟩
      obtain ⟨ty, b, e1, e2, e3⟩ := ho F _ v t0 R t (fun v H' => Q v H') le2 r2 h2 fun w R' rw' => q w F _ S R' st ok2 rw'
      exact ⟨v, tp, _, ty, _, b, rfl, upd_same, paired_own Ds, e1, e2, e3⟩
end

/-! ### a class without a constructor of its own -/
structure Mk0 (K : PySem.W.Frag) (C : Addr) : Prop where
  makes : PySem.W.makesIn K C = true
  init : PySem.W.findIn K (.ref C) "__init__" = some (some (.builtin "object.__init__"))
  kp : PySem.W.keepIn K (.ref C) = true
def tNew0 (C : Addr) : TE := fun _ H Q => ∀ x dx, H x = none → H dx = none → dx ≠ x → Q (.ref x) (upd (upd H dx (.own x)) x (.ins C dx []))
theorem new0_K {prog : Program} {w : World} {A : Around} {K : PySem.W.Frag} {C : Addr} {s : Shared} {R : Result → Shared → Prop} (X : K.In s.heap) (hm : PySem.W.makesIn K C = true) (hi : PySem.W.findIn K (.ref C) "__init__" = some (some (.builtin "object.__init__")))
    (h : R (.ok (.ret (.ref (s.heap.objs.size + 1)))) { s with heap := (s.heap.push PySem.W.emptyDict).push (PySem.W.instObj C s.heap.objs.size) }) :
    codeAny (model prog w) A (.call (.ref C) ⟨[], []⟩) R s := by
  obtain ⟨hh, g, d, t, os⟩ := s
  have Y := PySem.W.makes_of (M := model prog w) X hm
  refine PySem.W.make_core Y (PySem.W.looks_findIn X hi) (fun self => PySem.W.Looks.of_pure (PySem.W.oi_bind self)) (.inr ⟨rfl, rfl⟩) ?_
  have hx : ((hh.push PySem.W.emptyDict).push (PySem.W.instObj C hh.objs.size)).get? (hh.objs.size + 1) = some (PySem.W.instObj C hh.objs.size) := by
    have := Heap.get?_push_size (hh.push PySem.W.emptyDict) (o := PySem.W.instObj C hh.objs.size) rfl
    rwa [Heap.size_push] at this
  have t1 : PySem.W.Looks (model prog w) ((hh.push PySem.W.emptyDict).push (PySem.W.instObj C hh.objs.size)) (typeOf (.ref (hh.objs.size + 1))) (.ref C) := (PySem.W.Looks.ld hx).andThen .now
  have t2 : PySem.W.Looks (model prog w) ((hh.push PySem.W.emptyDict).push (PySem.W.instObj C hh.objs.size)) (isInstance (.ref (hh.objs.size + 1)) (.type "object")) true := t1.andThen (Y.top.keeps fun b o e => Heap.get?_push_of_some _ (Heap.get?_push_of_some _ e))
  refine codeAny_call_builtin PySem.W.oi_plain PySem.W.entry_oi (@PySem.W.check_slot (model prog w) _ _ _ "object.__init__" "object" "__init__" (.ref (hh.objs.size + 1)) [] [] _ PySem.W.oi_kind PySem.W.oi_split t2 (PySem.W.oi_args (.ref (hh.objs.size + 1))) ?_)
  rw [PySem.W.oi_run]
  exact wpAny_pure (And.intro rfl h)
section
variable {X : Cx} {C : Addr} {x c : Str} {p pos : Pos}
theorem run_new0 {pins : List (Addr × Obj)} {σ : L2.St} {H : Hp} {s : Shared} {Q : VK} (M : Mk0 X.K C) (I : Inv X pins σ H s) (h : tNew0 C σ H Q) : wpAny (model X.prog X.w) X.A (call (.ref C) []) (EP X pins σ Q) X.xe s := by
  have hq := h (s.heap.objs.size + 1) s.heap.objs.size (I.hok.fresh (Nat.le_succ _)) (I.hok.fresh (Nat.le_refl _)) (Nat.ne_of_lt (Nat.lt_succ_self _))
  have I2 := Inv.made (C := C) I
  exact wpAny_call (new0_K I.kIn M.makes M.init ⟨V.ref (s.heap.objs.size + 1), _, I2, rfl, hq⟩)
theorem pe_new00 (M : Mk0 X.K C) (hg : Gl X x) (hm : X.mg x = some (.ref C)) (hdb : (x == ("__debug__" : Str)) = false := by decide) : PE X (.Call (.Name x p) [] [] pos) (tNew0 C) := by
  refine ⟨fun pins s σ H Q I h => ?_⟩
  refine wpAny_Call_Name_kw (ld_glob I hg hm ?_ hdb)
  exact PySem.W.callWith_K0 I.kIn M.kp (run_new0 M I h)
def dNew (c : Str) : DE := fun env => some (.nd true (.ins c []) [], env)
theorem se_new0 (M : Mk0 X.K C) (hg : Gl X x) (hm : X.mg x = some (.ref C)) (hdb : (x == ("__debug__" : Str)) = false := by decide) : SE X (.Call (.Name x p) [] [] pos) (dNew x) := pew (pe_new00 M hg hm hdb) fun σ H Q h => by
  obtain ⟨F, env, S, t, e, ok, hd, q⟩ := h
  cases hd
  intro y dx hy hdx ne
  have st2 : Stp F H Emp F (upd (upd H dx (.own y)) y (.ins C dx [])) (fun z => z = y) := by
    refine ⟨Le.refl _, fun a o e _ => ?_, fun _ _ e => .inl e, fun a e => .inr (by rw [e]; exact hy)⟩
    rw [upd_ne (ne_of_none e hy), upd_ne (ne_of_none e hdx)]
    exact e
  have le2 : Le F (upd (upd H dx (.own y)) y (.ins C dx [])) := fun a o e => st2.kp a o (ok.le a o e) fun z => z
  obtain ⟨a1, a2, a3⟩ := fin_new (σ := σ) Stp.refl ok st2 le2
  have rx : Rep X.K X.mg F (upd (upd H dx (.own y)) y (.ins C dx [])) (.ref y) (.nd true (.ins x []) []) (fun z => z = y) :=
    .own (o := .ins C dx []) (vs := []) (S0 := Emp) upd_same (ok.le.nn hy) ⟨rfl, C, dx, rfl, hm⟩ (.nil fun _ z => z) (fun z => z) fun z => ⟨.inl, fun z => z.elim id fun z => z.elim⟩
  exact q _ _ _ _ _ a1 a2 rx a3
end

/-! ### backwards; texts joined -/
def itemsR : T → Option (List T) := fun t => (itemsL t).map List.reverse
theorem good_rev {K : PySem.W.Frag} {mg : Mg} {F H : Hp} {a : Addr} {vs : List V} {its : List T} {S : AS} (r : Reps K mg F H vs its Emp) (hr : ∀ F2 H2 S2, Stp F H S F2 H2 S2 → Le F2 H2 → SqL K H2 a vs) : Good K mg its.reverse (Itv K a vs.length) F H S := fun i F2 H2 S2 st le => by
  have hq := hr F2 H2 S2 st le
  have hl := r.length (S := Emp)
  refine ⟨fun t h => ?_, fun h => by rw [List.length_reverse] at h; show vs.length ≤ i; omega⟩
  have hi : i < its.length := by
    have := (List.getElem?_eq_some_iff.mp h).1
    simpa using this
  rw [List.getElem?_reverse hi] at h
  obtain ⟨v, R, e1, e2, e3⟩ := r.get h
  rw [← hl] at e1
  refine ⟨⟨by omega, vs, v, hq, e1⟩, fun x H3 y => ?_⟩
  obtain ⟨e4, y⟩ := y
  subst e4
  have e5 := (y vs hq).symm.trans e1
  cases e5
  exact ⟨F2, .refl, le, (e2.iff (S' := Emp) fun x => ⟨fun z => z.elim, fun z => e3 x z⟩).frame st.ff fun _ z => z.elim⟩
theorem si_rev {X : Cx} {tg l : Expr} {d : DE} {p pos : Pos} (hg : Gl X "reversed") (hm : X.mg "reversed" = none) (hl : SE X l d) (hs : starEach [l] X.env = [(false, eval l X.env)] := by rfl) : SI X tg (.Call (.Name "reversed" p) [l] [] pos) (dIt itemsR d) :=
  piw (pi_reversed hg hm (pa_cons hl pa_nil hs) hs) fun σ H Rk ⟨F, env, S, its, e, ok, hd, q⟩ => by
  obtain ⟨t, h1, h2⟩ := dIt_some hd
  obtain ⟨its0, h3, h4⟩ := Option.map_eq_some_iff.mp h2
  subst h4
  obtain ⟨o, k, xs, rfl, rfl, hk⟩ := itemsL_some h3
  refine ⟨F, env, S, _, e, ok, h1, fun v F1 H1 S1 R1 st ok1 r dj => ?_⟩
  obtain ⟨F', a, vs, rfl, st', ok', p, hr⟩ := items_frozen st ok1 r dj
  exact ⟨a, vs, rfl, hk _ _ _ _ _ (hr F' H1 S1 .refl ok'.le), q _ F' H1 S1 st' ok' (good_rev p fun F2 H2 S2 s l => hk _ _ _ _ _ (hr F2 H2 S2 s l))⟩
def strsOf : List T → Option (List Str)
  | [] => some []
  | .lf (.str x) :: ts => (strsOf ts).map (x :: ·)
  | _ => none
theorem reps_strs {K : PySem.W.Frag} {mg : Mg} {F H : Hp} : ∀ {ts : List T} {ys : List Str} {vs : List V} {S : AS}, strsOf ts = some ys → Reps K mg F H vs ts S → vs = ys.map V.str
  | [], ys, vs, S, h, r => by cases h; cases r; rfl
  | t :: ts, ys, vs, S, h, r => by
    unfold strsOf at h
    split at h
    · rename_i e; cases e
    · rename_i x ts' e
      cases e
      obtain ⟨zs, h1, rfl⟩ := Option.map_eq_some_iff.mp h
      cases r with
      | cons r q _ _ => rw [reps_strs h1 q, r.lf_inv.1]; rfl
    · cases h
def oJoin (a : Str) : T → Option T
  | .nd _ k xs => if isSq k = true then (strsOf xs).bind fun ys => if (ys.map (·.length)).sum + ys.length * a.length ≤ 16777216 then some (.lf (.str (Txt.join a ys))) else none else none
  | _ => none
theorem oJoin_some {a : Str} {t u : T} (h : oJoin a t = some u) : ∃ o k xs ys, t = .nd o k xs ∧ isSq k = true ∧ strsOf xs = some ys ∧ (ys.map (·.length)).sum + ys.length * a.length ≤ 16777216 ∧ u = .lf (.str (Txt.join a ys)) := by
  cases t with
  | no => cases h
  | lf v => cases h
  | nd o k xs =>
    unfold oJoin at h
    by_cases hk : isSq k = true
    · simp only [hk, if_true] at h
      obtain ⟨ys, h1, h2⟩ := Option.bind_eq_some_iff.mp h
      split at h2
      · rename_i hz
        cases h2
        exact ⟨o, k, xs, ys, rfl, hk, h1, hz, rfl⟩
      · cases h2
    · simp only [hk] at h; cases h
def dJoin (vo : DV) (de : DE) : DE := fun env => match vo env with
  | some (.lf (.str a)) => (de env).bind fun p => (oJoin a p.1).map fun u => (u, p.2)
  | _ => none
theorem sr_join {X : Cx} {o e : Expr} {apos pos : Pos} {vo : DV} {de : DE} (ho : SV X o vo) (he : SR X e de) (hs : starEach [e] X.env = [(false, eval e X.env)] := by rfl) (hbase : attributeBase o "join" X.env (eval o X.env) = eval o X.env := by rfl) (hline : (apos.endLine == pos.line) = true := by rfl) :
    SR X (.Call (.Attribute o "join" apos) [e] [] pos) (dJoin vo de) := pew (pe_join ho he hs hbase hline) fun σ H Q h => by
  obtain ⟨F, env, S, t, env', ok, hd, q⟩ := h
  unfold dJoin at hd
  split at hd
  · rename_i a hv
    obtain ⟨⟨t1, e1⟩, h1, h2⟩ := Option.bind_eq_some_iff.mp hd
    obtain ⟨u, h3, h4⟩ := Option.map_eq_some_iff.mp h2
    cases h4
    refine ⟨F, env, S, _, ok, hv, fun v R r => ⟨⟨a, r.lf_inv.1⟩, F, env, S, t1, _, ok, h1, fun w F' H' S' R' st ok' r' => ?_⟩⟩
    obtain ⟨ow, k, xs, ys, rfl, hk, h5, hz, rfl⟩ := oJoin_some h3
    obtain ⟨p, vs, S0, rfl, rp, _, hr⟩ := r'.nd_inv ok'.le
    have ev := reps_strs h5 rp
    subst ev
    exact ⟨a, p, ys, r.lf_inv.1, rfl, hr.sq hk, hz, q _ F' H' S' Emp st ok' (.lf rfl fun _ z => z)⟩
  · cases hd

/-! ### defs that call themselves -/
theorem sss_none {X : Cx} {st : List Stmt} {W : List Nat} : SSs X st W (fun _ => none) := ⟨fun pins s σ H D I ⟨_, _, _, _, _, _, h, _⟩ => by cases h⟩
theorem se_none {X : Cx} {e : Expr} : SE X e (fun _ => none) := ⟨fun pins s σ H Q I ⟨_, _, _, _, _, _, h, _⟩ => by cases h⟩
theorem sv_none {X : Cx} {e : Expr} : SV X e (fun _ => none) := ⟨fun pins s σ H Q I ⟨_, _, _, _, _, h, _⟩ => by cases h⟩
theorem sr_none {X : Cx} {e : Expr} : SR X e (fun _ => none) := ⟨fun pins s σ H Q I ⟨_, _, _, _, _, _, h, _⟩ => by cases h⟩
/-- a def's mirror by its fuel -/
def dRec (keep : List Bool) (n : Nat) (b : FT → DS) : Nat → FT
  | 0 => dFun keep n (fun _ => none)
  | k + 1 => dFun keep n (b (dRec keep n b k))
theorem dRec_len {keep : List Bool} {n : Nat} {b : FT → DS} {m : Nat} (h : keep.length = m) : ∀ k, FLen (dRec keep n b k) m
  | 0 => dFun_len h
  | k + 1 => dFun_len h
end Tr


set_option Elab.async false
set_option linter.all false
set_option maxRecDepth 100000
set_option maxHeartbeats 4000000
/-! D16: a part taken out of its place; the place is known no more. -/
namespace Tr
open PySem PySem.Spec PyProof.Rows L2
def dTake (dp : DP) : DE := fun env => (dp env).map fun p => (p.1, p.2 .no)
theorem se_take {X : Cx} {e : Expr} {dp : DP} (hp : SP X e dp) : SE X e (dTake dp) := pew hp fun σ H Q q => by
  obtain ⟨F, env, S, t, env', ok, hd, q⟩ := q
  obtain ⟨⟨t1, put⟩, h1, h2⟩ := Option.map_eq_some_iff.mp hd
  cases h2
  refine ⟨F, env, S, _, put, ok, h1, fun v f => ?_⟩
  obtain ⟨A, B, rx, d, hS, rest⟩ := f
  refine q v F H (Cup Emp B) A ⟨Le.refl _, fun _ _ z _ => z, fun _ _ z => .inl z, fun y z => .inl ((hS y).mpr ?_)⟩ ⟨ok.le, rest H .no Emp (fun _ _ => rfl) (.no fun _ z => z) emp_dj⟩ rx fun y z a => ?_
  · exact z.elim (fun z => .inr (z.elim (fun z => z.elim) id)) .inl
  · exact z.elim (fun z => z.elim) fun z => d y a z
end Tr


set_option Elab.async false
set_option linter.all false
set_option maxRecDepth 100000
set_option maxHeartbeats 4000000
/-! D18: the things of a list are frozen, the list itself stays owned. -/
namespace Tr
open PySem PySem.Spec PyProof.Rows L2
def fzk (i : Nat) (d : DE) : DE := fun env => match env[i]? with
  | some (.nd true k xs) => d (env.set i (.nd true k (frzs xs)))
  | _ => none
section
variable {K : PySem.W.Frag} {mg : Mg} {σ : L2.St} {F H : Hp} {env : List T} {S : AS} {i : Nat}
theorem freezeK_ok {k : Kd} {xs : List T} (ok : Ok K mg F H σ env S) (h : env[i]? = some (.nd true k xs)) : ∃ F' S', Stp F H S F' H S' ∧ Ok K mg F' H σ (env.set i (.nd true k (frzs xs))) S' := by
  obtain ⟨s, A, B, e1, e2, e3, e4, rest⟩ := ok.st.split h
  cases s with
  | none => obtain ⟨h', _⟩ := e2; cases h'
  | some v =>
    obtain ⟨a, o, vs, S0, rfl, ha, hf, hc, rp, na, hA⟩ := Rep.own_inv e2
    have ff := frF_le (A := S0) ok.le
    have kB : ∀ y, B y → H y = H y ∧ frF F H S0 y = none := fun y z => ⟨rfl, by rw [frF_out fun a => e3 y ((hA y).mpr (.inr a)) z]; exact (ok.st.dom y ((e4 y).mpr (.inr z))).2⟩
    have r' : Rep K mg (frF F H S0) H (.ref a) (.nd true k (frzs xs)) (fun x => x = a) :=
      .own (S0 := Emp) ha (by rw [frF_out na]; exact hf) hc (Reps.freeze ff.1 rp (fun y z => frF_in z) fun _ z => z) (fun z => z) fun x => ⟨.inl, fun z => z.elim id fun z => z.elim⟩
    have := rest (frF F H S0) H (some (.ref a)) (.nd true k (frzs xs)) (fun x => x = a) ff.1 kB r' fun y z u => e3 y ((hA y).mpr (.inl z)) u
    rw [set_self' e1] at this
    exact ⟨frF F H S0, Cup (fun x => x = a) B, frF_stp ok.le (fun y z => (e4 y).mpr (.inl ((hA y).mpr (.inr z)))) fun y z => (e4 y).mpr (z.elim (fun z => .inl ((hA y).mpr (.inl z))) .inr), ⟨ff.2, this⟩⟩
theorem fzkE_imp {d : DE} {Q : VK} (h : tE K mg (fzk i d) σ H Q) : tE K mg d σ H Q := by
  obtain ⟨F, env, S, t, e, ok, hd, q⟩ := h
  unfold fzk at hd
  split at hd
  · rename_i k xs hu
    obtain ⟨F', S', st, ok'⟩ := freezeK_ok ok hu
    exact ⟨F', _, S', t, e, ok', hd, fun v F2 H2 S2 R st2 ok2 r dj => q v F2 H2 S2 R (st.trans st2) ok2 r dj⟩
  · cases hd
end
theorem SE.fzk {X : Cx} {e : Expr} {d : DE} (i : Nat) (h : SE X e d) : SE X e (Tr.fzk i d) := pew h fun _ _ _ => fzkE_imp
def dfz (d : DE) : DE := fun env => (d env).map fun p => (frz p.1, p.2)
section
variable {K : PySem.W.Frag} {mg : Mg} {σ : L2.St} {H : Hp}
theorem dfz_imp {d : DE} {Q : VK} (h : tE K mg (dfz d) σ H Q) : tE K mg d σ H Q := by
  obtain ⟨F, env, S, t, e, ok, hd, q⟩ := h
  obtain ⟨⟨t0, e0⟩, h1, h2⟩ := Option.map_eq_some_iff.mp hd
  cases h2
  refine ⟨F, env, S, t0, _, ok, h1, fun v F1 H1 S1 R st ok1 r dj => ?_⟩
  have ff := frF_le (A := R) ok1.le
  have stF : Stp F1 H1 (Cup S1 R) (frF F1 H1 R) H1 S1 := frF_stp ok1.le (fun _ z => .inr z) fun _ z => .inl z
  have stF' : Stp F1 H1 R (frF F1 H1 R) H1 Emp := frF_stp ok1.le (fun _ z => z) fun _ z => z.elim
  have ok' := ok1.keep stF' dj.symm ff.2
  have r' : Rep K mg (frF F1 H1 R) H1 v (frz t0) Emp := r.freeze ff.1 (fun x z => frF_in z) fun _ z => z
  exact q v (frF F1 H1 R) H1 S1 Emp ((st.trans stF).weak fun z u => u.elim id fun u => u.elim) ok' r' fun _ _ u => u
end
theorem SE.dfz {X : Cx} {e : Expr} {d : DE} (h : SE X e d) : SE X e (Tr.dfz d) := pew h fun _ _ _ => dfz_imp
end Tr


set_option Elab.async false
set_option linter.all false
set_option maxRecDepth 100000
set_option maxHeartbeats 4000000
/-! D19: zip of two lists; insert; d.get(k, x); a slice from a bound that is reckoned; built-ins of two readings; stores at places. -/
namespace Tr
open PySem PySem.Spec PyProof.Rows L2

/-! ### zip -/
def zpT : List T → List T → List T
  | x :: xs, y :: ys => .nd false .tup [x, y] :: zpT xs ys
  | _, _ => []
def itemsZ : List T → Option (List T)
  | [.nd _ .lst xs, .nd _ .lst ys] => some (zpT (frzs xs) (frzs ys))
  | _ => none
def dZip (da : DA) : DI := fun env => (da env).bind fun p => (itemsZ p.1).map fun its => (its, p.2)
theorem zpT_get : ∀ (xs ys : List T) (i : Nat) (t : T), (zpT xs ys)[i]? = some t → ∃ x y, xs[i]? = some x ∧ ys[i]? = some y ∧ t = .nd false .tup [x, y]
  | [], _, i, t, h => by simp [zpT] at h
  | _ :: _, [], i, t, h => by simp [zpT] at h
  | x :: xs, y :: ys, 0, t, h => by
    simp only [zpT, List.getElem?_cons_zero, Option.some.injEq] at h
    exact ⟨x, y, rfl, rfl, h.symm⟩
  | x :: xs, y :: ys, i + 1, t, h => by
    simp only [zpT, List.getElem?_cons_succ] at h
    obtain ⟨a, b, h1, h2, h3⟩ := zpT_get xs ys i t h
    exact ⟨a, b, by simpa using h1, by simpa using h2, h3⟩
theorem zpT_len : ∀ (xs ys : List T), (zpT xs ys).length = min xs.length ys.length
  | [], _ => by simp [zpT]
  | _ :: _, [] => by simp [zpT]
  | x :: xs, y :: ys => by simp only [zpT, List.length_cons, zpT_len xs ys]; omega
section
variable {K : PySem.W.Frag} {mg : Mg} {F H : Hp}
theorem good_zip {a b : Addr} {vs ws : List V} {its jts : List T} {S : AS} (r : Reps K mg F H vs its Emp) (q : Reps K mg F H ws jts Emp) (hr : ∀ F2 H2 S2, Stp F H S F2 H2 S2 → Le F2 H2 → SqL K H2 a vs) (hq : ∀ F2 H2 S2, Stp F H S F2 H2 S2 → Le F2 H2 → SqL K H2 b ws) : Good K mg (zpT its jts) (Itz K a b) F H S := fun i F2 H2 S2 st le => by
  have ha := hr F2 H2 S2 st le
  have hb := hq F2 H2 S2 st le
  refine ⟨fun t h => ?_, fun h => ⟨vs, ws, ha, hb, by rw [r.length (S := Emp), q.length (S := Emp)]; rw [zpT_len] at h; omega⟩⟩
  obtain ⟨u1, u2, hu1, hu2, rfl⟩ := zpT_get _ _ _ _ h
  obtain ⟨v, R, e1, e2, e3⟩ := r.get hu1
  obtain ⟨w, R', f1, f2, f3⟩ := q.get hu2
  refine ⟨⟨vs, ws, v, w, ha, hb, e1, f1⟩, fun x H3 y => ?_⟩
  obtain ⟨A, x1, x2, rfl, hA, rfl, y1, y2⟩ := y
  have e5 := (y1 vs ha).symm.trans e1
  cases e5
  have e6 := (y2 ws hb).symm.trans f1
  cases e6
  have nA : ∀ b o, F2 b = some o → b ≠ A := fun b o e z => by rw [z] at e; rw [le A o e] at hA; cases hA
  let F3 : Hp := upd F2 A (.tup [v, w])
  have l3 : Le F2 F3 := fun b o e => by show upd F2 A _ b = _; rw [upd_ne (nA b o e)]; exact e
  have rx : Rep K mg F3 (upd H2 A (.tup [v, w])) v u1 Emp := ((e2.iff (S' := Emp) fun x => ⟨fun z => z.elim, fun z => e3 x z⟩).frame st.ff (F' := F2) (H' := H2) fun _ z => z.elim).frame l3 fun _ z => z.elim
  have ry : Rep K mg F3 (upd H2 A (.tup [v, w])) w u2 Emp := ((f2.iff (S' := Emp) fun x => ⟨fun z => z.elim, fun z => f3 x z⟩).frame st.ff (F' := F2) (H' := H2) fun _ z => z.elim).frame l3 fun _ z => z.elim
  refine ⟨F3, ⟨l3, fun b o e _ => by rw [upd_ne fun z => by rw [z, hA] at e; cases e]; exact e, fun b o e => ?_, fun _ z => z.elim⟩, fun b o e => ?_, ?_⟩
  · by_cases hb : b = A
    · subst hb; exact .inr (.inr hA)
    · have : F3 b = F2 b := upd_ne hb
      rw [this] at e; exact .inl e
  · by_cases hb : b = A
    · subst hb
      have : F3 b = some (.tup [v, w]) := upd_same
      rw [this] at e; rw [upd_same]; exact e
    · have : F3 b = F2 b := upd_ne hb
      rw [this] at e; rw [upd_ne hb]; exact le b o e
  · exact .frz (o := .tup [v, w]) (vs := [v, w]) upd_same rfl (.cons (S1 := Emp) (S2 := Emp) rx (.cons (S1 := Emp) (S2 := Emp) ry (.nil fun _ z => z) dj_emp fun _ => ⟨.inl, fun z => z.elim id id⟩) dj_emp fun _ => ⟨.inl, fun z => z.elim id id⟩)
end
theorem si_zip {X : Cx} {l l2 : Expr} {da : DA} {bs : List (Option Nat)} {p pos tpos : Pos} {elts : List Expr} {kk : Nat} (hg : Gl X "zip") (hm : X.mg "zip" = none) (hl : SA X [l, l2] bs da) (hs : starEach [l, l2] X.env = (false, eval l X.env) :: starEach [l2] X.env := by rfl) (hpl : (backTo pos (starEach [l2] X.env)).any (·.1) = false := by rfl) : SI X (.Tuple elts kk tpos) (.Call (.Name "zip" p) [l, l2] [] pos) (dZip da) :=
  piw (pi_zip hg hm hl hs hpl) fun σ H Rk ⟨F, env, S, its, e, ok, hd, q⟩ => by
    obtain ⟨⟨ts, e1⟩, h1, h2⟩ := Option.bind_eq_some_iff.mp hd
    obtain ⟨its', h3, h4⟩ := Option.map_eq_some_iff.mp h2
    cases h4
    unfold itemsZ at h3
    split at h3
    · rename_i o1 xs o2 ys hts
      have hts' : ts = [.nd o1 .lst xs, .nd o2 .lst ys] := hts
      subst hts'
      cases h3
      refine ⟨F, env, S, _, _, ok, h1, fun vs F1 H1 S1 R1 st ok1 r dj _ => ?_⟩
      have ff := frF_le (A := R1) ok1.le
      have stF : Stp F1 H1 (Cup S1 R1) (frF F1 H1 R1) H1 S1 := frF_stp ok1.le (fun _ z => .inr z) fun _ z => .inl z
      have stF' : Stp F1 H1 R1 (frF F1 H1 R1) H1 Emp := frF_stp ok1.le (fun _ z => z) fun _ z => z.elim
      have ok' := ok1.keep stF' dj.symm ff.2
      have r' : Reps X.K X.mg (frF F1 H1 R1) H1 vs (frzs [.nd o1 .lst xs, .nd o2 .lst ys]) Emp := r.freeze ff.1 (fun x z => frF_in z) fun _ z => z
      rw [frzs, frzs, frzs, frz, frz] at r'
      cases r' with
      | @cons v1 _ vs1 _ _ A1 B1 r1 r2 d1 hS1 =>
        cases r2 with
        | @cons v2 _ vs2 _ _ A2 B2 r3 r4 d2 hS2 =>
          cases r4 with
          | nil _ =>
            have r1' : Rep X.K X.mg (frF F1 H1 R1) H1 v1 (.nd false .lst (frzs xs)) Emp := r1.iff fun x => ⟨fun z => z.elim, fun z => (hS1 x).mpr (.inl z)⟩
            have r3' : Rep X.K X.mg (frF F1 H1 R1) H1 v2 (.nd false .lst (frzs ys)) Emp := r3.iff fun x => ⟨fun z => z.elim, fun z => (hS1 x).mpr (.inr ((hS2 x).mpr (.inl z)))⟩
            obtain ⟨a, us, Sa, rfl, pa, hsa, hra⟩ := r1'.stays (S := S1) ff.2 dj_emp fun x z => (ok'.st.dom x z).2
            obtain ⟨b, ws, Sb, rfl, pb, hsb, hrb⟩ := r3'.stays (S := S1) ff.2 dj_emp fun x z => (ok'.st.dom x z).2
            refine ⟨a, b, us, ws, rfl, SqL.of (hra _ H1 S1 .refl ok'.le), SqL.of (hrb _ H1 S1 .refl ok'.le), q _ (frF F1 H1 R1) H1 S1 (st.trans stF) ok' ?_⟩
            exact good_zip (pa.clean0 (clns_frz xs)) (pb.clean0 (clns_frz ys)) (fun F2 H2 S2 s l => SqL.of (hra F2 H2 S2 s l)) fun F2 H2 S2 s l => SqL.of (hrb F2 H2 S2 s l)
    · cases h3

/-! ### insert -/
def mInsert : T → List T → Option (T × T)
  | .nd true .lst xs, [.lf (.int i), t] => if xs.length < sizeLine ∧ 0 ≤ i ∧ i < 2 ^ 63 then some (.lf .non, .nd true .lst (xs.take i.toNat ++ [t] ++ xs.drop i.toNat)) else none
  | _, _ => none
section
variable {K : PySem.W.Frag} {mg : Mg} {F H : Hp}
theorem Reps.splitAt : ∀ (n : Nat) {vs : List V} {ts : List T} {S : AS}, Reps K mg F H vs ts S → ∃ A B, Reps K mg F H (vs.take n) (ts.take n) A ∧ Reps K mg F H (vs.drop n) (ts.drop n) B ∧ Dj A B ∧ ∀ x, S x ↔ A x ∨ B x
  | 0, vs, ts, S, r => ⟨Emp, S, by simpa using (Reps.nil (K := K) (mg := mg) (F := F) (H := H) (S := Emp) fun _ z => z), by simpa using r, emp_dj, fun x => ⟨.inr, fun z => z.elim (fun z => z.elim) id⟩⟩
  | n + 1, _, _, S, .nil h => ⟨Emp, Emp, .nil fun _ z => z, .nil fun _ z => z, emp_dj, fun x => ⟨fun z => (h x z).elim, fun z => z.elim (fun z => z.elim) fun z => z.elim⟩⟩
  | n + 1, _, _, S, .cons (S1 := S1) r q d hS => by
    obtain ⟨A, B, h1, h2, h3, h4⟩ := Reps.splitAt n q
    refine ⟨Cup S1 A, B, ?_, ?_, fun x a b => a.elim (fun a => d x a ((h4 x).mpr (.inr b))) fun a => h3 x a b, fun x => ?_⟩
    · rw [List.take_succ_cons, List.take_succ_cons]
      exact .cons r h1 (fun x a b => d x a ((h4 x).mpr (.inl b))) fun _ => Iff.rfl
    · rw [List.drop_succ_cons, List.drop_succ_cons]; exact h2
    · rw [hS x, h4 x]; exact ⟨fun z => z.elim (fun z => .inl (.inl z)) fun z => z.elim (fun z => .inl (.inr z)) .inr, fun z => z.elim (fun z => z.elim .inl fun z => .inr (.inl z)) fun z => .inr (.inr z)⟩
def rInsertM : V → List V → Hp → VK → Prop := fun x vs H Q => ∃ (l : Addr) (xs : List V) (i : Int) (y : V), x = .ref l ∧ vs = [.int i, y] ∧ H l = some (.lst xs) ∧ xs.length < sizeLine ∧ 0 ≤ i ∧ i < 2 ^ 63 ∧
    Q .non (upd H l (.lst (xs.take i.toNat ++ [y] ++ xs.drop i.toNat)))
theorem mt_insertM {X : Cx} : MtR X "list.insert" rInsertM := mt_insert
theorem m_insert : OpM K mg rInsertM mInsert := by
  intro F H x t A vs ts R res t' Q le rx rs dj h q
  unfold mInsert at h
  split at h
  · rename_i xs i y
    split at h
    · rename_i hl
      cases h
      obtain ⟨a, o, ws, S0, rfl, h1, h2, rfl, r, na, hA⟩ := rx.own_inv
      cases rs with
      | @cons v0 _ vs0 _ _ Ri R1 ri rs1 di hRi =>
        cases rs1 with
        | @cons v _ vs _ _ R2 R3 ry rn dy hR =>
          cases rn with
          | nil hn =>
            obtain ⟨rfl, _, _⟩ := ri.lf_inv
            have nRa : ¬ R a := fun z => dj a ((hA a).mpr (.inl rfl)) z
            obtain ⟨A1, B1, k1, k2, k3, k4⟩ := r.splitAt i.toNat
            have sub : ∀ x, R2 x → R x := fun x z => (hRi x).mpr (.inr ((hR x).mpr (.inl z)))
            have d0 : ∀ x, S0 x → ¬ R2 x := fun x z y => dj x ((hA x).mpr (.inr z)) (sub x y)
            have one : Reps K mg F H [v] [y] R2 := .cons (S1 := R2) (S2 := Emp) ry (.nil fun _ z => z) dj_emp fun x => ⟨.inl, fun z => z.elim id fun z => z.elim⟩
            have j1 := Reps.append one k1 fun x z y => d0 x ((k4 x).mpr (.inl z)) y
            have j2 := Reps.append k2 j1 fun x z y => z.elim (fun z => k3 x z y) fun z => d0 x ((k4 x).mpr (.inr y)) z
            refine ⟨a, ws, i, v, rfl, rfl, h1, by rw [r.length (S := Emp)]; exact hl.1, hl.2.1, hl.2.2, ?_⟩
            exact write_end (k := .lst) (vs' := ws.take i.toNat ++ [v] ++ ws.drop i.toNat) (xs' := xs.take i.toNat ++ [y] ++ xs.drop i.toNat) (R := R) le h2 hA na nRa j2 (fun x z => z.elim (fun z => z.elim (fun z => .inl ((k4 x).mpr (.inl z))) fun z => .inr (sub x z)) fun z => .inl ((k4 x).mpr (.inr z))) rfl rfl q
    · cases h
  · cases h
end

/-! ### built-ins of two readings -/
section
variable {X : Cx} {e1 e2 : Expr} {x : Str} {id : String} {p pos : Pos} {d1 d2 : DE} {r : List V → Hp → VK → Prop} {o : T → T → Option T}
theorem sr_b2c (hc : CallR X (.builtin id) r) (hv : Op2V X.K X.mg (fun x y H Q => r [x, y] H Q) o) (hb : bootBuiltins x = some (.builtin id)) (hg : Gl X x) (hm : X.mg x = none) (h1 : SR X e1 d1) (h2 : SR X e2 d2) (hn : x ≠ "__name__" := by decide) (hdb : (x == ("__debug__" : Str)) = false := by decide)
    (hs : starEach (e1 :: [e2]) X.env = (false, eval e1 X.env) :: starEach [e2] X.env := by rfl) (hs2 : starEach (e2 :: []) X.env = (false, eval e2 X.env) :: starEach [] X.env := by rfl) (hpl : (backTo pos (starEach [e2] X.env)).any (·.1) = false := by rfl) :
    SR X (.Call (.Name x p) [e1, e2] [] pos) (o2c o d1 d2) := pew (pe_callB hc hg hm hb (pa_cons h1 (pa_cons h2 pa_nil hs2) hs) hn hdb (he := hs) (hpl := hpl)) fun _ _ _ h => i2c hv h
end

/-! ### a slice whose first bound is reckoned -/
def oSlLo : T → T → Option T
  | t, .lf (.int i) => oSlL (some i) none t
  | _, _ => none
section
variable {K : PySem.W.Frag} {mg : Mg} {σ : L2.St}
theorem slN_imp {i : Nat} {db : DE} {H : Hp} {Q : VK} (h : tE K mg (o2n oSlLo i db) σ H Q) : tSl (rSlL K) (tVar i) (tPart (tR K mg db)) tNoPart σ H Q := by
  obtain ⟨F, env, S, t, env', ok, hd, q⟩ := h
  obtain ⟨t0, h0, hd⟩ := Option.bind_eq_some_iff.mp hd
  obtain ⟨⟨y, e⟩, h1, h2⟩ := Option.bind_eq_some_iff.mp hd
  obtain ⟨t1, h3, h4⟩ := Option.bind_eq_some_iff.mp h2
  obtain ⟨u, h5, h6⟩ := Option.map_eq_some_iff.mp h4
  cases h6
  obtain ⟨g1, g2⟩ := gV_some h0
  obtain ⟨v, A, B, ev, rx, _⟩ := ok.st.slot g1 g2
  refine ⟨v, ev, F, env, S, y, _, ok, h1, fun w F1 H1 S1 R1 st ok1 r1 => ?_⟩
  unfold oSlLo at h5
  split at h5
  · rename_i j hj
    have hj' : y = .lf (.int j) := hj
    subst hj'
    refine ⟨j, r1.lf_inv.1, ?_⟩
    obtain ⟨g3, g4⟩ := gV_some h3
    obtain ⟨v2, A2, B2, ev2, rx2, _⟩ := ok1.st.slot g3 g4
    rw [ev] at ev2
    cases ev2
    refine e_slL (some j) none F1 H1 v _ A2 _ Q ok1.le rx2 h5 fun v' F2 H2 R' st2 le2 r' => ?_
    obtain ⟨a, b, c⟩ := fin_new st ok1 st2 le2
    exact q v' F2 H2 S1 R' a b r' c
  · cases h5
end
section
variable {X : Cx} {x : Str} {i : Nat} {b : Expr} {px pos p2 : Pos} {db : DE}
theorem se_slN (hb : SR X b db) (hN : X.N[i]? = some x := by rfl) (hvis : Vis X.env.scope x := by first | exact Or.inl rfl | exact Or.inr (Or.inl rfl) | exact Or.inr (Or.inr rfl)) (hd : (x == ("__debug__" : Str)) = false := by decide) (hcd : (x == ("__classdict__" : Str)) = false := by decide) :
    SE X (.Subscript (.Name x px) (.Slice (some b) none none p2) pos) (o2n oSlLo i db) := pew (pe_slice sl_list (pe_var hN hvis hd hcd) (po_some hb) po_none) fun _ _ _ h => slN_imp h
end

/-! ### d.get(k, x) -/
def oGet (t k x : T) : Option T := match t, k with
  | .nd _ (.dK ks) xs, .lf w => (keyOf w).map fun kk => (getK ks xs kk).getD x
  | _, _ => none
def o3V (o : T → T → T → Option T) (a b c : DV) : DV := fun env => (a env).bind fun x => (b env).bind fun y => (c env).bind fun z => o x y z
/-- d.get(k, []) -/
def dGetE (a b : DV) : DE := fun env => (a env).bind fun x => (b env).bind fun y => (oGet x y (.nd true .lst [])).map fun t => (t, env)
section
variable {K : PySem.W.Frag} {mg : Mg} {F H : Hp} {σ : L2.St}
theorem getK_none {k : Key} : ∀ {ks : List Key} {vs : List V} {ts : List T}, vs.length = ts.length → ks.length = vs.length → getK ks ts k = none → valV (ks.zip vs) k = none
  | [], _, _, _, _, _ => by simp [valV]
  | a :: ks, [], _, _, h, _ => by simp at h
  | a :: ks, v :: vs, [], h, _, _ => by simp at h
  | a :: ks, v :: vs, t :: ts, h1, h2, h => by
    unfold getK at h
    split at h
    · cases h
    · rename_i ne
      rw [List.zip_cons_cons, valV_neg ne]
      exact getK_none (by simpa using h1) (by simpa using h2) h
theorem oGet_imp {x y z : V} {t k d u : T} {R R2 R3 : AS} (le : Le F H) (r : Rep K mg F H x t R) (r2 : Rep K mg F H y k R2) (r3 : Rep K mg F H z d R3) (h : oGet t k d = some u) : ∃ a w Rw o, x = .ref a ∧ IsD H a ∧ DGet H a y o ∧ o.getD z = w ∧ Rep K mg F H w u Rw := by
  unfold oGet at h
  split at h
  · rename_i o ks xs w
    obtain ⟨kk, h1, h2⟩ := Option.map_eq_some_iff.mp h
    obtain ⟨a, vs, S0, rfl, p, hs, hl, hd⟩ := r.nd_inv le
    have ew := keyOf_some h1
    obtain ⟨e0, _, _⟩ := r2.lf_inv
    rw [e0, ew]
    cases hg : getK ks xs kk with
    | some t' =>
      rw [hg] at h2
      cases h2
      obtain ⟨v, R', g1, g2, g3⟩ := getK_ok p hl hg
      exact ⟨a, v, R', some v, rfl, .inl ⟨_, .inl hd⟩, g1 ▸ DGet.k hd, rfl, g2⟩
    | none =>
      rw [hg] at h2
      cases h2
      have g1 := getK_none (p.length (S := Emp)) hl hg
      exact ⟨a, z, R3, none, rfl, .inl ⟨_, .inl hd⟩, g1 ▸ DGet.k hd, rfl, r3⟩
  · cases h
theorem get_imp {a b c : DV} {Q : VK} (h : tV K mg (o3V oGet a b c) σ H Q) : tDGet2 (tV K mg a) (tV K mg b) (tV K mg c) σ H Q := by
  obtain ⟨F, env, S, t, ok, hd, q⟩ := h
  obtain ⟨x, h1, hd⟩ := Option.bind_eq_some_iff.mp hd
  obtain ⟨y, h2, hd⟩ := Option.bind_eq_some_iff.mp hd
  obtain ⟨z, h3, hd⟩ := Option.bind_eq_some_iff.mp hd
  refine ⟨F, env, S, x, ok, h1, fun v R r => ?_⟩
  have isd : ∃ a, v = .ref a ∧ IsD H a := by
    unfold oGet at hd
    split at hd
    · obtain ⟨a, vs, S0, rfl, p, hs, hl, hk⟩ := r.nd_inv ok.le
      exact ⟨a, rfl, .inl ⟨_, .inl hk⟩⟩
    · cases hd
  obtain ⟨a, rfl, hi⟩ := isd
  refine ⟨a, rfl, hi, F, env, S, y, ok, h2, fun w R2 r2 => ⟨F, env, S, z, ok, h3, fun u R3 r3 => ?_⟩⟩
  obtain ⟨a', w', Rw, o, e1, _, g, e2, rw'⟩ := oGet_imp ok.le r r2 r3 hd
  cases e1
  exact ⟨o, g, e2 ▸ q w' Rw rw'⟩
theorem getE_imp {a b : DV} {Q : VK} (h : tR K mg (dGetE a b) σ H Q) : tDGet2 (tV K mg a) (tV K mg b) (tLst tNil) σ H Q := by
  obtain ⟨F, env, S, t, env', ok, hd, q⟩ := h
  obtain ⟨x, h1, hd⟩ := Option.bind_eq_some_iff.mp hd
  obtain ⟨y, h2, hd⟩ := Option.bind_eq_some_iff.mp hd
  obtain ⟨u, h3, h4⟩ := Option.map_eq_some_iff.mp hd
  cases h4
  refine ⟨F, _, S, x, ok, h1, fun v R r => ?_⟩
  have isd : ∃ a, v = .ref a ∧ IsD H a := by
    unfold oGet at h3
    split at h3
    · obtain ⟨a, vs, S0, rfl, p, hs, hl, hk⟩ := r.nd_inv ok.le
      exact ⟨a, rfl, .inl ⟨_, .inl hk⟩⟩
    · cases h3
  obtain ⟨a, rfl, hi⟩ := isd
  refine ⟨a, rfl, hi, F, _, S, y, ok, h2, fun w R2 r2 => ⟨by decide, fun p hp => ?_⟩⟩
  have np : ∀ b o, H b = some o → b ≠ p := fun b o z y => by rw [y, hp] at z; cases z
  obtain ⟨g1, g2, g3⟩ := new_one (K := K) (mg := mg) (k := .lst) (o := .lst []) (vs := []) (xs := []) ok.le hp rfl (.nil fun _ z => z)
  obtain ⟨z1, z2, z3⟩ := fin_new .refl ok g1 g2
  have kp : ∀ v t R, Rep K mg F H v t R → Rep K mg F (upd H p (.lst [])) v t R := fun v t R r => r.frame (Le.refl _) fun x z => ⟨by obtain ⟨⟨o, e⟩, _⟩ := r.dom x z; exact upd_ne (np x o e), (r.dom x z).2⟩
  obtain ⟨a', w', Rw, o, e1, _, g, e2, rw'⟩ := oGet_imp g2 (kp _ _ _ r) (kp _ _ _ r2) g3 h3
  cases e1
  exact ⟨o, g, e2 ▸ q w' F _ S Rw (z1.weak fun _ z => .inl z) z2 rw'⟩
end
section
variable {X : Cx} {o e f : Expr} {apos cpos : Pos} {a b c : DV}
theorem sv_get (hu : X.A.units + 1 < cLine) (ho : SV X o a) (he : SV X e b) (hf : SV X f c) (m : M2 X o "get" apos e f cpos := by exact ⟨rfl, rfl, rfl, rfl⟩) : SV X (.Call (.Attribute o "get" apos) [e, f] [] cpos) (o3V oGet a b c) := pew (pe_dget2 hu ho he hf m) fun _ _ _ h => get_imp h
theorem sr_getE {lp : Pos} (hu : X.A.units + 1 < cLine) (ho : SV X o a) (he : SV X e b) (m : M2 X o "get" apos e (.List [] lp) cpos := by exact ⟨rfl, rfl, rfl, rfl⟩) : SR X (.Call (.Attribute o "get" apos) [e, .List [] lp] [] cpos) (dGetE a b) := pew (pe_dget2 hu ho he (pe_lst pa_nil) m) fun _ _ _ h => getE_imp h
end
end Tr


set_option Elab.async false
set_option linter.all false
set_option maxRecDepth 100000
set_option maxHeartbeats 4000000
/-! D20: dicts written out; stores at places. -/
namespace Tr
open PySem PySem.Spec PyProof.Rows L2

/-! ### {"a": x, "b": y, ..} -/
def dDisp (ks : List Key) (da : DA) : DE := fun env => (da env).bind fun p => if nodupK ks = true ∧ ks.length = p.1.length ∧ ks.length ≤ 15 then some (.nd true (.dK ks) p.1, p.2) else none
def tPr (K : PySem.W.Frag) (mg : Mg) (ks : List Key) (da : DA) (σ : L2.St) (H : Hp) (Q : List (V × V) → Hp → Prop) : Prop := ∃ F env S ts env', Ok K mg F H σ env S ∧ da env = some (ts, env') ∧ ks.length = ts.length ∧
  ∀ vs F' H' S' R, Stp F H S F' H' (Cup S' R) → Ok K mg F' H' σ env' S' → Reps K mg F' H' vs ts R → Dj S' R → Q ((ks.map kV).zip vs) H'
def PD (X : Cx) (pos : Pos) (keys : List (Option Expr)) (values : List Expr) (ks : List Key) (da : DA) : Prop := ∃ trs, PPs X pos keys values trs ∧ ∀ σ H Q, tPr X.K X.mg ks da σ H Q → tPairs trs σ H Q
theorem pd_nil {X : Cx} {pos : Pos} : PD X pos [] [] [] aNil := ⟨[], pps_nil, fun σ H Q ⟨F, env, S, ts, env', ok, hd, hl, q⟩ => by
  cases hd
  exact q [] F H S Emp (Stp.refl.weak fun _ z => z.elim id fun z => z.elim) ok (.nil fun _ z => z) dj_emp⟩
theorem pd_cons {X : Cx} {pos p2 : Pos} {x : Str} {j : Nat} {v : Expr} {keys : List (Option Expr)} {values : List Expr} {ks : List Key} {d : DE} {da : DA} (hv : SE X v d) (hr : PD X pos keys values ks da) : PD X pos (some (.Constant (.str x) j p2) :: keys) (v :: values) (.inr x :: ks) (aCons d da) := by
  obtain ⟨trs, h1, h2⟩ := hr
  refine ⟨_, pps_cons (pe_str (x := x)) hv h1, fun σ H Q ⟨F, env, S, ts, env', ok, hd, hl, q⟩ => ?_⟩
  obtain ⟨t, e1, ts', g1, g2, rfl⟩ := aCons_some hd
  show tE X.K X.mg d σ H fun y H2 => tPairs trs σ H2 fun ps H3 => Q ((.str x, y) :: ps) H3
  refine ⟨F, env, S, t, e1, ok, g1, fun v F1 H1 S1 R1 st ok1 r dj => h2 _ _ _ ⟨F1, e1, S1, ts', env', ok1, g2, by simpa using hl, fun vs F2 H2 S2 R2 st2 ok2 r2 dj2 => ?_⟩⟩
  obtain ⟨k1, k2, k3⟩ := join_step st (fun x z => (r.dom x z).1) dj st2
  exact q (v :: vs) F2 H2 S2 (Cup R1 R2) k1 ok2 (.cons (r.keep st2 dj) r2 k2 fun _ => Iff.rfl) fun x a b => b.elim (k3 x a) (dj2 x a)
theorem zip_kV : ∀ (ks : List Key) (vs : List V), (ks.map kV).zip vs = (ks.zip vs).map fun kv => (kV kv.1, kv.2)
  | [], _ => by simp
  | _ :: _, [] => by simp
  | k :: ks, v :: vs => by simp only [List.map_cons, List.zip_cons_cons, zip_kV ks vs]
theorem putK_fresh {k : Key} {w : V} : ∀ {acc : List (Key × V)}, (∀ p ∈ acc, p.1 ≠ k) → putK acc k w = acc ++ [(k, w)] := fun {acc} h => by
  unfold putK
  have : (acc.any fun kv => decide (kv.1 = k)) = false := by
    rw [List.any_eq_false]
    intro p hp
    simpa using h p hp
  rw [this]; rfl
theorem mergeK_fresh : ∀ (more acc : List (Key × V)), (more.map (·.1)).Nodup → (∀ p ∈ acc, ∀ q ∈ more, p.1 ≠ q.1) → mergeK acc more = acc ++ more
  | [], acc, _, _ => by simp [mergeK]
  | kv :: more, acc, nd, h => by
    have nd' := List.nodup_cons.mp nd
    show mergeK (putK acc kv.1 kv.2) more = _
    rw [putK_fresh fun p hp => h p hp kv (List.mem_cons_self ..), mergeK_fresh more _ nd'.2, List.append_assoc]
    · rfl
    · intro p hp q hq
      rcases List.mem_append.mp hp with hp | hp
      · exact h p hp q (List.mem_cons_of_mem _ hq)
      · rw [show p = (kv.1, kv.2) by simpa using hp]
        intro e
        have e' : kv.1 = q.1 := e
        exact nd'.1 (List.mem_map.mpr ⟨q, hq, e'.symm⟩)
theorem zip_keys : ∀ (ks : List Key) (vs : List V), ks.length = vs.length → (ks.zip vs).map (·.1) = ks
  | [], [], _ => rfl
  | [], _ :: _, h => by simp at h
  | _ :: _, [], h => by simp at h
  | k :: ks, v :: vs, h => by rw [List.zip_cons_cons, List.map_cons, zip_keys ks vs (by simpa using h)]
theorem disp_imp {K : PySem.W.Frag} {mg : Mg} {ks : List Key} {da : DA} {σ : L2.St} {H : Hp} {Q : VK} {trs : List (TE × TE)} (ht : ∀ σ H Q, tPr K mg ks da σ H Q → tPairs trs σ H Q) (h : tE K mg (dDisp ks da) σ H Q) : tDisp trs σ H Q := by
  obtain ⟨F, env, S, t, e, ok, hd, q⟩ := h
  obtain ⟨⟨ts, e1⟩, h1, h2⟩ := Option.bind_eq_some_iff.mp hd
  split at h2
  · rename_i hc
    cases h2
    intro p hp
    have np : ∀ b o, H b = some o → b ≠ p := fun b o z y => by rw [y, hp] at z; cases z
    have Fp : F p = none := ok.le.nn hp
    have nS : ¬ S p := fun z => by obtain ⟨⟨o, e⟩, _⟩ := ok.st.dom p z; exact np p o e rfl
    have ok1 : Ok K mg F (upd H p (.dK [])) σ env S := ⟨fun b o z => by rw [upd_ne (np b o (ok.le b o z))]; exact ok.le b o z, ok.st.frame (Le.refl _) fun x z => ⟨by obtain ⟨⟨o, z1⟩, _⟩ := ok.st.dom x z; exact upd_ne (np x o z1), (ok.st.dom x z).2⟩⟩
    refine ht _ _ _ ⟨F, env, S, ts, e1, ok1, h1, hc.2.1, fun vs F2 H2 S2 R st ok2 r dj => ?_⟩
    have hl : ks.length = vs.length := by rw [r.length (S := Emp)]; exact hc.2.1
    have h2p : H2 p = some (.dK []) := st.kp p _ upd_same nS
    have f2p : F2 p = none := by
      cases z : F2 p with
      | none => rfl
      | some o =>
        rcases st.nf p o z with y | y | y
        · rw [Fp] at y; cases y
        · exact (nS y).elim
        · rw [upd_same] at y; cases y
    have n2 : ¬ Cup S2 R p := fun z => (st.no p z).elim nS fun y => by rw [upd_same] at y; cases y
    refine ⟨h2p, ks.zip vs, zip_kV ks vs, ?_, ?_⟩
    · rw [List.length_zip]; omega
    · rw [mergeK_fresh (ks.zip vs) [] (by rw [zip_keys ks vs hl]; exact nodupK_ok hc.1) (fun p hp => by cases hp), List.nil_append]
      have n1 : ∀ a, upd H p (.dK []) a = none → H a = none := fun a z => by
        by_cases ha : a = p
        · subst ha; exact hp
        · rwa [upd_ne ha] at z
      refine q (.ref p) F2 _ S2 (fun x => x = p ∨ R x) ⟨st.ff, fun a o z n => ?_, fun a o z => (st.nf a o z).imp id (Or.imp id (n1 a)), fun a z => ?_⟩ ⟨fun b o z => ?_, ok2.st.frame (Le.refl _) fun x z => ⟨upd_ne fun y => n2 (y ▸ .inl z), (ok2.st.dom x z).2⟩⟩ ?_ fun x a b => ?_
      · have := np a o z
        rw [upd_ne this]
        exact st.kp a o (by rw [upd_ne this]; exact z) n
      · rcases z with z | z | z
        · exact (st.no a (.inl z)).imp id (n1 a)
        · exact .inr (z ▸ hp)
        · exact (st.no a (.inr z)).imp id (n1 a)
      · have := ok2.le b o z
        rw [upd_ne fun y => by subst y; rw [f2p] at z; cases z]
        exact this
      · exact .own (o := .dK (ks.zip vs)) (vs := vs) (S0 := R) upd_same f2p ⟨hl, rfl⟩ (r.frame (Le.refl _) fun x z => ⟨upd_ne fun y => n2 (y ▸ .inr z), (r.dom x z).2⟩) (fun z => n2 (.inr z)) fun _ => Iff.rfl
      · rcases b with b | b
        · exact n2 (b ▸ .inl a)
        · exact dj x a b
  · cases h2
theorem se_disp {X : Cx} {pos : Pos} {keys : List (Option Expr)} {values : List Expr} {ks : List Key} {da : DA} (h : PD X pos keys values ks da) (hall : keys.all (·.isSome) = true := by rfl) (hl : keys.length = values.length := by rfl) (h0 : keys ≠ [] := by simp) (h15 : keys.length ≤ 15 := by decide) : SE X (.Dict keys values pos) (dDisp ks da) := by
  obtain ⟨trs, h1, h2⟩ := h
  exact pew (pe_disp h1 hall hl h0 h15) fun _ _ _ => disp_imp h2

/-! ### reversed(range(n)) -/
def dRevR (d : DE) : DI := fun env => match d env with
  | some (.lf (.int j), e) => if -(2 ^ 61) ≤ j ∧ j < 2 ^ 61 then some ((List.range j.toNat).map fun (k : Nat) => lfI (j - 1 - k), e) else none
  | _ => none
theorem si_revR {X : Cx} {tg e : Expr} {d : DE} {p pos p2 pos2 : Pos} (hg : Gl X "reversed") (hm : X.mg "reversed" = none) (hg2 : Gl X "range") (hm2 : X.mg "range" = none) (ha : SR X e d) (hs : starEach [e] X.env = (false, eval e X.env) :: starEach [] X.env := by rfl)
    (hs2 : starEach [.Call (.Name "range" p2) [e] [] pos2] X.env = [(false, eval (.Call (.Name "range" p2) [e] [] pos2) X.env)] := by rfl) : SI X tg (.Call (.Name "reversed" p) [.Call (.Name "range" p2) [e] [] pos2] [] pos) (dRevR d) :=
  piw (pi_revR hg hm (prg_1 hg2 hm2 ha hs) hs2) fun σ H R ⟨F, env, S, its, env', ok, hd, q⟩ => by
    unfold dRevR at hd
    split at hd
    · rename_i j e1 h1
      split at hd
      · rename_i hj
        cases hd
        refine ⟨F, env, S, _, _, ok, h1, fun v F1 H1 S1 R1 st ok1 r => ⟨j, by rw [r.lf_inv.1], by omega, by omega, by omega, by omega, ?_⟩⟩
        refine q _ F1 H1 S1 st ok1 fun i F2 H2 S2 st2 le => ⟨fun t h => ?_, fun h => ?_⟩
        · have hi : i < j.toNat := by
            have := (List.getElem?_eq_some_iff.mp h).1
            simpa using this
          rw [List.getElem?_map, List.getElem?_range hi] at h
          cases h
          refine ⟨by show i < (j - 0).toNat; simpa using hi, fun x H3 y => ?_⟩
          obtain ⟨e1, e2⟩ := y
          subst e1 e2
          refine ⟨F2, .refl, le, ?_⟩
          have : (0 + (((j - 0).toNat : Nat) : Int) - 1) + (i : Nat) * (-1) = j - 1 - (i : Nat) := by omega
          show Rep X.K X.mg F2 _ (.int ((0 + (((j - 0).toNat : Nat) : Int) - 1) + (i : Nat) * (-1))) (lfI (j - 1 - (i : Nat))) Emp
          rw [this]
          exact .lf rfl fun _ z => z
        · have h' : j.toNat ≤ i := by simpa using h
          show (j - 0).toNat ≤ i
          simpa using h'
      · cases hd
    · cases hd
/-! ### places in dicts -/
def idxK : List Key → Key → Option Nat
  | a :: ks, k => if a = k then some 0 else (idxK ks k).map (· + 1)
  | [], _ => none
def dpKy (da : DP) (db : DV) : DP := fun env => match da env, db env with
  | some (.nd o (.dK ks) xs, put), some (.lf w) => (keyOf w).bind fun k => (idxK ks k).bind fun j => (xs[j]?).map fun t => (t, fun t' => put (.nd o (.dK ks) (xs.set j t')))
  | _, _ => none
theorem idxK_val {k : Key} {w : V} : ∀ {ks : List Key} {vs : List V} {j : Nat}, idxK ks k = some j → vs[j]? = some w → ks.length = vs.length → valV (ks.zip vs) k = some w
  | [], _, _, h, _, _ => by simp [idxK] at h
  | a :: ks, [], _, _, h, _ => by simp at h
  | a :: ks, v :: vs, j, h, hw, hl => by
    unfold idxK at h
    split at h
    · rename_i e
      cases h
      have : v = w := by simpa using hw
      subst this
      rw [List.zip_cons_cons, valV_pos e]
    · rename_i ne
      obtain ⟨j', h1, rfl⟩ := Option.map_eq_some_iff.mp h
      rw [List.zip_cons_cons, valV_neg ne]
      exact idxK_val h1 (by simpa using hw) (by simpa using hl)
section
variable {K : PySem.W.Frag} {mg : Mg} {F H : Hp} {σ : L2.St} {env : List T} {S : AS}
theorem pky_imp {da : DP} {db : DV} {Q : VK} (h : tP K mg (dpKy da db) σ H Q) : tOp (rIxA K) (tP K mg da) (tV K mg db) σ H Q := by
  obtain ⟨F, env, S, t, put, ok, hd, q⟩ := h
  unfold dpKy at hd
  split at hd
  · rename_i o ks xs p w h1 h2
    obtain ⟨k, e0, hd⟩ := Option.bind_eq_some_iff.mp hd
    obtain ⟨j, e1, e2⟩ := Option.bind_eq_some_iff.mp hd
    obtain ⟨t', e3, e4⟩ := Option.map_eq_some_iff.mp e2
    cases e4
    refine ⟨F, env, S, _, _, ok, h1, fun v f => ⟨F, env, S, _, ok, h2, fun w' R rw' => ?_⟩⟩
    obtain ⟨a, vs, u, R', rfl, hh, g1, g2, g3, g4, g5⟩ := foc_child f e3
    obtain ⟨hl, hk⟩ := hh ok.le
    rw [rw'.lf_inv.1, keyOf_some e0]
    exact .inr (.inr (.inr ⟨a, u, rfl, idxK_val e1 g1 hl ▸ DGet.k hk, q u g5⟩))
  · cases hd
/-- the value, then the place, then the key, then the store -/
def dPutP (dp : DP) (mk : V → T → List T → Option (T × T)) (dv : DE) (dk : DV) : DS := fun env => (dv env).bind fun p => (dp p.2).bind fun u => match dk p.2 with
  | some (.lf k) => if cln p.1 = true then (mk k u.1 [p.1]).map fun r => (.nx, u.2 r.2) else none
  | _ => none
theorem putP_imp {D : Ends} {dp : DP} {mk : V → T → List T → Option (T × T)} {r : V → V → List V → Hp → VK → Prop} {dv : DE} {dk : DV} (ho : ∀ k, OpM K mg (r k) (mk k)) (h : tS K mg [] (dPutP dp mk dv dk) D σ H) :
    tE K mg dv σ H fun v H1 => tP K mg dp σ H1 fun x H2 => tV K mg dk σ H2 fun k H3 => r k x [v] H3 fun _ H4 => D.nx σ H4 := by
  obtain ⟨F, env, S, rr, env', ok, hd, q⟩ := h
  obtain ⟨⟨t, e⟩, h1, h2⟩ := Option.bind_eq_some_iff.mp hd
  obtain ⟨⟨u, put⟩, h3, h4⟩ := Option.bind_eq_some_iff.mp h2
  have hk : ∃ k, dk e = some (.lf k) ∧ cln t = true ∧ ∃ y, mk k u [t] = some y ∧ rr = .nx ∧ env' = put y.2 := by
    replace h4 : (match dk e with
      | some (.lf k) => if cln t = true then (mk k u [t]).map fun r => (Fl.nx, put r.2) else none
      | _ => none) = some (rr, env') := h4
    cases hdk : dk e with
    | none => rw [hdk] at h4; cases h4
    | some z =>
      rw [hdk] at h4
      cases z with
      | lf k =>
        replace h4 : (if cln t = true then (mk k u [t]).map fun r => (Fl.nx, put r.2) else none) = some (rr, env') := h4
        split at h4
        · rename_i hc
          obtain ⟨y, h5, h6⟩ := Option.map_eq_some_iff.mp h4
          cases h6
          exact ⟨k, rfl, hc, y, h5, rfl, rfl⟩
        · cases h4
      | no => cases h4
      | nd _ _ _ => cases h4
  obtain ⟨k, hdk, hc, ⟨res, t'⟩, hop, rfl, rfl⟩ := hk
  refine ⟨F, env, S, t, e, ok, h1, fun v F1 H1 S1 R1 st1 ok1 r1 dj1 => ⟨F1, e, S1, u, put, ok1, h3, fun x f => ⟨F1, e, S1, .lf k, ok1, hdk, fun w R2 rw' => ?_⟩⟩⟩
  obtain ⟨rfl, _, _⟩ := rw'.lf_inv
  refine foc_mut (ho w) ok1.le f (.cons (S1 := Emp) (S2 := Emp) (r1.clean0 hc) (.nil fun _ z => z) (fun _ z => z.elim) fun _ => ⟨.inl, fun z => z.elim id id⟩) hop (fun v' F' H' S' R' st ok' _ _ => ?_) ok1.st.dom
  exact q.now ((st1.weak fun x z => .inl z).trans (st.weak fun x z => .inl z)) ok' .refl
end
section
variable {X : Cx} {k value o : Expr} {pos pos' : Pos} {dv : DE} {dk : DV} {dp : DP} {a b : Expr} {da : DP} {db : DV}
theorem sp_ky (hu : X.A.units + 1 < cLine) (ha : SP X a da) (hb : SV X b db) (hs : PlainIx b := by exact fun _ _ => rfl) : SP X (.Subscript a b pos) (dpKy da db) := pew (pe_ix (ix_all hu) ha hb hs) fun _ _ _ => pky_imp
theorem ss_setLP (hv : SE X value dv) (ho : SP X o dp) (hk : SV X k dk)
    (ha : ∀ v, assign (.Subscript o k pos) X.env v = (do
      let ov ← holding [v] (eval o X.env)
      let iv ← holding [v, ov] (eval k X.env)
      standAt pos
      holding [v, ov, iv] (setItem ov iv v)
      release [v, ov, iv] []) := by intro _; rfl) (hs : swapsWithSole [.Subscript o k pos] value pos'.line X.env = pure false := by rfl) (hw : swappedStores [.Subscript o k pos] value X.env = pure none := by rfl)
    (h1 : (assignEach [.Subscript o k pos] X.env).map (·.2) = [assign (.Subscript o k pos) X.env] := by rfl) :
    SS X (.Assign [.Subscript o k pos] value pos') [] (dPutP dp mSetL dv dk) :=
  psw (ps_asg hv (pg_sub ho hk set_list ha) hs hw h1) fun D σ H h => by
    obtain ⟨F, env, S, t, e, ok, hd, q⟩ := putP_imp (r := rSetLM) (fun k => m_setL k) h
    exact ⟨F, env, S, t, e, ok, hd, fun v F' H' S' R a b c d => by
      obtain ⟨F2, en2, S2, t2, p2, ok2, hd2, q2⟩ := q v F' H' S' R a b c d
      exact ⟨F2, en2, S2, t2, p2, ok2, hd2, fun x f => by
        obtain ⟨F3, en3, S3, t3, ok3, hd3, q3⟩ := q2 x f
        exact ⟨F3, en3, S3, t3, ok3, hd3, fun w R' r' => by
          obtain ⟨v', e3, q4⟩ := q3 w R' r'
          cases e3
          exact q4⟩⟩⟩
theorem ss_setDP (hu : X.A.units + 1 < cLine) (hv : SE X value dv) (ho : SP X o dp) (hk : SV X k dk) (hs : swapsWith value (some (.Subscript o k pos)) pos'.line X.env = pure false := by rfl) :
    SS X (.Assign [.Subscript o k pos] value pos') [] (dPutP dp mSetD dv dk) :=
  psw (ps_dput hu ho hk hv hs) fun D σ H h => by
    obtain ⟨F, env, S, t, e, ok, hd, q⟩ := putP_imp (r := rSetDM) (fun k => m_setD k) h
    exact ⟨F, env, S, t, e, ok, hd, fun v F' H' S' R a b c d => by
      obtain ⟨F2, en2, S2, t2, p2, ok2, hd2, q2⟩ := q v F' H' S' R a b c d
      exact ⟨F2, en2, S2, t2, p2, ok2, hd2, fun x f => by
        obtain ⟨F3, en3, S3, t3, ok3, hd3, q3⟩ := q2 x f
        exact ⟨F3, en3, S3, t3, ok3, hd3, fun w R' r' => by
          obtain ⟨v', a', H4, e3, e4, e5, q4⟩ := q3 w R' r'
          cases e3
          exact ⟨a', H4, e4, e5, q4⟩⟩⟩⟩
end
end Tr


set_option Elab.async false
set_option linter.all false
set_option maxRecDepth 100000
set_option maxHeartbeats 4000000
/-! HD: the end of a law whose top is large: one kernel run of the top, the facts looked at in a part of the heap that is named address by address. -/
namespace Hf
open PySem PySem.Spec PyProof.Rows L2 Tr
abbrev FB : Type := PySem.W.Frag → Bool
def fo (f : He.Fa) : FB := fun K => f.ok K
def obsK (fs : List (List FB)) (fn : List He.DefD) (K : PySem.W.Frag) : He.AlD := ((fs.all fun l => l.all fun f => f K) && fn.all fun d => d.ok K, fn.map fun d => He.fnW K d.at_)
def Says (fs : List (List FB)) (fn : List He.DefD) (K : PySem.W.Frag) : Prop := obsK fs fn K = He.valD fn
def obsA (as : List Addr) (fs : List (List FB)) (fn : List He.DefD) (g : Addr → Option Obj) : He.AlD := obsK fs fn (He.frG g as)
def hook (as : List Addr) (fs : List (List FB)) (fn : List He.DefD) : PySem.W.Hook where
  α := He.AlD
  obs := fun s => obsA as fs fn s.heap.get?
  val := fun _ => He.valD fn
  says := fun _ h => ∃ K : PySem.W.Frag, K.In h ∧ Says fs fn K
  of := fun _ _ e => ⟨_, He.frG_in, e⟩
  keeps := fun _ _ _ ⟨K, hK, c⟩ k => ⟨K, PySem.W.Frag.In.keeps hK k, c⟩
theorem obsA_eq {as : List Addr} {fs : List (List FB)} {fn : List He.DefD} {g : Addr → Option Obj} {s : Shared} (h : ∀ a, g a = s.heap.get? a) : obsA as fs fn g = (hook as fs fn).obs s := by
  have e : g = s.heap.get? := funext h
  rw [e] <;> rfl
section
variable {fs : List (List FB)} {fn : List He.DefD} {K : PySem.W.Frag}
theorem Says.fact (c : Says fs fn K) (i j : Nat) {l : List FB} {f : FB} (h1 : fs[i]? = some l) (h2 : l[j]? = some f) : f K = true := by
  have c1 := (He.ba (show ((fs.all fun l => l.all fun f => f K) && fn.all fun d => d.ok K) = true from congrArg (fun z : He.AlD => z.1) c)).1
  exact List.all_eq_true.mp (List.all_eq_true.mp c1 l (List.mem_of_getElem? h1)) f (List.mem_of_getElem? h2)
theorem Says.def_ (c : Says fs fn K) (i : Nat) {d : He.DefD} (h : fn[i]? = some d) : ∃ fd, FunD K d.name d.qual d.params d.body d.scope (d.dvs K) (d.kws K) (He.fAd K d.at_) fd := by
  have c2 := (He.ba (show ((fs.all fun l => l.all fun f => f K) && fn.all fun d => d.ok K) = true from congrArg (fun z : He.AlD => z.1) c)).2
  have e : fn.map (fun d => He.fnW K d.at_) = fn.map He.DefD.val := congrArg (fun z : He.AlD => z.2) c
  have e2 : (fn.map fun d => He.fnW K d.at_)[i]? = (fn.map He.DefD.val)[i]? := by rw [e]
  rw [List.getElem?_map, List.getElem?_map, h] at e2
  exact He.DefD.funD (Option.some.inj e2) (List.all_eq_true.mp c2 d (List.mem_of_getElem? h))
end
theorem fun_of {K : PySem.W.Frag} {x qual : Str} {st : Stmt} {f : Addr} {fd : FuncData} (F : FunD K x qual (defArgs st) (defBody st) (defScope st) [] [] f fd) : Fun K x qual st f fd := by
  obtain ⟨⟨oc, od, dV, kV, doc, pm, an, cdv, ct, osl, h1, lk, hc, hd, _⟩, kp⟩ := F
  rcases hd with ⟨_, h2⟩ | ⟨h2, _⟩
  · cases h2
    exact ⟨⟨oc, od, kV, doc, pm, an, cdv, ct, osl, h1, lk, hc⟩, kp⟩
  · exact absurd rfl h2
/-- what a class finds under a name -/
def fin (x f : Str) (v : Value) : FB := fun K => He.eqO (PySem.W.findIn K (.ref (He.ga K x)) f) (some (some v))
theorem fin_ok {K : PySem.W.Frag} {x f : Str} {v : Value} (c : fin x f v K = true) : PySem.W.findIn K (.ref (He.ga K x)) f = some (some v) := He.eqO_ok c
def mk0 (x : Str) : FB := fun K => PySem.W.makesIn K (He.ga K x) && (He.eqO (PySem.W.findIn K (.ref (He.ga K x)) "__init__") (some (some (.builtin "object.__init__"))) && PySem.W.keepIn K (.ref (He.ga K x)))
theorem mk0_ok {K : PySem.W.Frag} {x : Str} (c : mk0 x K = true) : Mk0 K (He.ga K x) := by
  obtain ⟨c1, c⟩ := He.ba c
  obtain ⟨c2, c3⟩ := He.ba c
  exact ⟨c1, He.eqO_ok c2, c3⟩
def ins (x : Str) : FB := fun K => He.eqO (PySem.W.findIn K (.ref (He.ga K x)) "__class__") (some (some (.builtin "object.__class__"))) && (He.eqO (PySem.W.specialIn K (.builtin "object.__class__") "__get__") (some (some (.builtin "getset_descriptor.__get__"))) && (decide (PySem.W.takesIn K (.builtin "object.__class__") = some true) && decide (PySem.W.mroIn K (He.ga K x) (.type "object") = some true)))
theorem ins_ok {K : PySem.W.Frag} {x : Str} (k : Cls K (He.ga K x)) (c : ins x K = true) : Ins0 K (He.ga K x) := by
  obtain ⟨c1, c⟩ := He.ba c
  obtain ⟨c2, c⟩ := He.ba c
  obtain ⟨c3, c4⟩ := He.ba c
  exact ⟨k, He.eqO_ok c1, He.eqO_ok c2, of_decide_eq_true c3, of_decide_eq_true c4⟩
def kit1 (x y : Str) (b : Bool) : FB := fun K => decide (PySem.W.kitOne K (.ref (He.ga K x)) (.ref (He.ga K y)) = some b)
theorem kit1_ok {K : PySem.W.Frag} {x y : Str} {b : Bool} (c : kit1 x y b K = true) : PySem.W.kitOne K (.ref (He.ga K x)) (.ref (He.ga K y)) = some b := of_decide_eq_true c
def kitA (x : Str) (ys : List Str) (b : Bool) : FB := fun K => decide (PySem.W.kitAny K (.ref (He.ga K x)) (ys.map fun y => .ref (He.ga K y)) = some b)
theorem kitA_ok {K : PySem.W.Frag} {x : Str} {ys : List Str} {b : Bool} (c : kitA x ys b K = true) : PySem.W.kitAny K (.ref (He.ga K x)) (ys.map fun y => .ref (He.ga K y)) = some b := of_decide_eq_true c
/-- a method, wherever it is written (in the class B) -/
def metB (C m B : Str) : FB := fun K => He.eqO (PySem.W.findIn K (.ref (He.ga K C)) m) (some (some (.ref (He.ma K (He.ga K B) m)))) && (PySem.W.isFn K (.ref (He.ma K (He.ga K B) m)) && PySem.W.keepIn K (.ref (He.ma K (He.ga K B) m)))
theorem metB_ok {K : PySem.W.Frag} {C m B : Str} (c : metB C m B K = true) : Meth K (He.ga K C) m (He.ma K (He.ga K B) m) := by
  obtain ⟨c1, c⟩ := He.ba c
  obtain ⟨c2, c3⟩ := He.ba c
  exact ⟨He.eqO_ok c1, c2, c3⟩
def mkB (C B : Str) : FB := fun K => PySem.W.makesIn K (He.ga K C) && (He.eqO (PySem.W.findIn K (.ref (He.ga K C)) "__init__") (some (some (.ref (He.ma K (He.ga K B) "__init__")))) && (PySem.W.isFn K (.ref (He.ma K (He.ga K B) "__init__")) && PySem.W.keepIn K (.ref (He.ga K C))))
theorem mkB_ok {K : PySem.W.Frag} {C B : Str} (c : mkB C B K = true) : Mk K (He.ga K C) (He.ma K (He.ga K B) "__init__") := by
  obtain ⟨c1, c⟩ := He.ba c
  obtain ⟨c2, c⟩ := He.ba c
  obtain ⟨c3, c4⟩ := He.ba c
  exact ⟨c1, He.eqO_ok c2, c3, c4⟩
def tup (x : Str) (vs : List He.Dv) : FB := fun K => He.tupB K x vs
end Hf


set_option Elab.async false
set_option linter.all false
set_option maxRecDepth 100000
set_option maxHeartbeats 4000000
namespace Wk
open PySem PySem.Spec PyProof.Rows L2 Tr
/-! ### the text by places -/
def top (i : Nat) : Stmt := PySem.Challenge.pw_treesay_k11_words_of_sayings.main.body.getD i (.Pass ⟨0, 0, 0, 0⟩)
abbrev s_law_cell : Stmt := top 19
abbrev s_law_grown : Stmt := top 20
abbrev s_Double_init : Stmt := inClass (top 6) 0
abbrev s_Mark_init : Stmt := inClass (top 4) 0
abbrev s_Single_init : Stmt := inClass (top 5) 0
abbrev s_law_single : Stmt := top 22
abbrev s_law_made : Stmt := top 21
abbrev s_law_due : Stmt := top 24
abbrev s_Saying_inside : Stmt := inClass (top 2) 1
abbrev s_Double_inside : Stmt := inClass (top 6) 1
abbrev s_Single_inside : Stmt := inClass (top 5) 1
abbrev s_All_word : Stmt := inClass (top 3) 0
abbrev s_Both_word : Stmt := inClass (top 8) 0
abbrev s_EachAlways_word : Stmt := inClass (top 15) 0
abbrev s_EachEver_word : Stmt := inClass (top 17) 0
abbrev s_EachNext_word : Stmt := inClass (top 11) 0
abbrev s_EachTill_word : Stmt := inClass (top 13) 0
abbrev s_Either_word : Stmt := inClass (top 9) 0
abbrev s_Mark_word : Stmt := inClass (top 4) 1
abbrev s_Not_word : Stmt := inClass (top 7) 0
abbrev s_SomeAlways_word : Stmt := inClass (top 14) 0
abbrev s_SomeEver_word : Stmt := inClass (top 16) 0
abbrev s_SomeNext_word : Stmt := inClass (top 10) 0
abbrev s_SomeTill_word : Stmt := inClass (top 12) 0
abbrev s_Saying_words : Stmt := inClass (top 2) 2
abbrev s_law_texts : Stmt := top 25
abbrev s_law_name : Stmt := top 23
abbrev s_law : Stmt := top 26
/-! ### the mirrors -/
def oA_left : T → Option T := oOr (oFld "Both" "left") (oOr (oFld "EachTill" "left") (oOr (oFld "Either" "left") (oFld "SomeTill" "left")))
def oA_part : T → Option T := oOr (oFld "EachAlways" "part") (oOr (oFld "EachEver" "part") (oOr (oFld "EachNext" "part") (oOr (oFld "Not" "part") (oOr (oFld "SomeAlways" "part") (oOr (oFld "SomeEver" "part") (oFld "SomeNext" "part"))))))
def oA_right : T → Option T := oOr (oFld "Both" "right") (oOr (oFld "EachTill" "right") (oOr (oFld "Either" "right") (oFld "SomeTill" "right")))
def mA_Double_init_left : T → List T → Option (T × T) := mOr (mFld "Both" "left") (mOr (mFld "EachTill" "left") (mOr (mFld "Either" "left") (mFld "SomeTill" "left")))
def mA_Double_init_right : T → List T → Option (T × T) := mOr (mFld "Both" "right") (mOr (mFld "EachTill" "right") (mOr (mFld "Either" "right") (mFld "SomeTill" "right")))
def mA_Single_init_part : T → List T → Option (T × T) := mOr (mFld "EachAlways" "part") (mOr (mFld "EachEver" "part") (mOr (mFld "EachNext" "part") (mOr (mFld "Not" "part") (mOr (mFld "SomeAlways" "part") (mOr (mFld "SomeEver" "part") (mFld "SomeNext" "part"))))))
def iC_Saying : T → Option T := oOr (oIs1 "All" true) (oOr (oIs1 "Both" true) (oOr (oIs1 "EachAlways" true) (oOr (oIs1 "EachEver" true) (oOr (oIs1 "EachNext" true) (oOr (oIs1 "EachTill" true) (oOr (oIs1 "Either" true) (oOr (oIs1 "Mark" true) (oOr (oIs1 "Not" true) (oOr (oIs1 "SomeAlways" true) (oOr (oIs1 "SomeEver" true) (oOr (oIs1 "SomeNext" true) (oIs1 "SomeTill" true))))))))))))
def b_law_cell : DS := (dSeq (dIf (vr (o2V oEq (o1V oLen (gV 0)) (gC (.int 0)))) (dRet (re (vr (gC (.int 0))))) dNx) (dRet (dMut "list" 0 mPop aNil)))
def m_law_cell : FT := dFun [true] 1 b_law_cell
theorem bn_law_cell : b_law_cell = (dSeq (dIf (vr (o2V oEq (o1V oLen (gV 0)) (gC (.int 0)))) (dRet (re (vr (gC (.int 0))))) dNx) (dRet (dMut "list" 0 mPop aNil))) := rfl
abbrev e_law_cell (v0_rest : T) : List T := [v0_rest]
def b_law_grown (mr : FT) : DS := (dSeq (dSet 3 (dCall m_law_cell [some 0] [] (aCons (gM 0) aNil))) (dSeq (dSet 4 (re (vr (o2V oMod (gV 3) (gC (.int 16)))))) (dSeq (dIf (dOr (vr (o2V oEq (gV 2) (gC (.int 0)))) (vr (o2V oLt (gV 4) (gC (.int 5))))) (dSeq (dIf (dOr (vr (o2V oEq (gV 4) (gC (.int 0)))) (vr (o2V oEq (o1V oLen (gV 1)) (gC (.int 0))))) (dRet (dTup (aCons (re (vr (gC (.str "all")))) aNil))) dNx) (dRet (dTup (aCons (re (vr (gC (.str "mark")))) (aCons (fz 1 (re (vr (o2V oIx (gV 1) (o2V oMod (o2V oDiv (gV 3) (gC (.int 16))) (o1V oLen (gV 1))))))) aNil))))) dNx) (dSeq (dIf (vr (o2V oLt (gV 4) (gC (.int 11)))) (dSeq (dSet 5 (o2v oIx (dLst (aCons (re (vr (gC (.str "not")))) (aCons (re (vr (gC (.str "somenext")))) (aCons (re (vr (gC (.str "eachnext")))) (aCons (re (vr (gC (.str "somealways")))) (aCons (re (vr (gC (.str "eachalways")))) (aCons (re (vr (gC (.str "someever")))) (aCons (re (vr (gC (.str "eachever")))) aNil)))))))) (o2V oMod (o2V oDiv (gV 3) (gC (.int 16))) (gC (.int 7))))) (dRet (dTup (aCons (gM 5) (aCons (dCall mr [some 0, none, none] [] (aCons (gM 0) (aCons (gM 1) (aCons (re (vr (o2V oSub (gV 2) (gC (.int 1))))) aNil)))) aNil))))) dNx) (dSeq (dSet 5 (o2v oIx (dLst (aCons (re (vr (gC (.str "both")))) (aCons (re (vr (gC (.str "either")))) (aCons (re (vr (gC (.str "sometill")))) (aCons (re (vr (gC (.str "eachtill")))) aNil))))) (o2V oMod (o2V oDiv (gV 3) (gC (.int 16))) (gC (.int 4))))) (dSeq (dSet 6 (dCall mr [some 0, none, none] [] (aCons (gM 0) (aCons (gS 1) (aCons (re (vr (o2V oSub (gV 2) (gC (.int 1))))) aNil))))) (dRet (dTup (aCons (gM 5) (aCons (gM 6) (aCons (dCall mr [some 0, none, none] [] (aCons (gM 0) (aCons (gM 1) (aCons (re (vr (o2V oSub (gV 2) (gC (.int 1))))) aNil)))) aNil)))))))))))
def m_law_grown : Nat → FT := dRec [true, true, true] 7 b_law_grown
theorem ms_law_grown (k : Nat) : m_law_grown (k + 1) = dFun [true, true, true] 7 (b_law_grown (m_law_grown k)) := rfl
theorem bn_law_grown (mr : FT) : b_law_grown mr = (dSeq (dSet 3 (dCall m_law_cell [some 0] [] (aCons (gM 0) aNil))) (dSeq (dSet 4 (re (vr (o2V oMod (gV 3) (gC (.int 16)))))) (dSeq (dIf (dOr (vr (o2V oEq (gV 2) (gC (.int 0)))) (vr (o2V oLt (gV 4) (gC (.int 5))))) (dSeq (dIf (dOr (vr (o2V oEq (gV 4) (gC (.int 0)))) (vr (o2V oEq (o1V oLen (gV 1)) (gC (.int 0))))) (dRet (dTup (aCons (re (vr (gC (.str "all")))) aNil))) dNx) (dRet (dTup (aCons (re (vr (gC (.str "mark")))) (aCons (fz 1 (re (vr (o2V oIx (gV 1) (o2V oMod (o2V oDiv (gV 3) (gC (.int 16))) (o1V oLen (gV 1))))))) aNil))))) dNx) (dSeq (dIf (vr (o2V oLt (gV 4) (gC (.int 11)))) (dSeq (dSet 5 (o2v oIx (dLst (aCons (re (vr (gC (.str "not")))) (aCons (re (vr (gC (.str "somenext")))) (aCons (re (vr (gC (.str "eachnext")))) (aCons (re (vr (gC (.str "somealways")))) (aCons (re (vr (gC (.str "eachalways")))) (aCons (re (vr (gC (.str "someever")))) (aCons (re (vr (gC (.str "eachever")))) aNil)))))))) (o2V oMod (o2V oDiv (gV 3) (gC (.int 16))) (gC (.int 7))))) (dRet (dTup (aCons (gM 5) (aCons (dCall mr [some 0, none, none] [] (aCons (gM 0) (aCons (gM 1) (aCons (re (vr (o2V oSub (gV 2) (gC (.int 1))))) aNil)))) aNil))))) dNx) (dSeq (dSet 5 (o2v oIx (dLst (aCons (re (vr (gC (.str "both")))) (aCons (re (vr (gC (.str "either")))) (aCons (re (vr (gC (.str "sometill")))) (aCons (re (vr (gC (.str "eachtill")))) aNil))))) (o2V oMod (o2V oDiv (gV 3) (gC (.int 16))) (gC (.int 4))))) (dSeq (dSet 6 (dCall mr [some 0, none, none] [] (aCons (gM 0) (aCons (gS 1) (aCons (re (vr (o2V oSub (gV 2) (gC (.int 1))))) aNil))))) (dRet (dTup (aCons (gM 5) (aCons (gM 6) (aCons (dCall mr [some 0, none, none] [] (aCons (gM 0) (aCons (gM 1) (aCons (re (vr (o2V oSub (gV 2) (gC (.int 1))))) aNil)))) aNil))))))))))) := rfl
abbrev e_law_grown (v0_rest v1_names v2_deep v3_cell_here v4_way v5_word v6_left : T) : List T := [v0_rest, v1_names, v2_deep, v3_cell_here, v4_way, v5_word, v6_left]
def b_Double_init : DS := (dSeq (dPut 0 (fun _ => mA_Double_init_left) (gM 1) (gC .non)) (dPut 0 (fun _ => mA_Double_init_right) (gM 2) (gC .non)))
def m_Double_init : FT := dFun [true, true, true] 3 b_Double_init
theorem bn_Double_init : b_Double_init = (dSeq (dPut 0 (fun _ => mA_Double_init_left) (gM 1) (gC .non)) (dPut 0 (fun _ => mA_Double_init_right) (gM 2) (gC .non))) := rfl
abbrev e_Double_init (v0_self v1_left v2_right : T) : List T := [v0_self, v1_left, v2_right]
def b_Mark_init : DS := (dPut 0 (fun _ => mFld "Mark" "name") (gM 1) (gC .non))
def m_Mark_init : FT := dFun [true, true] 2 b_Mark_init
theorem bn_Mark_init : b_Mark_init = (dPut 0 (fun _ => mFld "Mark" "name") (gM 1) (gC .non)) := rfl
abbrev e_Mark_init (v0_self v1_name : T) : List T := [v0_self, v1_name]
def b_Single_init : DS := (dPut 0 (fun _ => mA_Single_init_part) (gM 1) (gC .non))
def m_Single_init : FT := dFun [true, true] 2 b_Single_init
theorem bn_Single_init : b_Single_init = (dPut 0 (fun _ => mA_Single_init_part) (gM 1) (gC .non)) := rfl
abbrev e_Single_init (v0_self v1_part : T) : List T := [v0_self, v1_part]
def b_law_single : DS := (dSeq (dIf (vr (o2V oEq (gV 0) (gC (.str "not")))) (dRet (dMake "Not" m_Single_init [none] [] (aCons (gM 1) aNil))) dNx) (dSeq (dIf (vr (o2V oEq (gV 0) (gC (.str "somenext")))) (dRet (dMake "SomeNext" m_Single_init [none] [] (aCons (gM 1) aNil))) dNx) (dSeq (dIf (vr (o2V oEq (gV 0) (gC (.str "eachnext")))) (dRet (dMake "EachNext" m_Single_init [none] [] (aCons (gM 1) aNil))) dNx) (dSeq (dIf (vr (o2V oEq (gV 0) (gC (.str "somealways")))) (dRet (dMake "SomeAlways" m_Single_init [none] [] (aCons (gM 1) aNil))) dNx) (dSeq (dIf (vr (o2V oEq (gV 0) (gC (.str "eachalways")))) (dRet (dMake "EachAlways" m_Single_init [none] [] (aCons (gM 1) aNil))) dNx) (dSeq (dIf (vr (o2V oEq (gV 0) (gC (.str "someever")))) (dRet (dMake "SomeEver" m_Single_init [none] [] (aCons (gM 1) aNil))) dNx) (dRet (dMake "EachEver" m_Single_init [none] [] (aCons (gM 1) aNil)))))))))
def m_law_single : FT := dFun [true, true] 2 b_law_single
theorem bn_law_single : b_law_single = (dSeq (dIf (vr (o2V oEq (gV 0) (gC (.str "not")))) (dRet (dMake "Not" m_Single_init [none] [] (aCons (gM 1) aNil))) dNx) (dSeq (dIf (vr (o2V oEq (gV 0) (gC (.str "somenext")))) (dRet (dMake "SomeNext" m_Single_init [none] [] (aCons (gM 1) aNil))) dNx) (dSeq (dIf (vr (o2V oEq (gV 0) (gC (.str "eachnext")))) (dRet (dMake "EachNext" m_Single_init [none] [] (aCons (gM 1) aNil))) dNx) (dSeq (dIf (vr (o2V oEq (gV 0) (gC (.str "somealways")))) (dRet (dMake "SomeAlways" m_Single_init [none] [] (aCons (gM 1) aNil))) dNx) (dSeq (dIf (vr (o2V oEq (gV 0) (gC (.str "eachalways")))) (dRet (dMake "EachAlways" m_Single_init [none] [] (aCons (gM 1) aNil))) dNx) (dSeq (dIf (vr (o2V oEq (gV 0) (gC (.str "someever")))) (dRet (dMake "SomeEver" m_Single_init [none] [] (aCons (gM 1) aNil))) dNx) (dRet (dMake "EachEver" m_Single_init [none] [] (aCons (gM 1) aNil))))))))) := rfl
abbrev e_law_single (v0_word v1_part : T) : List T := [v0_word, v1_part]
def b_law_made (mr : FT) : DS := (dSeq (dIf (vr (o2V oEq (o2V oIx (gV 0) (gC (.int 0))) (gC (.str "all")))) (dRet (dNew "All")) dNx) (dSeq (dIf (vr (o2V oEq (o2V oIx (gV 0) (gC (.int 0))) (gC (.str "mark")))) (dRet (dMake "Mark" m_Mark_init [none] [] (aCons (fz 0 (re (vr (o2V oIx (gV 0) (gC (.int 1)))))) aNil))) dNx) (dSeq (dSet 1 (dLc (dIt itemsT (dSl oSlT (vr (gV 0)) (some (gC (.int 1))) none)) (gN 2) dYes (dCall mr [none] [] (aCons (gM 2) aNil)) [2])) (dSeq (dIf (dAnd (vr (o2V oEq (o1V oLen (gV 0)) (gC (.int 3)))) (vr (o2V oEq (o2V oIx (gV 0) (gC (.int 1))) (o2V oIx (gV 0) (gC (.int 2)))))) (dPut 1 mSetL (fzk 1 (re (vr (o2V oIx (gV 1) (gC (.int 0)))))) (gC (.int 1))) dNx) (dSeq (dIf (vr (o2V oEq (o1V oLen (gV 0)) (gC (.int 2)))) (dRet (dCall m_law_single [none, none] [] (aCons (fz 0 (re (vr (o2V oIx (gV 0) (gC (.int 0)))))) (aCons (fz 1 (re (vr (o2V oIx (gV 1) (gC (.int 0)))))) aNil)))) dNx) (dSeq (dIf (vr (o2V oEq (o2V oIx (gV 0) (gC (.int 0))) (gC (.str "both")))) (dRet (dMake "Both" m_Double_init [none, none] [] (aCons (fz 1 (re (vr (o2V oIx (gV 1) (gC (.int 0)))))) (aCons (fz 1 (re (vr (o2V oIx (gV 1) (gC (.int 1)))))) aNil)))) dNx) (dSeq (dIf (vr (o2V oEq (o2V oIx (gV 0) (gC (.int 0))) (gC (.str "either")))) (dRet (dMake "Either" m_Double_init [none, none] [] (aCons (fz 1 (re (vr (o2V oIx (gV 1) (gC (.int 0)))))) (aCons (fz 1 (re (vr (o2V oIx (gV 1) (gC (.int 1)))))) aNil)))) dNx) (dSeq (dIf (vr (o2V oEq (o2V oIx (gV 0) (gC (.int 0))) (gC (.str "sometill")))) (dRet (dMake "SomeTill" m_Double_init [none, none] [] (aCons (fz 1 (re (vr (o2V oIx (gV 1) (gC (.int 0)))))) (aCons (fz 1 (re (vr (o2V oIx (gV 1) (gC (.int 1)))))) aNil)))) dNx) (dRet (dMake "EachTill" m_Double_init [none, none] [] (aCons (fz 1 (re (vr (o2V oIx (gV 1) (gC (.int 0)))))) (aCons (fz 1 (re (vr (o2V oIx (gV 1) (gC (.int 1)))))) aNil))))))))))))
def m_law_made : Nat → FT := dRec [true] 3 b_law_made
theorem ms_law_made (k : Nat) : m_law_made (k + 1) = dFun [true] 3 (b_law_made (m_law_made k)) := rfl
def x_law_made_1 (mr : FT) : DE := (dCall mr [none] [] (aCons (gM 2) aNil))
theorem bn_law_made (mr : FT) : b_law_made mr = (dSeq (dIf (vr (o2V oEq (o2V oIx (gV 0) (gC (.int 0))) (gC (.str "all")))) (dRet (dNew "All")) dNx) (dSeq (dIf (vr (o2V oEq (o2V oIx (gV 0) (gC (.int 0))) (gC (.str "mark")))) (dRet (dMake "Mark" m_Mark_init [none] [] (aCons (fz 0 (re (vr (o2V oIx (gV 0) (gC (.int 1)))))) aNil))) dNx) (dSeq (dSet 1 (dLc (dIt itemsT (dSl oSlT (vr (gV 0)) (some (gC (.int 1))) none)) (gN 2) dYes (x_law_made_1 mr) [2])) (dSeq (dIf (dAnd (vr (o2V oEq (o1V oLen (gV 0)) (gC (.int 3)))) (vr (o2V oEq (o2V oIx (gV 0) (gC (.int 1))) (o2V oIx (gV 0) (gC (.int 2)))))) (dPut 1 mSetL (fzk 1 (re (vr (o2V oIx (gV 1) (gC (.int 0)))))) (gC (.int 1))) dNx) (dSeq (dIf (vr (o2V oEq (o1V oLen (gV 0)) (gC (.int 2)))) (dRet (dCall m_law_single [none, none] [] (aCons (fz 0 (re (vr (o2V oIx (gV 0) (gC (.int 0)))))) (aCons (fz 1 (re (vr (o2V oIx (gV 1) (gC (.int 0)))))) aNil)))) dNx) (dSeq (dIf (vr (o2V oEq (o2V oIx (gV 0) (gC (.int 0))) (gC (.str "both")))) (dRet (dMake "Both" m_Double_init [none, none] [] (aCons (fz 1 (re (vr (o2V oIx (gV 1) (gC (.int 0)))))) (aCons (fz 1 (re (vr (o2V oIx (gV 1) (gC (.int 1)))))) aNil)))) dNx) (dSeq (dIf (vr (o2V oEq (o2V oIx (gV 0) (gC (.int 0))) (gC (.str "either")))) (dRet (dMake "Either" m_Double_init [none, none] [] (aCons (fz 1 (re (vr (o2V oIx (gV 1) (gC (.int 0)))))) (aCons (fz 1 (re (vr (o2V oIx (gV 1) (gC (.int 1)))))) aNil)))) dNx) (dSeq (dIf (vr (o2V oEq (o2V oIx (gV 0) (gC (.int 0))) (gC (.str "sometill")))) (dRet (dMake "SomeTill" m_Double_init [none, none] [] (aCons (fz 1 (re (vr (o2V oIx (gV 1) (gC (.int 0)))))) (aCons (fz 1 (re (vr (o2V oIx (gV 1) (gC (.int 1)))))) aNil)))) dNx) (dRet (dMake "EachTill" m_Double_init [none, none] [] (aCons (fz 1 (re (vr (o2V oIx (gV 1) (gC (.int 0)))))) (aCons (fz 1 (re (vr (o2V oIx (gV 1) (gC (.int 1)))))) aNil)))))))))))) := rfl
abbrev e_law_made (v0_tree v1_parts v2_part : T) : List T := [v0_tree, v1_parts, v2_part]
def b_law_due (mr : FT) : DS := (dSeq (dIf (vr (o2V oEq (o2V oIx (gV 0) (gC (.int 0))) (gC (.str "mark")))) (dRet (dLst (aCons (fz 0 (re (vr (o2V oIx (gV 0) (gC (.int 1)))))) aNil))) dNx) (dSeq (dSet 1 (dLst (aCons (fz 0 (re (vr (o2V oIx (gV 0) (gC (.int 0)))))) aNil))) (dSeq (dFor (dIt itemsT (dSl oSlT (vr (gV 0)) (some (gC (.int 1))) none)) (gN 2) (dSet 1 (o2n oCat 1 (dCall mr [none] [] (aCons (gM 2) aNil))))) (dRet (gM 1)))))
def m_law_due : Nat → FT := dRec [true] 3 b_law_due
theorem ms_law_due (k : Nat) : m_law_due (k + 1) = dFun [true] 3 (b_law_due (m_law_due k)) := rfl
def l_law_due_1 (mr : FT) : DS := (dSet 1 (o2n oCat 1 (dCall mr [none] [] (aCons (gM 2) aNil))))
theorem bn_law_due (mr : FT) : b_law_due mr = (dSeq (dIf (vr (o2V oEq (o2V oIx (gV 0) (gC (.int 0))) (gC (.str "mark")))) (dRet (dLst (aCons (fz 0 (re (vr (o2V oIx (gV 0) (gC (.int 1)))))) aNil))) dNx) (dSeq (dSet 1 (dLst (aCons (fz 0 (re (vr (o2V oIx (gV 0) (gC (.int 0)))))) aNil))) (dSeq (dFor (dIt itemsT (dSl oSlT (vr (gV 0)) (some (gC (.int 1))) none)) (gN 2) (l_law_due_1 mr)) (dRet (gM 1))))) := rfl
abbrev e_law_due (v0_tree v1_found v2_part : T) : List T := [v0_tree, v1_found, v2_part]
def b_Saying_inside : DS := (dRet (dLst aNil))
def m_Saying_inside : FT := dFun [true] 1 b_Saying_inside
theorem bn_Saying_inside : b_Saying_inside = (dRet (dLst aNil)) := rfl
abbrev e_Saying_inside (v0_self : T) : List T := [v0_self]
def b_Double_inside : DS := (dRet (dLst (aCons (fz 0 (re (vr (o1V oA_left (gV 0))))) (aCons (fz 0 (re (vr (o1V oA_right (gV 0))))) aNil))))
def m_Double_inside : FT := dFun [true] 1 b_Double_inside
theorem bn_Double_inside : b_Double_inside = (dRet (dLst (aCons (fz 0 (re (vr (o1V oA_left (gV 0))))) (aCons (fz 0 (re (vr (o1V oA_right (gV 0))))) aNil)))) := rfl
abbrev e_Double_inside (v0_self : T) : List T := [v0_self]
def b_Single_inside : DS := (dRet (dLst (aCons (fz 0 (re (vr (o1V oA_part (gV 0))))) aNil)))
def m_Single_inside : FT := dFun [true] 1 b_Single_inside
theorem bn_Single_inside : b_Single_inside = (dRet (dLst (aCons (fz 0 (re (vr (o1V oA_part (gV 0))))) aNil))) := rfl
abbrev e_Single_inside (v0_self : T) : List T := [v0_self]
def b_All_word : DS := (dRet (re (vr (gC (.str "all")))))
def m_All_word : FT := dFun [true] 1 b_All_word
theorem bn_All_word : b_All_word = (dRet (re (vr (gC (.str "all"))))) := rfl
abbrev e_All_word (v0_self : T) : List T := [v0_self]
def b_Both_word : DS := (dRet (re (vr (gC (.str "both")))))
def m_Both_word : FT := dFun [true] 1 b_Both_word
theorem bn_Both_word : b_Both_word = (dRet (re (vr (gC (.str "both"))))) := rfl
abbrev e_Both_word (v0_self : T) : List T := [v0_self]
def b_EachAlways_word : DS := (dRet (re (vr (gC (.str "eachalways")))))
def m_EachAlways_word : FT := dFun [true] 1 b_EachAlways_word
theorem bn_EachAlways_word : b_EachAlways_word = (dRet (re (vr (gC (.str "eachalways"))))) := rfl
abbrev e_EachAlways_word (v0_self : T) : List T := [v0_self]
def b_EachEver_word : DS := (dRet (re (vr (gC (.str "eachever")))))
def m_EachEver_word : FT := dFun [true] 1 b_EachEver_word
theorem bn_EachEver_word : b_EachEver_word = (dRet (re (vr (gC (.str "eachever"))))) := rfl
abbrev e_EachEver_word (v0_self : T) : List T := [v0_self]
def b_EachNext_word : DS := (dRet (re (vr (gC (.str "eachnext")))))
def m_EachNext_word : FT := dFun [true] 1 b_EachNext_word
theorem bn_EachNext_word : b_EachNext_word = (dRet (re (vr (gC (.str "eachnext"))))) := rfl
abbrev e_EachNext_word (v0_self : T) : List T := [v0_self]
def b_EachTill_word : DS := (dRet (re (vr (gC (.str "eachtill")))))
def m_EachTill_word : FT := dFun [true] 1 b_EachTill_word
theorem bn_EachTill_word : b_EachTill_word = (dRet (re (vr (gC (.str "eachtill"))))) := rfl
abbrev e_EachTill_word (v0_self : T) : List T := [v0_self]
def b_Either_word : DS := (dRet (re (vr (gC (.str "either")))))
def m_Either_word : FT := dFun [true] 1 b_Either_word
theorem bn_Either_word : b_Either_word = (dRet (re (vr (gC (.str "either"))))) := rfl
abbrev e_Either_word (v0_self : T) : List T := [v0_self]
def b_Mark_word : DS := (dRet (fz 0 (re (vr (o1V (oFld "Mark" "name") (gV 0))))))
def m_Mark_word : FT := dFun [true] 1 b_Mark_word
theorem bn_Mark_word : b_Mark_word = (dRet (fz 0 (re (vr (o1V (oFld "Mark" "name") (gV 0)))))) := rfl
abbrev e_Mark_word (v0_self : T) : List T := [v0_self]
def b_Not_word : DS := (dRet (re (vr (gC (.str "not")))))
def m_Not_word : FT := dFun [true] 1 b_Not_word
theorem bn_Not_word : b_Not_word = (dRet (re (vr (gC (.str "not"))))) := rfl
abbrev e_Not_word (v0_self : T) : List T := [v0_self]
def b_SomeAlways_word : DS := (dRet (re (vr (gC (.str "somealways")))))
def m_SomeAlways_word : FT := dFun [true] 1 b_SomeAlways_word
theorem bn_SomeAlways_word : b_SomeAlways_word = (dRet (re (vr (gC (.str "somealways"))))) := rfl
abbrev e_SomeAlways_word (v0_self : T) : List T := [v0_self]
def b_SomeEver_word : DS := (dRet (re (vr (gC (.str "someever")))))
def m_SomeEver_word : FT := dFun [true] 1 b_SomeEver_word
theorem bn_SomeEver_word : b_SomeEver_word = (dRet (re (vr (gC (.str "someever"))))) := rfl
abbrev e_SomeEver_word (v0_self : T) : List T := [v0_self]
def b_SomeNext_word : DS := (dRet (re (vr (gC (.str "somenext")))))
def m_SomeNext_word : FT := dFun [true] 1 b_SomeNext_word
theorem bn_SomeNext_word : b_SomeNext_word = (dRet (re (vr (gC (.str "somenext"))))) := rfl
abbrev e_SomeNext_word (v0_self : T) : List T := [v0_self]
def b_SomeTill_word : DS := (dRet (re (vr (gC (.str "sometill")))))
def m_SomeTill_word : FT := dFun [true] 1 b_SomeTill_word
theorem bn_SomeTill_word : b_SomeTill_word = (dRet (re (vr (gC (.str "sometill"))))) := rfl
abbrev e_SomeTill_word (v0_self : T) : List T := [v0_self]
def b_Saying_words (mr : FT) : DS := (dSeq (dSet 1 (dLst (aCons (elsE (dMeth "All" "word" m_All_word none [] [] (gS 0) aNil) (elsE (dMeth "Both" "word" m_Both_word none [] [] (gS 0) aNil) (elsE (dMeth "EachAlways" "word" m_EachAlways_word none [] [] (gS 0) aNil) (elsE (dMeth "EachEver" "word" m_EachEver_word none [] [] (gS 0) aNil) (elsE (dMeth "EachNext" "word" m_EachNext_word none [] [] (gS 0) aNil) (elsE (dMeth "EachTill" "word" m_EachTill_word none [] [] (gS 0) aNil) (elsE (dMeth "Either" "word" m_Either_word none [] [] (gS 0) aNil) (elsE (dMeth "Mark" "word" m_Mark_word none [] [] (gS 0) aNil) (elsE (dMeth "Not" "word" m_Not_word none [] [] (gS 0) aNil) (elsE (dMeth "SomeAlways" "word" m_SomeAlways_word none [] [] (gS 0) aNil) (elsE (dMeth "SomeEver" "word" m_SomeEver_word none [] [] (gS 0) aNil) (elsE (dMeth "SomeNext" "word" m_SomeNext_word none [] [] (gS 0) aNil) (dMeth "SomeTill" "word" m_SomeTill_word none [] [] (gS 0) aNil))))))))))))) aNil))) (dSeq (dFor (dIt itemsL (elsE (dMeth "All" "inside" m_Saying_inside none [] [] (gM 0) aNil) (elsE (dMeth "Both" "inside" m_Double_inside none [] [] (gM 0) aNil) (elsE (dMeth "EachAlways" "inside" m_Single_inside none [] [] (gM 0) aNil) (elsE (dMeth "EachEver" "inside" m_Single_inside none [] [] (gM 0) aNil) (elsE (dMeth "EachNext" "inside" m_Single_inside none [] [] (gM 0) aNil) (elsE (dMeth "EachTill" "inside" m_Double_inside none [] [] (gM 0) aNil) (elsE (dMeth "Either" "inside" m_Double_inside none [] [] (gM 0) aNil) (elsE (dMeth "Mark" "inside" m_Saying_inside none [] [] (gM 0) aNil) (elsE (dMeth "Not" "inside" m_Single_inside none [] [] (gM 0) aNil) (elsE (dMeth "SomeAlways" "inside" m_Single_inside none [] [] (gM 0) aNil) (elsE (dMeth "SomeEver" "inside" m_Single_inside none [] [] (gM 0) aNil) (elsE (dMeth "SomeNext" "inside" m_Single_inside none [] [] (gM 0) aNil) (dMeth "SomeTill" "inside" m_Double_inside none [] [] (gM 0) aNil)))))))))))))) (gN 2) (dEx (dMut "list" 1 mExtend (aCons (elsE (dMeth "All" "words" mr none [] [] (gM 2) aNil) (elsE (dMeth "Both" "words" mr none [] [] (gM 2) aNil) (elsE (dMeth "EachAlways" "words" mr none [] [] (gM 2) aNil) (elsE (dMeth "EachEver" "words" mr none [] [] (gM 2) aNil) (elsE (dMeth "EachNext" "words" mr none [] [] (gM 2) aNil) (elsE (dMeth "EachTill" "words" mr none [] [] (gM 2) aNil) (elsE (dMeth "Either" "words" mr none [] [] (gM 2) aNil) (elsE (dMeth "Mark" "words" mr none [] [] (gM 2) aNil) (elsE (dMeth "Not" "words" mr none [] [] (gM 2) aNil) (elsE (dMeth "SomeAlways" "words" mr none [] [] (gM 2) aNil) (elsE (dMeth "SomeEver" "words" mr none [] [] (gM 2) aNil) (elsE (dMeth "SomeNext" "words" mr none [] [] (gM 2) aNil) (dMeth "SomeTill" "words" mr none [] [] (gM 2) aNil))))))))))))) aNil)))) (dRet (gM 1))))
def m_Saying_words : Nat → FT := dRec [true] 3 b_Saying_words
theorem ms_Saying_words (k : Nat) : m_Saying_words (k + 1) = dFun [true] 3 (b_Saying_words (m_Saying_words k)) := rfl
def d_Saying_words_1 (mr : FT) : DE := (elsE (dMeth "All" "word" m_All_word none [] [] (gS 0) aNil) (elsE (dMeth "Both" "word" m_Both_word none [] [] (gS 0) aNil) (elsE (dMeth "EachAlways" "word" m_EachAlways_word none [] [] (gS 0) aNil) (elsE (dMeth "EachEver" "word" m_EachEver_word none [] [] (gS 0) aNil) (elsE (dMeth "EachNext" "word" m_EachNext_word none [] [] (gS 0) aNil) (elsE (dMeth "EachTill" "word" m_EachTill_word none [] [] (gS 0) aNil) (elsE (dMeth "Either" "word" m_Either_word none [] [] (gS 0) aNil) (elsE (dMeth "Mark" "word" m_Mark_word none [] [] (gS 0) aNil) (elsE (dMeth "Not" "word" m_Not_word none [] [] (gS 0) aNil) (elsE (dMeth "SomeAlways" "word" m_SomeAlways_word none [] [] (gS 0) aNil) (elsE (dMeth "SomeEver" "word" m_SomeEver_word none [] [] (gS 0) aNil) (elsE (dMeth "SomeNext" "word" m_SomeNext_word none [] [] (gS 0) aNil) (dMeth "SomeTill" "word" m_SomeTill_word none [] [] (gS 0) aNil)))))))))))))
def d_Saying_words_2 (mr : FT) : DE := (elsE (dMeth "All" "words" mr none [] [] (gM 2) aNil) (elsE (dMeth "Both" "words" mr none [] [] (gM 2) aNil) (elsE (dMeth "EachAlways" "words" mr none [] [] (gM 2) aNil) (elsE (dMeth "EachEver" "words" mr none [] [] (gM 2) aNil) (elsE (dMeth "EachNext" "words" mr none [] [] (gM 2) aNil) (elsE (dMeth "EachTill" "words" mr none [] [] (gM 2) aNil) (elsE (dMeth "Either" "words" mr none [] [] (gM 2) aNil) (elsE (dMeth "Mark" "words" mr none [] [] (gM 2) aNil) (elsE (dMeth "Not" "words" mr none [] [] (gM 2) aNil) (elsE (dMeth "SomeAlways" "words" mr none [] [] (gM 2) aNil) (elsE (dMeth "SomeEver" "words" mr none [] [] (gM 2) aNil) (elsE (dMeth "SomeNext" "words" mr none [] [] (gM 2) aNil) (dMeth "SomeTill" "words" mr none [] [] (gM 2) aNil)))))))))))))
def l_Saying_words_1 (mr : FT) : DS := (dEx (dMut "list" 1 mExtend (aCons (d_Saying_words_2 mr) aNil)))
def d_Saying_words_3 (mr : FT) : DE := (elsE (dMeth "All" "inside" m_Saying_inside none [] [] (gM 0) aNil) (elsE (dMeth "Both" "inside" m_Double_inside none [] [] (gM 0) aNil) (elsE (dMeth "EachAlways" "inside" m_Single_inside none [] [] (gM 0) aNil) (elsE (dMeth "EachEver" "inside" m_Single_inside none [] [] (gM 0) aNil) (elsE (dMeth "EachNext" "inside" m_Single_inside none [] [] (gM 0) aNil) (elsE (dMeth "EachTill" "inside" m_Double_inside none [] [] (gM 0) aNil) (elsE (dMeth "Either" "inside" m_Double_inside none [] [] (gM 0) aNil) (elsE (dMeth "Mark" "inside" m_Saying_inside none [] [] (gM 0) aNil) (elsE (dMeth "Not" "inside" m_Single_inside none [] [] (gM 0) aNil) (elsE (dMeth "SomeAlways" "inside" m_Single_inside none [] [] (gM 0) aNil) (elsE (dMeth "SomeEver" "inside" m_Single_inside none [] [] (gM 0) aNil) (elsE (dMeth "SomeNext" "inside" m_Single_inside none [] [] (gM 0) aNil) (dMeth "SomeTill" "inside" m_Double_inside none [] [] (gM 0) aNil)))))))))))))
theorem bn_Saying_words (mr : FT) : b_Saying_words mr = (dSeq (dSet 1 (dLst (aCons (d_Saying_words_1 mr) aNil))) (dSeq (dFor (dIt itemsL (d_Saying_words_3 mr)) (gN 2) (l_Saying_words_1 mr)) (dRet (gM 1)))) := rfl
abbrev e_Saying_words (v0_self v1_found v2_one : T) : List T := [v0_self, v1_found, v2_one]
def b_law_texts : DS := (dSeq (dIf (dOr (o1 oNot (vr (o1V (oIsi "list") (gV 0)))) (vr (o2V oNe (o1V oLen (gV 0)) (o1V oLen (gV 1))))) (dRet (re (vr (gC (.bl false))))) dNx) (dSeq (dFor (dZip (aCons (gM 0) (aCons (gM 1) aNil))) (gT2 (gN 2) (gN 3)) (dIf (dOr (o1 oNot (vr (o1V (oIsi "str") (gV 2)))) (vr (o2V oNe (gV 2) (gV 3)))) (dRet (re (vr (gC (.bl false))))) dNx)) (dRet (re (vr (gC (.bl true)))))))
def m_law_texts : FT := dFun [true, true] 4 b_law_texts
def l_law_texts_1 : DS := (dIf (dOr (o1 oNot (vr (o1V (oIsi "str") (gV 2)))) (vr (o2V oNe (gV 2) (gV 3)))) (dRet (re (vr (gC (.bl false))))) dNx)
theorem bn_law_texts : b_law_texts = (dSeq (dIf (dOr (o1 oNot (vr (o1V (oIsi "list") (gV 0)))) (vr (o2V oNe (o1V oLen (gV 0)) (o1V oLen (gV 1))))) (dRet (re (vr (gC (.bl false))))) dNx) (dSeq (dFor (dZip (aCons (gM 0) (aCons (gM 1) aNil))) (gT2 (gN 2) (gN 3)) l_law_texts_1) (dRet (re (vr (gC (.bl true))))))) := rfl
abbrev e_law_texts (v0_found v1_due_here v2_one v3_other : T) : List T := [v0_found, v1_due_here, v2_one, v3_other]
def b_law_name : DS := (dSeq (dSet 2 (re (vr (gC (.str "abcdefghijklmnopqrstuvwxyz"))))) (dSeq (dSet 3 (re (vr (o2V oAdd (gC (.int 1)) (o2V oMod (gV 1) (gC (.int 8))))))) (dSeq (dSet 4 (re (vr (o2V oMod (o2V oDiv (gV 1) (gC (.int 8))) (gV 3))))) (dSeq (dSet 5 (re (vr (o2V oIx (gV 2) (o2V oMod (o2V oDiv (gV 1) (gC (.int 1664))) (gC (.int 26))))))) (dSeq (dSet 6 (re (o2v oAdd (dJoin (gC (.str "")) (dLc (dRng (vr (gV 4))) (gN 7) dYes (gS 5) [7])) (o2V oIx (gV 2) (o2V oMod (o2V oAdd (o2V oDiv (gV 1) (gC (.int 64))) (gV 0)) (gC (.int 26))))))) (dSeq (dSet 6 (re (o2n oAdd 6 (dJoin (gC (.str "")) (dLc (dRng (vr (o2V oSub (o2V oSub (gV 3) (gV 4)) (gC (.int 1))))) (gN 7) dYes (gS 5) [7]))))) (dSeq (dIf (vr (o2V oEq (gV 6) (gC (.str "all")))) (dRet (re (vr (gC (.str "lala"))))) dNx) (dRet (gM 6)))))))))
def m_law_name : FT := dFun [true, true] 8 b_law_name
def x_law_name_1 : DE := (gS 5)
def x_law_name_2 : DE := (gS 5)
theorem bn_law_name : b_law_name = (dSeq (dSet 2 (re (vr (gC (.str "abcdefghijklmnopqrstuvwxyz"))))) (dSeq (dSet 3 (re (vr (o2V oAdd (gC (.int 1)) (o2V oMod (gV 1) (gC (.int 8))))))) (dSeq (dSet 4 (re (vr (o2V oMod (o2V oDiv (gV 1) (gC (.int 8))) (gV 3))))) (dSeq (dSet 5 (re (vr (o2V oIx (gV 2) (o2V oMod (o2V oDiv (gV 1) (gC (.int 1664))) (gC (.int 26))))))) (dSeq (dSet 6 (re (o2v oAdd (dJoin (gC (.str "")) (dLc (dRng (vr (gV 4))) (gN 7) dYes x_law_name_1 [7])) (o2V oIx (gV 2) (o2V oMod (o2V oAdd (o2V oDiv (gV 1) (gC (.int 64))) (gV 0)) (gC (.int 26))))))) (dSeq (dSet 6 (re (o2n oAdd 6 (dJoin (gC (.str "")) (dLc (dRng (vr (o2V oSub (o2V oSub (gV 3) (gV 4)) (gC (.int 1))))) (gN 7) dYes x_law_name_2 [7]))))) (dSeq (dIf (vr (o2V oEq (gV 6) (gC (.str "all")))) (dRet (re (vr (gC (.str "lala"))))) dNx) (dRet (gM 6))))))))) := rfl
abbrev e_law_name (v0_k v1_seed v2_letters v3_size v4_spot v5_base v6_text v7_j : T) : List T := [v0_k, v1_seed, v2_letters, v3_size, v4_spot, v5_base, v6_text, v7_j]
def b_law : DS := (dSeq (dSet 1 (dLc (dIt itemsR (dSl oSlL (vr (gV 0)) (some (gC (.int 2))) (some (gC (.int 80))))) (gN 8) dYes (gM 8) [8])) (dSeq (dSet 2 (re (o1 oSum (dSl oSlL (vr (gV 0)) none (some (gC (.int 1))))))) (dSeq (dSet 3 (dLc (dRng (o2v oMod (o1 oSum (dSl oSlL (vr (gV 0)) (some (gC (.int 1))) (some (gC (.int 2))))) (gC (.int 10)))) (gN 9) dYes (dCall m_law_name [none, none] [] (aCons (gM 9) (aCons (gS 2) aNil))) [9])) (dSeq (dSet 4 (dCall (m_law_grown 16) [none, none, none] [] (aCons (gM 1) (aCons (gM 3) (aCons (re (vr (gC (.int 7)))) aNil))))) (dSeq (dSet 5 (dCall (m_law_made 16) [none] [] (aCons (gS 4) aNil))) (dSeq (dSet 6 (dCall (m_law_due 16) [none] [] (aCons (gM 4) aNil))) (dSeq (dSet 7 (elsE (dMeth "All" "words" (m_Saying_words 16) none [] [] (gS 5) aNil) (elsE (dMeth "Both" "words" (m_Saying_words 16) none [] [] (gS 5) aNil) (elsE (dMeth "EachAlways" "words" (m_Saying_words 16) none [] [] (gS 5) aNil) (elsE (dMeth "EachEver" "words" (m_Saying_words 16) none [] [] (gS 5) aNil) (elsE (dMeth "EachNext" "words" (m_Saying_words 16) none [] [] (gS 5) aNil) (elsE (dMeth "EachTill" "words" (m_Saying_words 16) none [] [] (gS 5) aNil) (elsE (dMeth "Either" "words" (m_Saying_words 16) none [] [] (gS 5) aNil) (elsE (dMeth "Mark" "words" (m_Saying_words 16) none [] [] (gS 5) aNil) (elsE (dMeth "Not" "words" (m_Saying_words 16) none [] [] (gS 5) aNil) (elsE (dMeth "SomeAlways" "words" (m_Saying_words 16) none [] [] (gS 5) aNil) (elsE (dMeth "SomeEver" "words" (m_Saying_words 16) none [] [] (gS 5) aNil) (elsE (dMeth "SomeNext" "words" (m_Saying_words 16) none [] [] (gS 5) aNil) (dMeth "SomeTill" "words" (m_Saying_words 16) none [] [] (gS 5) aNil)))))))))))))) (dSeq (dIf (dOr (o1 oNot (vr (o1V iC_Saying (gV 5)))) (o1 oNot (bw (dCall m_law_texts [none, none] [] (aCons (gS 7) (aCons (gS 6) aNil)))))) (dRet (re (vr (gC (.bl false))))) dNx) (dSeq (dEx (dMut "list" 7 mClear aNil)) (dRet (bw (dCall m_law_texts [none, none] [] (aCons (elsE (dMeth "All" "words" (m_Saying_words 16) none [] [] (gM 5) aNil) (elsE (dMeth "Both" "words" (m_Saying_words 16) none [] [] (gM 5) aNil) (elsE (dMeth "EachAlways" "words" (m_Saying_words 16) none [] [] (gM 5) aNil) (elsE (dMeth "EachEver" "words" (m_Saying_words 16) none [] [] (gM 5) aNil) (elsE (dMeth "EachNext" "words" (m_Saying_words 16) none [] [] (gM 5) aNil) (elsE (dMeth "EachTill" "words" (m_Saying_words 16) none [] [] (gM 5) aNil) (elsE (dMeth "Either" "words" (m_Saying_words 16) none [] [] (gM 5) aNil) (elsE (dMeth "Mark" "words" (m_Saying_words 16) none [] [] (gM 5) aNil) (elsE (dMeth "Not" "words" (m_Saying_words 16) none [] [] (gM 5) aNil) (elsE (dMeth "SomeAlways" "words" (m_Saying_words 16) none [] [] (gM 5) aNil) (elsE (dMeth "SomeEver" "words" (m_Saying_words 16) none [] [] (gM 5) aNil) (elsE (dMeth "SomeNext" "words" (m_Saying_words 16) none [] [] (gM 5) aNil) (dMeth "SomeTill" "words" (m_Saying_words 16) none [] [] (gM 5) aNil))))))))))))) (aCons (gM 6) aNil))))))))))))))
def m_law : FT := dFun [true] 10 b_law
def x_law_1 : DE := (gM 8)
def x_law_2 : DE := (dCall m_law_name [none, none] [] (aCons (gM 9) (aCons (gS 2) aNil)))
def d_law_1 : DE := (elsE (dMeth "All" "words" (m_Saying_words 16) none [] [] (gS 5) aNil) (elsE (dMeth "Both" "words" (m_Saying_words 16) none [] [] (gS 5) aNil) (elsE (dMeth "EachAlways" "words" (m_Saying_words 16) none [] [] (gS 5) aNil) (elsE (dMeth "EachEver" "words" (m_Saying_words 16) none [] [] (gS 5) aNil) (elsE (dMeth "EachNext" "words" (m_Saying_words 16) none [] [] (gS 5) aNil) (elsE (dMeth "EachTill" "words" (m_Saying_words 16) none [] [] (gS 5) aNil) (elsE (dMeth "Either" "words" (m_Saying_words 16) none [] [] (gS 5) aNil) (elsE (dMeth "Mark" "words" (m_Saying_words 16) none [] [] (gS 5) aNil) (elsE (dMeth "Not" "words" (m_Saying_words 16) none [] [] (gS 5) aNil) (elsE (dMeth "SomeAlways" "words" (m_Saying_words 16) none [] [] (gS 5) aNil) (elsE (dMeth "SomeEver" "words" (m_Saying_words 16) none [] [] (gS 5) aNil) (elsE (dMeth "SomeNext" "words" (m_Saying_words 16) none [] [] (gS 5) aNil) (dMeth "SomeTill" "words" (m_Saying_words 16) none [] [] (gS 5) aNil)))))))))))))
def d_law_2 : DE := (elsE (dMeth "All" "words" (m_Saying_words 16) none [] [] (gM 5) aNil) (elsE (dMeth "Both" "words" (m_Saying_words 16) none [] [] (gM 5) aNil) (elsE (dMeth "EachAlways" "words" (m_Saying_words 16) none [] [] (gM 5) aNil) (elsE (dMeth "EachEver" "words" (m_Saying_words 16) none [] [] (gM 5) aNil) (elsE (dMeth "EachNext" "words" (m_Saying_words 16) none [] [] (gM 5) aNil) (elsE (dMeth "EachTill" "words" (m_Saying_words 16) none [] [] (gM 5) aNil) (elsE (dMeth "Either" "words" (m_Saying_words 16) none [] [] (gM 5) aNil) (elsE (dMeth "Mark" "words" (m_Saying_words 16) none [] [] (gM 5) aNil) (elsE (dMeth "Not" "words" (m_Saying_words 16) none [] [] (gM 5) aNil) (elsE (dMeth "SomeAlways" "words" (m_Saying_words 16) none [] [] (gM 5) aNil) (elsE (dMeth "SomeEver" "words" (m_Saying_words 16) none [] [] (gM 5) aNil) (elsE (dMeth "SomeNext" "words" (m_Saying_words 16) none [] [] (gM 5) aNil) (dMeth "SomeTill" "words" (m_Saying_words 16) none [] [] (gM 5) aNil)))))))))))))
theorem bn_law : b_law = (dSeq (dSet 1 (dLc (dIt itemsR (dSl oSlL (vr (gV 0)) (some (gC (.int 2))) (some (gC (.int 80))))) (gN 8) dYes x_law_1 [8])) (dSeq (dSet 2 (re (o1 oSum (dSl oSlL (vr (gV 0)) none (some (gC (.int 1))))))) (dSeq (dSet 3 (dLc (dRng (o2v oMod (o1 oSum (dSl oSlL (vr (gV 0)) (some (gC (.int 1))) (some (gC (.int 2))))) (gC (.int 10)))) (gN 9) dYes x_law_2 [9])) (dSeq (dSet 4 (dCall (m_law_grown 16) [none, none, none] [] (aCons (gM 1) (aCons (gM 3) (aCons (re (vr (gC (.int 7)))) aNil))))) (dSeq (dSet 5 (dCall (m_law_made 16) [none] [] (aCons (gS 4) aNil))) (dSeq (dSet 6 (dCall (m_law_due 16) [none] [] (aCons (gM 4) aNil))) (dSeq (dSet 7 d_law_1) (dSeq (dIf (dOr (o1 oNot (vr (o1V iC_Saying (gV 5)))) (o1 oNot (bw (dCall m_law_texts [none, none] [] (aCons (gS 7) (aCons (gS 6) aNil)))))) (dRet (re (vr (gC (.bl false))))) dNx) (dSeq (dEx (dMut "list" 7 mClear aNil)) (dRet (bw (dCall m_law_texts [none, none] [] (aCons d_law_2 (aCons (gM 6) aNil)))))))))))))) := rfl
abbrev e_law (v0_script v1_rest v2_seed v3_names v4_tree v5_saying v6_due_here v7_found v8_cell_here v9_k : T) : List T := [v0_script, v1_rest, v2_seed, v3_names, v4_tree, v5_saying, v6_due_here, v7_found, v8_cell_here, v9_k]
/-! ### what the top has written -/
structure Txt (K : PySem.W.Frag) (mg : Mg) where
  C_All : Addr
  m_All : mg "All" = some (.ref C_All)
  cl_All : Cls K C_All
  C_Both : Addr
  m_Both : mg "Both" = some (.ref C_Both)
  cl_Both : Cls K C_Both
  C_EachAlways : Addr
  m_EachAlways : mg "EachAlways" = some (.ref C_EachAlways)
  cl_EachAlways : Cls K C_EachAlways
  C_EachEver : Addr
  m_EachEver : mg "EachEver" = some (.ref C_EachEver)
  cl_EachEver : Cls K C_EachEver
  C_EachNext : Addr
  m_EachNext : mg "EachNext" = some (.ref C_EachNext)
  cl_EachNext : Cls K C_EachNext
  C_EachTill : Addr
  m_EachTill : mg "EachTill" = some (.ref C_EachTill)
  cl_EachTill : Cls K C_EachTill
  C_Either : Addr
  m_Either : mg "Either" = some (.ref C_Either)
  cl_Either : Cls K C_Either
  C_Mark : Addr
  m_Mark : mg "Mark" = some (.ref C_Mark)
  cl_Mark : Cls K C_Mark
  C_Not : Addr
  m_Not : mg "Not" = some (.ref C_Not)
  cl_Not : Cls K C_Not
  C_Saying : Addr
  m_Saying : mg "Saying" = some (.ref C_Saying)
  cl_Saying : Cls K C_Saying
  C_SomeAlways : Addr
  m_SomeAlways : mg "SomeAlways" = some (.ref C_SomeAlways)
  cl_SomeAlways : Cls K C_SomeAlways
  C_SomeEver : Addr
  m_SomeEver : mg "SomeEver" = some (.ref C_SomeEver)
  cl_SomeEver : Cls K C_SomeEver
  C_SomeNext : Addr
  m_SomeNext : mg "SomeNext" = some (.ref C_SomeNext)
  cl_SomeNext : Cls K C_SomeNext
  C_SomeTill : Addr
  m_SomeTill : mg "SomeTill" = some (.ref C_SomeTill)
  cl_SomeTill : Cls K C_SomeTill
  na_Both_left : NoAttr K C_Both "left"
  na_Both_right : NoAttr K C_Both "right"
  na_EachAlways_part : NoAttr K C_EachAlways "part"
  na_EachEver_part : NoAttr K C_EachEver "part"
  na_EachNext_part : NoAttr K C_EachNext "part"
  na_EachTill_left : NoAttr K C_EachTill "left"
  na_EachTill_right : NoAttr K C_EachTill "right"
  na_Either_left : NoAttr K C_Either "left"
  na_Either_right : NoAttr K C_Either "right"
  na_Mark_name : NoAttr K C_Mark "name"
  na_Not_part : NoAttr K C_Not "part"
  na_SomeAlways_part : NoAttr K C_SomeAlways "part"
  na_SomeEver_part : NoAttr K C_SomeEver "part"
  na_SomeNext_part : NoAttr K C_SomeNext "part"
  na_SomeTill_left : NoAttr K C_SomeTill "left"
  na_SomeTill_right : NoAttr K C_SomeTill "right"
  a_law_cell : Addr
  fd_law_cell : FuncData
  F_law_cell : Fun K "_law_cell" "_law_cell" s_law_cell a_law_cell fd_law_cell
  g_law_cell : mg "_law_cell" = some (.ref a_law_cell)
  b_law_cell : L2.Binds K fd_law_cell ["_law_rest"] []
  a_law_grown : Addr
  fd_law_grown : FuncData
  F_law_grown : Fun K "_law_grown" "_law_grown" s_law_grown a_law_grown fd_law_grown
  g_law_grown : mg "_law_grown" = some (.ref a_law_grown)
  b_law_grown : L2.Binds K fd_law_grown ["_law_rest", "_law_names", "_law_deep"] []
  a_Double_init : Addr
  fd_Double_init : FuncData
  F_Double_init : Fun K "__init__" "Double.__init__" s_Double_init a_Double_init fd_Double_init
  ds_Double_init_2 : List Value
  b_Double_init_2 : Vals [] ds_Double_init_2 ∧ L2.Binds K fd_Double_init ["self", "left", "right"] ds_Double_init_2
  a_Mark_init : Addr
  fd_Mark_init : FuncData
  F_Mark_init : Fun K "__init__" "Mark.__init__" s_Mark_init a_Mark_init fd_Mark_init
  ds_Mark_init_1 : List Value
  b_Mark_init_1 : Vals [] ds_Mark_init_1 ∧ L2.Binds K fd_Mark_init ["self", "name"] ds_Mark_init_1
  a_Single_init : Addr
  fd_Single_init : FuncData
  F_Single_init : Fun K "__init__" "Single.__init__" s_Single_init a_Single_init fd_Single_init
  ds_Single_init_1 : List Value
  b_Single_init_1 : Vals [] ds_Single_init_1 ∧ L2.Binds K fd_Single_init ["self", "part"] ds_Single_init_1
  a_law_single : Addr
  fd_law_single : FuncData
  F_law_single : Fun K "_law_single" "_law_single" s_law_single a_law_single fd_law_single
  g_law_single : mg "_law_single" = some (.ref a_law_single)
  b_law_single : L2.Binds K fd_law_single ["_law_word", "_law_part"] []
  a_law_made : Addr
  fd_law_made : FuncData
  F_law_made : Fun K "_law_made" "_law_made" s_law_made a_law_made fd_law_made
  g_law_made : mg "_law_made" = some (.ref a_law_made)
  b_law_made : L2.Binds K fd_law_made ["_law_tree"] []
  a_law_due : Addr
  fd_law_due : FuncData
  F_law_due : Fun K "_law_due" "_law_due" s_law_due a_law_due fd_law_due
  g_law_due : mg "_law_due" = some (.ref a_law_due)
  b_law_due : L2.Binds K fd_law_due ["_law_tree"] []
  a_Saying_inside : Addr
  fd_Saying_inside : FuncData
  F_Saying_inside : Fun K "inside" "Saying.inside" s_Saying_inside a_Saying_inside fd_Saying_inside
  b_Saying_inside : L2.Binds K fd_Saying_inside ["self"] []
  a_Double_inside : Addr
  fd_Double_inside : FuncData
  F_Double_inside : Fun K "inside" "Double.inside" s_Double_inside a_Double_inside fd_Double_inside
  b_Double_inside : L2.Binds K fd_Double_inside ["self"] []
  a_Single_inside : Addr
  fd_Single_inside : FuncData
  F_Single_inside : Fun K "inside" "Single.inside" s_Single_inside a_Single_inside fd_Single_inside
  b_Single_inside : L2.Binds K fd_Single_inside ["self"] []
  a_All_word : Addr
  fd_All_word : FuncData
  F_All_word : Fun K "word" "All.word" s_All_word a_All_word fd_All_word
  b_All_word : L2.Binds K fd_All_word ["self"] []
  a_Both_word : Addr
  fd_Both_word : FuncData
  F_Both_word : Fun K "word" "Both.word" s_Both_word a_Both_word fd_Both_word
  b_Both_word : L2.Binds K fd_Both_word ["self"] []
  a_EachAlways_word : Addr
  fd_EachAlways_word : FuncData
  F_EachAlways_word : Fun K "word" "EachAlways.word" s_EachAlways_word a_EachAlways_word fd_EachAlways_word
  b_EachAlways_word : L2.Binds K fd_EachAlways_word ["self"] []
  a_EachEver_word : Addr
  fd_EachEver_word : FuncData
  F_EachEver_word : Fun K "word" "EachEver.word" s_EachEver_word a_EachEver_word fd_EachEver_word
  b_EachEver_word : L2.Binds K fd_EachEver_word ["self"] []
  a_EachNext_word : Addr
  fd_EachNext_word : FuncData
  F_EachNext_word : Fun K "word" "EachNext.word" s_EachNext_word a_EachNext_word fd_EachNext_word
  b_EachNext_word : L2.Binds K fd_EachNext_word ["self"] []
  a_EachTill_word : Addr
  fd_EachTill_word : FuncData
  F_EachTill_word : Fun K "word" "EachTill.word" s_EachTill_word a_EachTill_word fd_EachTill_word
  b_EachTill_word : L2.Binds K fd_EachTill_word ["self"] []
  a_Either_word : Addr
  fd_Either_word : FuncData
  F_Either_word : Fun K "word" "Either.word" s_Either_word a_Either_word fd_Either_word
  b_Either_word : L2.Binds K fd_Either_word ["self"] []
  a_Mark_word : Addr
  fd_Mark_word : FuncData
  F_Mark_word : Fun K "word" "Mark.word" s_Mark_word a_Mark_word fd_Mark_word
  b_Mark_word : L2.Binds K fd_Mark_word ["self"] []
  a_Not_word : Addr
  fd_Not_word : FuncData
  F_Not_word : Fun K "word" "Not.word" s_Not_word a_Not_word fd_Not_word
  b_Not_word : L2.Binds K fd_Not_word ["self"] []
  a_SomeAlways_word : Addr
  fd_SomeAlways_word : FuncData
  F_SomeAlways_word : Fun K "word" "SomeAlways.word" s_SomeAlways_word a_SomeAlways_word fd_SomeAlways_word
  b_SomeAlways_word : L2.Binds K fd_SomeAlways_word ["self"] []
  a_SomeEver_word : Addr
  fd_SomeEver_word : FuncData
  F_SomeEver_word : Fun K "word" "SomeEver.word" s_SomeEver_word a_SomeEver_word fd_SomeEver_word
  b_SomeEver_word : L2.Binds K fd_SomeEver_word ["self"] []
  a_SomeNext_word : Addr
  fd_SomeNext_word : FuncData
  F_SomeNext_word : Fun K "word" "SomeNext.word" s_SomeNext_word a_SomeNext_word fd_SomeNext_word
  b_SomeNext_word : L2.Binds K fd_SomeNext_word ["self"] []
  a_SomeTill_word : Addr
  fd_SomeTill_word : FuncData
  F_SomeTill_word : Fun K "word" "SomeTill.word" s_SomeTill_word a_SomeTill_word fd_SomeTill_word
  b_SomeTill_word : L2.Binds K fd_SomeTill_word ["self"] []
  a_Saying_words : Addr
  fd_Saying_words : FuncData
  F_Saying_words : Fun K "words" "Saying.words" s_Saying_words a_Saying_words fd_Saying_words
  b_Saying_words : L2.Binds K fd_Saying_words ["self"] []
  a_law_texts : Addr
  fd_law_texts : FuncData
  F_law_texts : Fun K "_law_texts" "_law_texts" s_law_texts a_law_texts fd_law_texts
  g_law_texts : mg "_law_texts" = some (.ref a_law_texts)
  b_law_texts : L2.Binds K fd_law_texts ["_law_found", "_law_due_here"] []
  a_law_name : Addr
  fd_law_name : FuncData
  F_law_name : Fun K "_law_name" "_law_name" s_law_name a_law_name fd_law_name
  g_law_name : mg "_law_name" = some (.ref a_law_name)
  b_law_name : L2.Binds K fd_law_name ["_law_k", "_law_seed"] []
  a_law : Addr
  fd_law : FuncData
  F_law : Fun K "law" "law" s_law a_law fd_law
  g_law : mg "law" = some (.ref a_law)
  me_All__inside : Meth K C_All "inside" a_Saying_inside
  me_All__word : Meth K C_All "word" a_All_word
  me_All__words : Meth K C_All "words" a_Saying_words
  me_Both__inside : Meth K C_Both "inside" a_Double_inside
  me_Both__word : Meth K C_Both "word" a_Both_word
  me_Both__words : Meth K C_Both "words" a_Saying_words
  me_EachAlways__inside : Meth K C_EachAlways "inside" a_Single_inside
  me_EachAlways__word : Meth K C_EachAlways "word" a_EachAlways_word
  me_EachAlways__words : Meth K C_EachAlways "words" a_Saying_words
  me_EachEver__inside : Meth K C_EachEver "inside" a_Single_inside
  me_EachEver__word : Meth K C_EachEver "word" a_EachEver_word
  me_EachEver__words : Meth K C_EachEver "words" a_Saying_words
  me_EachNext__inside : Meth K C_EachNext "inside" a_Single_inside
  me_EachNext__word : Meth K C_EachNext "word" a_EachNext_word
  me_EachNext__words : Meth K C_EachNext "words" a_Saying_words
  me_EachTill__inside : Meth K C_EachTill "inside" a_Double_inside
  me_EachTill__word : Meth K C_EachTill "word" a_EachTill_word
  me_EachTill__words : Meth K C_EachTill "words" a_Saying_words
  me_Either__inside : Meth K C_Either "inside" a_Double_inside
  me_Either__word : Meth K C_Either "word" a_Either_word
  me_Either__words : Meth K C_Either "words" a_Saying_words
  me_Mark__inside : Meth K C_Mark "inside" a_Saying_inside
  me_Mark__word : Meth K C_Mark "word" a_Mark_word
  me_Mark__words : Meth K C_Mark "words" a_Saying_words
  me_Not__inside : Meth K C_Not "inside" a_Single_inside
  me_Not__word : Meth K C_Not "word" a_Not_word
  me_Not__words : Meth K C_Not "words" a_Saying_words
  me_SomeAlways__inside : Meth K C_SomeAlways "inside" a_Single_inside
  me_SomeAlways__word : Meth K C_SomeAlways "word" a_SomeAlways_word
  me_SomeAlways__words : Meth K C_SomeAlways "words" a_Saying_words
  me_SomeEver__inside : Meth K C_SomeEver "inside" a_Single_inside
  me_SomeEver__word : Meth K C_SomeEver "word" a_SomeEver_word
  me_SomeEver__words : Meth K C_SomeEver "words" a_Saying_words
  me_SomeNext__inside : Meth K C_SomeNext "inside" a_Single_inside
  me_SomeNext__word : Meth K C_SomeNext "word" a_SomeNext_word
  me_SomeNext__words : Meth K C_SomeNext "words" a_Saying_words
  me_SomeTill__inside : Meth K C_SomeTill "inside" a_Double_inside
  me_SomeTill__word : Meth K C_SomeTill "word" a_SomeTill_word
  me_SomeTill__words : Meth K C_SomeTill "words" a_Saying_words
  mk_Both : Mk K C_Both a_Double_init
  mk_EachAlways : Mk K C_EachAlways a_Single_init
  mk_EachEver : Mk K C_EachEver a_Single_init
  mk_EachNext : Mk K C_EachNext a_Single_init
  mk_EachTill : Mk K C_EachTill a_Double_init
  mk_Either : Mk K C_Either a_Double_init
  mk_Mark : Mk K C_Mark a_Mark_init
  mk_Not : Mk K C_Not a_Single_init
  mk_SomeAlways : Mk K C_SomeAlways a_Single_init
  mk_SomeEver : Mk K C_SomeEver a_Single_init
  mk_SomeNext : Mk K C_SomeNext a_Single_init
  mk_SomeTill : Mk K C_SomeTill a_Double_init
  k0_All : Mk0 K C_All
  ic_All : Ins0 K C_All
  ic_Both : Ins0 K C_Both
  ic_EachAlways : Ins0 K C_EachAlways
  ic_EachEver : Ins0 K C_EachEver
  ic_EachNext : Ins0 K C_EachNext
  ic_EachTill : Ins0 K C_EachTill
  ic_Either : Ins0 K C_Either
  ic_Mark : Ins0 K C_Mark
  ic_Not : Ins0 K C_Not
  ic_SomeAlways : Ins0 K C_SomeAlways
  ic_SomeEver : Ins0 K C_SomeEver
  ic_SomeNext : Ins0 K C_SomeNext
  ic_SomeTill : Ins0 K C_SomeTill
  ki_All__Saying : PySem.W.kitOne K (.ref C_All) (.ref C_Saying) = some true
  ki_Both__Saying : PySem.W.kitOne K (.ref C_Both) (.ref C_Saying) = some true
  ki_EachAlways__Saying : PySem.W.kitOne K (.ref C_EachAlways) (.ref C_Saying) = some true
  ki_EachEver__Saying : PySem.W.kitOne K (.ref C_EachEver) (.ref C_Saying) = some true
  ki_EachNext__Saying : PySem.W.kitOne K (.ref C_EachNext) (.ref C_Saying) = some true
  ki_EachTill__Saying : PySem.W.kitOne K (.ref C_EachTill) (.ref C_Saying) = some true
  ki_Either__Saying : PySem.W.kitOne K (.ref C_Either) (.ref C_Saying) = some true
  ki_Mark__Saying : PySem.W.kitOne K (.ref C_Mark) (.ref C_Saying) = some true
  ki_Not__Saying : PySem.W.kitOne K (.ref C_Not) (.ref C_Saying) = some true
  ki_SomeAlways__Saying : PySem.W.kitOne K (.ref C_SomeAlways) (.ref C_Saying) = some true
  ki_SomeEver__Saying : PySem.W.kitOne K (.ref C_SomeEver) (.ref C_Saying) = some true
  ki_SomeNext__Saying : PySem.W.kitOne K (.ref C_SomeNext) (.ref C_Saying) = some true
  ki_SomeTill__Saying : PySem.W.kitOne K (.ref C_SomeTill) (.ref C_Saying) = some true
  n_isinstance : mg "isinstance" = none
  n_len : mg "len" = none
  n_list : mg "list" = none
  n_range : mg "range" = none
  n_reversed : mg "reversed" = none
  n_str : mg "str" = none
  n_sum : mg "sum" = none
  n_zip : mg "zip" = none
/-! ### the defs -/
theorem sc_law_cell : FnScope ["_law_rest"] ["_law_rest"] (defScope s_law_cell) := ⟨rfl, rfl, rfl, by decide +kernel, rfl, by decide +kernel, by decide +kernel⟩
theorem sc_law_grown : FnScope ["_law_rest", "_law_names", "_law_deep", "_law_cell_here", "_law_way", "_law_word", "_law_left"] ["_law_rest", "_law_names", "_law_deep"] (defScope s_law_grown) := ⟨rfl, rfl, rfl, by decide +kernel, rfl, by decide +kernel, by decide +kernel⟩
theorem sc_Double_init : FnScope ["self", "left", "right"] ["self", "left", "right"] (defScope s_Double_init) := ⟨rfl, rfl, rfl, by decide +kernel, rfl, by decide +kernel, by decide +kernel⟩
theorem sc_Mark_init : FnScope ["self", "name"] ["self", "name"] (defScope s_Mark_init) := ⟨rfl, rfl, rfl, by decide +kernel, rfl, by decide +kernel, by decide +kernel⟩
theorem sc_Single_init : FnScope ["self", "part"] ["self", "part"] (defScope s_Single_init) := ⟨rfl, rfl, rfl, by decide +kernel, rfl, by decide +kernel, by decide +kernel⟩
theorem sc_law_single : FnScope ["_law_word", "_law_part"] ["_law_word", "_law_part"] (defScope s_law_single) := ⟨rfl, rfl, rfl, by decide +kernel, rfl, by decide +kernel, by decide +kernel⟩
theorem sc_law_made : FnScope ["_law_tree", "_law_parts", "_law_part"] ["_law_tree"] (defScope s_law_made) := ⟨rfl, rfl, rfl, by decide +kernel, rfl, by decide +kernel, by decide +kernel⟩
theorem sc_law_due : FnScope ["_law_tree", "_law_found", "_law_part"] ["_law_tree"] (defScope s_law_due) := ⟨rfl, rfl, rfl, by decide +kernel, rfl, by decide +kernel, by decide +kernel⟩
theorem sc_Saying_inside : FnScope ["self"] ["self"] (defScope s_Saying_inside) := ⟨rfl, rfl, rfl, by decide +kernel, rfl, by decide +kernel, by decide +kernel⟩
theorem sc_Double_inside : FnScope ["self"] ["self"] (defScope s_Double_inside) := ⟨rfl, rfl, rfl, by decide +kernel, rfl, by decide +kernel, by decide +kernel⟩
theorem sc_Single_inside : FnScope ["self"] ["self"] (defScope s_Single_inside) := ⟨rfl, rfl, rfl, by decide +kernel, rfl, by decide +kernel, by decide +kernel⟩
theorem sc_All_word : FnScope ["self"] ["self"] (defScope s_All_word) := ⟨rfl, rfl, rfl, by decide +kernel, rfl, by decide +kernel, by decide +kernel⟩
theorem sc_Both_word : FnScope ["self"] ["self"] (defScope s_Both_word) := ⟨rfl, rfl, rfl, by decide +kernel, rfl, by decide +kernel, by decide +kernel⟩
theorem sc_EachAlways_word : FnScope ["self"] ["self"] (defScope s_EachAlways_word) := ⟨rfl, rfl, rfl, by decide +kernel, rfl, by decide +kernel, by decide +kernel⟩
theorem sc_EachEver_word : FnScope ["self"] ["self"] (defScope s_EachEver_word) := ⟨rfl, rfl, rfl, by decide +kernel, rfl, by decide +kernel, by decide +kernel⟩
theorem sc_EachNext_word : FnScope ["self"] ["self"] (defScope s_EachNext_word) := ⟨rfl, rfl, rfl, by decide +kernel, rfl, by decide +kernel, by decide +kernel⟩
theorem sc_EachTill_word : FnScope ["self"] ["self"] (defScope s_EachTill_word) := ⟨rfl, rfl, rfl, by decide +kernel, rfl, by decide +kernel, by decide +kernel⟩
theorem sc_Either_word : FnScope ["self"] ["self"] (defScope s_Either_word) := ⟨rfl, rfl, rfl, by decide +kernel, rfl, by decide +kernel, by decide +kernel⟩
theorem sc_Mark_word : FnScope ["self"] ["self"] (defScope s_Mark_word) := ⟨rfl, rfl, rfl, by decide +kernel, rfl, by decide +kernel, by decide +kernel⟩
theorem sc_Not_word : FnScope ["self"] ["self"] (defScope s_Not_word) := ⟨rfl, rfl, rfl, by decide +kernel, rfl, by decide +kernel, by decide +kernel⟩
theorem sc_SomeAlways_word : FnScope ["self"] ["self"] (defScope s_SomeAlways_word) := ⟨rfl, rfl, rfl, by decide +kernel, rfl, by decide +kernel, by decide +kernel⟩
theorem sc_SomeEver_word : FnScope ["self"] ["self"] (defScope s_SomeEver_word) := ⟨rfl, rfl, rfl, by decide +kernel, rfl, by decide +kernel, by decide +kernel⟩
theorem sc_SomeNext_word : FnScope ["self"] ["self"] (defScope s_SomeNext_word) := ⟨rfl, rfl, rfl, by decide +kernel, rfl, by decide +kernel, by decide +kernel⟩
theorem sc_SomeTill_word : FnScope ["self"] ["self"] (defScope s_SomeTill_word) := ⟨rfl, rfl, rfl, by decide +kernel, rfl, by decide +kernel, by decide +kernel⟩
theorem sc_Saying_words : FnScope ["self", "found", "one"] ["self"] (defScope s_Saying_words) := ⟨rfl, rfl, rfl, by decide +kernel, rfl, by decide +kernel, by decide +kernel⟩
theorem sc_law_texts : FnScope ["_law_found", "_law_due_here", "_law_one", "_law_other"] ["_law_found", "_law_due_here"] (defScope s_law_texts) := ⟨rfl, rfl, rfl, by decide +kernel, rfl, by decide +kernel, by decide +kernel⟩
theorem sc_law_name : FnScope ["_law_k", "_law_seed", "_law_letters", "_law_size", "_law_spot", "_law_base", "_law_text", "_law_j"] ["_law_k", "_law_seed"] (defScope s_law_name) := ⟨rfl, rfl, rfl, by decide +kernel, rfl, by decide +kernel, by decide +kernel⟩
theorem sc_law : FnScope ["_law_script", "_law_rest", "_law_seed", "_law_names", "_law_tree", "_law_saying", "_law_due_here", "_law_found", "_law_cell_here", "_law_k"] ["_law_script"] (defScope s_law) := ⟨rfl, rfl, rfl, by decide +kernel, rfl, by decide +kernel, by decide +kernel⟩
theorem f_left {K : PySem.W.Frag} {mg : Mg} (E : Txt K mg) : Op1V K mg (rFld K "left") oA_left := Op1V.or (v_fld E.m_Both E.cl_Both E.na_Both_left) (Op1V.or (v_fld E.m_EachTill E.cl_EachTill E.na_EachTill_left) (Op1V.or (v_fld E.m_Either E.cl_Either E.na_Either_left) (v_fld E.m_SomeTill E.cl_SomeTill E.na_SomeTill_left)))
theorem f_part {K : PySem.W.Frag} {mg : Mg} (E : Txt K mg) : Op1V K mg (rFld K "part") oA_part := Op1V.or (v_fld E.m_EachAlways E.cl_EachAlways E.na_EachAlways_part) (Op1V.or (v_fld E.m_EachEver E.cl_EachEver E.na_EachEver_part) (Op1V.or (v_fld E.m_EachNext E.cl_EachNext E.na_EachNext_part) (Op1V.or (v_fld E.m_Not E.cl_Not E.na_Not_part) (Op1V.or (v_fld E.m_SomeAlways E.cl_SomeAlways E.na_SomeAlways_part) (Op1V.or (v_fld E.m_SomeEver E.cl_SomeEver E.na_SomeEver_part) (v_fld E.m_SomeNext E.cl_SomeNext E.na_SomeNext_part))))))
theorem f_right {K : PySem.W.Frag} {mg : Mg} (E : Txt K mg) : Op1V K mg (rFld K "right") oA_right := Op1V.or (v_fld E.m_Both E.cl_Both E.na_Both_right) (Op1V.or (v_fld E.m_EachTill E.cl_EachTill E.na_EachTill_right) (Op1V.or (v_fld E.m_Either E.cl_Either E.na_Either_right) (v_fld E.m_SomeTill E.cl_SomeTill E.na_SomeTill_right)))
theorem f_Double_init_left {K : PySem.W.Frag} {mg : Mg} (E : Txt K mg) : OpM K mg (rFldM K "left") mA_Double_init_left := OpM.or (m_fld E.m_Both E.cl_Both E.na_Both_left) (OpM.or (m_fld E.m_EachTill E.cl_EachTill E.na_EachTill_left) (OpM.or (m_fld E.m_Either E.cl_Either E.na_Either_left) (m_fld E.m_SomeTill E.cl_SomeTill E.na_SomeTill_left)))
theorem f_Double_init_right {K : PySem.W.Frag} {mg : Mg} (E : Txt K mg) : OpM K mg (rFldM K "right") mA_Double_init_right := OpM.or (m_fld E.m_Both E.cl_Both E.na_Both_right) (OpM.or (m_fld E.m_EachTill E.cl_EachTill E.na_EachTill_right) (OpM.or (m_fld E.m_Either E.cl_Either E.na_Either_right) (m_fld E.m_SomeTill E.cl_SomeTill E.na_SomeTill_right)))
theorem f_Single_init_part {K : PySem.W.Frag} {mg : Mg} (E : Txt K mg) : OpM K mg (rFldM K "part") mA_Single_init_part := OpM.or (m_fld E.m_EachAlways E.cl_EachAlways E.na_EachAlways_part) (OpM.or (m_fld E.m_EachEver E.cl_EachEver E.na_EachEver_part) (OpM.or (m_fld E.m_EachNext E.cl_EachNext E.na_EachNext_part) (OpM.or (m_fld E.m_Not E.cl_Not E.na_Not_part) (OpM.or (m_fld E.m_SomeAlways E.cl_SomeAlways E.na_SomeAlways_part) (OpM.or (m_fld E.m_SomeEver E.cl_SomeEver E.na_SomeEver_part) (m_fld E.m_SomeNext E.cl_SomeNext E.na_SomeNext_part))))))
theorem is_Saying {K : PySem.W.Frag} {mg : Mg} (E : Txt K mg) : Op1V K mg (fun x H Q => rIsi K [x, .ref E.C_Saying] H Q) iC_Saying := Op1V.or (v_is1 E.m_All E.ic_All E.ki_All__Saying) (Op1V.or (v_is1 E.m_Both E.ic_Both E.ki_Both__Saying) (Op1V.or (v_is1 E.m_EachAlways E.ic_EachAlways E.ki_EachAlways__Saying) (Op1V.or (v_is1 E.m_EachEver E.ic_EachEver E.ki_EachEver__Saying) (Op1V.or (v_is1 E.m_EachNext E.ic_EachNext E.ki_EachNext__Saying) (Op1V.or (v_is1 E.m_EachTill E.ic_EachTill E.ki_EachTill__Saying) (Op1V.or (v_is1 E.m_Either E.ic_Either E.ki_Either__Saying) (Op1V.or (v_is1 E.m_Mark E.ic_Mark E.ki_Mark__Saying) (Op1V.or (v_is1 E.m_Not E.ic_Not E.ki_Not__Saying) (Op1V.or (v_is1 E.m_SomeAlways E.ic_SomeAlways E.ki_SomeAlways__Saying) (Op1V.or (v_is1 E.m_SomeEver E.ic_SomeEver E.ki_SomeEver__Saying) (Op1V.or (v_is1 E.m_SomeNext E.ic_SomeNext E.ki_SomeNext__Saying) (v_is1 E.m_SomeTill E.ic_SomeTill E.ki_SomeTill__Saying))))))))))))
section
variable {P : Program} {w : World} {K : PySem.W.Frag} {mg : Mg} {base : Heap}
theorem ok_law_cell (E : Txt K mg) : FnOk P w K mg base CX0 1 E.a_law_cell E.fd_law_cell ["_law_rest"] (spD K mg 1 m_law_cell) :=
  have nd := sc_law_cell.nd
  ok_def (keep := [true]) (d := b_law_cell) E.F_law_cell sc_law_cell rfl rfl (by decide) fun cdv A outer s H E' hr => ((ss_cons (ss_if (st_cmp (op_eqD hr.units) v_eq (nomark _) (sv_b1 call_lenA v_len PySem.boot_len (by rfl) E.n_len (sv_name (i := 0))) sv_int) (ss_one (ss_ret (SV.e sv_int))) ss_nil) (ss_one (ss_ret (se_mut0 (i := 0) PySem.F.plainAttrs_list PySem.F.slot_list_pop PySem.F.type_list_pop mt_pop m_pop)))))
theorem ok_law_grown (E : Txt K mg) : ∀ k : Nat, FnOk P w K mg base CX0 (2 + k) E.a_law_grown E.fd_law_grown ["_law_rest", "_law_names", "_law_deep"] (spD K mg 3 (m_law_grown k))
  | 0 => ok_def (W := []) (keep := [true, true, true]) (d := fun _ => none) E.F_law_grown sc_law_grown rfl rfl (by decide) fun cdv A outer s H E' hr => sss_none
  | k + 1 => by
    have nd := sc_law_grown.nd
    have ih := ok_law_grown E k
    exact ok_def (keep := [true, true, true]) (d := b_law_grown (m_law_grown k)) E.F_law_grown sc_law_grown rfl rfl (by decide) fun cdv A outer s H E' hr => ((ss_cons (ss_set (i := 3) nd rfl (by first | exact Or.inl rfl | exact Or.inr rfl) (se_call (ok_law_cell E) (dFun_len rfl) (hr.mono (show 1 ≤ 2 + k from Nat.le_trans (by decide : 1 ≤ 2) (Nat.le_add_right 2 k))) (by rfl) E.g_law_cell E.F_law_cell.kp E.b_law_cell .nil (sa_lend (i := 0) sa_nil))) (ss_cons (ss_set (i := 4) nd rfl (by first | exact Or.inl rfl | exact Or.inr rfl) (SV.e (sv_bin op_mod v_mod (sv_name (i := 3)) sv_int))) (ss_cons (ss_if (SW.t (sw_or (st_cmp (op_eqD hr.units) v_eq (nomark _) (sv_name (i := 2)) sv_int) (sw_or1 (st_cmp op_lt v_lt (nomark _) (sv_name (i := 4)) sv_int)))) (ss_cons (ss_if (SW.t (sw_or (st_cmp (op_eqD hr.units) v_eq (nomark _) (sv_name (i := 4)) sv_int) (sw_or1 (st_cmp (op_eqD hr.units) v_eq (nomark _) (sv_b1 call_lenA v_len PySem.boot_len (by rfl) E.n_len (sv_name (i := 1))) sv_int)))) (ss_one (ss_ret (se_tup (sa_cons (SV.e sv_str) sa_nil)))) ss_nil) (ss_one (ss_ret (se_tup (sa_cons (SV.e sv_str) (sa_cons (SE.fz 1 (SV.e (sv_ix (hu_of hr) (sv_name (i := 1)) (sv_bin op_mod v_mod (sv_bin op_fdiv v_div (sv_name (i := 3)) sv_int) (sv_b1 call_lenA v_len PySem.boot_len (by rfl) E.n_len (sv_name (i := 1))))))) sa_nil)))))) ss_nil) (ss_cons (ss_if (st_cmp op_lt v_lt (nomark _) (sv_name (i := 4)) sv_int) (ss_cons (ss_set (i := 5) nd rfl (by first | exact Or.inl rfl | exact Or.inr rfl) (se_ix (hu_of hr) (se_lst (sa_cons (SV.e sv_str) (sa_cons (SV.e sv_str) (sa_cons (SV.e sv_str) (sa_cons (SV.e sv_str) (sa_cons (SV.e sv_str) (sa_cons (SV.e sv_str) (sa_cons (SV.e sv_str) sa_nil)))))))) (sv_bin op_mod v_mod (sv_bin op_fdiv v_div (sv_name (i := 3)) sv_int) sv_int))) (ss_one (ss_ret (se_tup (sa_cons (se_move (i := 5)) (sa_cons (se_call ih (dRec_len rfl _) hr (by rfl) E.g_law_grown E.F_law_grown.kp E.b_law_grown .nil (sa_lend (i := 0) (sa_cons (se_move (i := 1)) (sa_cons (SV.e (sv_bin op_sub v_sub (sv_name (i := 2)) sv_int)) sa_nil)))) sa_nil)))))) ss_nil) (ss_cons (ss_set (i := 5) nd rfl (by first | exact Or.inl rfl | exact Or.inr rfl) (se_ix (hu_of hr) (se_lst (sa_cons (SV.e sv_str) (sa_cons (SV.e sv_str) (sa_cons (SV.e sv_str) (sa_cons (SV.e sv_str) sa_nil))))) (sv_bin op_mod v_mod (sv_bin op_fdiv v_div (sv_name (i := 3)) sv_int) sv_int))) (ss_cons (ss_set (i := 6) nd rfl (by first | exact Or.inl rfl | exact Or.inr rfl) (se_call ih (dRec_len rfl _) hr (by rfl) E.g_law_grown E.F_law_grown.kp E.b_law_grown .nil (sa_lend (i := 0) (sa_cons (se_share (i := 1)) (sa_cons (SV.e (sv_bin op_sub v_sub (sv_name (i := 2)) sv_int)) sa_nil))))) (ss_one (ss_ret (se_tup (sa_cons (se_move (i := 5)) (sa_cons (se_move (i := 6)) (sa_cons (se_call ih (dRec_len rfl _) hr (by rfl) E.g_law_grown E.F_law_grown.kp E.b_law_grown .nil (sa_lend (i := 0) (sa_cons (se_move (i := 1)) (sa_cons (SV.e (sv_bin op_sub v_sub (sv_name (i := 2)) sv_int)) sa_nil)))) sa_nil)))))))))))))
theorem ok_Double_init (E : Txt K mg) : FnOk P w K mg base CX0 1 E.a_Double_init E.fd_Double_init ["self", "left", "right"] (spD K mg 3 m_Double_init) :=
  have nd := sc_Double_init.nd
  ok_def (keep := [true, true, true]) (d := b_Double_init) E.F_Double_init sc_Double_init rfl rfl (by decide) fun cdv A outer s H E' hr => ((ss_cons (ss_fldA (i := 0) (f_Double_init_left E) (se_move (i := 1))) (ss_one (ss_fldA (i := 0) (f_Double_init_right E) (se_move (i := 2))))))
theorem ok_Mark_init (E : Txt K mg) : FnOk P w K mg base CX0 1 E.a_Mark_init E.fd_Mark_init ["self", "name"] (spD K mg 2 m_Mark_init) :=
  have nd := sc_Mark_init.nd
  ok_def (keep := [true, true]) (d := b_Mark_init) E.F_Mark_init sc_Mark_init rfl rfl (by decide) fun cdv A outer s H E' hr => ((ss_one (ss_fld (i := 0) E.m_Mark E.cl_Mark E.na_Mark_name (se_move (i := 1)))))
theorem ok_Single_init (E : Txt K mg) : FnOk P w K mg base CX0 1 E.a_Single_init E.fd_Single_init ["self", "part"] (spD K mg 2 m_Single_init) :=
  have nd := sc_Single_init.nd
  ok_def (keep := [true, true]) (d := b_Single_init) E.F_Single_init sc_Single_init rfl rfl (by decide) fun cdv A outer s H E' hr => ((ss_one (ss_fldA (i := 0) (f_Single_init_part E) (se_move (i := 1)))))
theorem ok_law_single (E : Txt K mg) : FnOk P w K mg base CX0 3 E.a_law_single E.fd_law_single ["_law_word", "_law_part"] (spD K mg 2 m_law_single) :=
  have nd := sc_law_single.nd
  ok_def (keep := [true, true]) (d := b_law_single) E.F_law_single sc_law_single rfl rfl (by decide) fun cdv A outer s H E' hr => ((ss_cons (ss_if (st_cmp (op_eqD hr.units) v_eq (nomark _) (sv_name (i := 0)) sv_str) (ss_one (ss_ret (se_make E.mk_Not (ok_Single_init E) (dFun_len rfl) hr (by rfl) E.m_Not E.b_Single_init_1.2 E.b_Single_init_1.1 (sa_cons (se_move (i := 1)) sa_nil)))) ss_nil) (ss_cons (ss_if (st_cmp (op_eqD hr.units) v_eq (nomark _) (sv_name (i := 0)) sv_str) (ss_one (ss_ret (se_make E.mk_SomeNext (ok_Single_init E) (dFun_len rfl) hr (by rfl) E.m_SomeNext E.b_Single_init_1.2 E.b_Single_init_1.1 (sa_cons (se_move (i := 1)) sa_nil)))) ss_nil) (ss_cons (ss_if (st_cmp (op_eqD hr.units) v_eq (nomark _) (sv_name (i := 0)) sv_str) (ss_one (ss_ret (se_make E.mk_EachNext (ok_Single_init E) (dFun_len rfl) hr (by rfl) E.m_EachNext E.b_Single_init_1.2 E.b_Single_init_1.1 (sa_cons (se_move (i := 1)) sa_nil)))) ss_nil) (ss_cons (ss_if (st_cmp (op_eqD hr.units) v_eq (nomark _) (sv_name (i := 0)) sv_str) (ss_one (ss_ret (se_make E.mk_SomeAlways (ok_Single_init E) (dFun_len rfl) hr (by rfl) E.m_SomeAlways E.b_Single_init_1.2 E.b_Single_init_1.1 (sa_cons (se_move (i := 1)) sa_nil)))) ss_nil) (ss_cons (ss_if (st_cmp (op_eqD hr.units) v_eq (nomark _) (sv_name (i := 0)) sv_str) (ss_one (ss_ret (se_make E.mk_EachAlways (ok_Single_init E) (dFun_len rfl) hr (by rfl) E.m_EachAlways E.b_Single_init_1.2 E.b_Single_init_1.1 (sa_cons (se_move (i := 1)) sa_nil)))) ss_nil) (ss_cons (ss_if (st_cmp (op_eqD hr.units) v_eq (nomark _) (sv_name (i := 0)) sv_str) (ss_one (ss_ret (se_make E.mk_SomeEver (ok_Single_init E) (dFun_len rfl) hr (by rfl) E.m_SomeEver E.b_Single_init_1.2 E.b_Single_init_1.1 (sa_cons (se_move (i := 1)) sa_nil)))) ss_nil) (ss_one (ss_ret (se_make E.mk_EachEver (ok_Single_init E) (dFun_len rfl) hr (by rfl) E.m_EachEver E.b_Single_init_1.2 E.b_Single_init_1.1 (sa_cons (se_move (i := 1)) sa_nil)))))))))))
theorem ok_law_made (E : Txt K mg) : ∀ k : Nat, FnOk P w K mg base CX0 (4 + k) E.a_law_made E.fd_law_made ["_law_tree"] (spD K mg 1 (m_law_made k))
  | 0 => ok_def (W := []) (keep := [true]) (d := fun _ => none) E.F_law_made sc_law_made rfl rfl (by decide) fun cdv A outer s H E' hr => sss_none
  | k + 1 => by
    have nd := sc_law_made.nd
    have ih := ok_law_made E k
    exact ok_def (keep := [true]) (d := b_law_made (m_law_made k)) E.F_law_made sc_law_made rfl rfl (by decide) fun cdv A outer s H E' hr => ((ss_cons (ss_if (st_cmp (op_eqD hr.units) v_eq (nomark _) (sv_ix (hu_of hr) (sv_name (i := 0)) sv_int) sv_str) (ss_one (ss_ret (se_new0 E.k0_All (by rfl) E.m_All))) ss_nil) (ss_cons (ss_if (st_cmp (op_eqD hr.units) v_eq (nomark _) (sv_ix (hu_of hr) (sv_name (i := 0)) sv_int) sv_str) (ss_one (ss_ret (se_make E.mk_Mark (ok_Mark_init E) (dFun_len rfl) (hr.mono (show 2 ≤ 4 + k from Nat.le_trans (by decide : 2 ≤ 4) (Nat.le_add_right 4 k))) (by rfl) E.m_Mark E.b_Mark_init_1.2 E.b_Mark_init_1.1 (sa_cons (SE.fz 0 (SV.e (sv_ix (hu_of hr) (sv_name (i := 0)) sv_int))) sa_nil)))) ss_nil) (ss_cons (ss_setLc (i := 1) rfl nd rfl rfl (sw_true rfl rfl rfl (by decide +kernel)) (si_tup (se_slT (SV.r (sv_name (i := 0))) (SP2.so sv_int) SP2.no)) (blkOk_by (N := ["_law_tree", "_law_parts", "_law_part"]) (sc := defScope s_law_made) (own := [("_law_part", 2)]) (by decide +kernel)) rfl (by decide) (by decide) (fun _ _ _ _ _ => (sg_name (i := 2) nd rfl (by first | exact Or.inl rfl | exact Or.inr rfl))) (fun _ _ _ _ _ => (se_call ih (dRec_len rfl _) hr (by rfl) E.g_law_made E.F_law_made.kp E.b_law_made .nil (sa_cons (se_move (i := 2)) sa_nil)))) (ss_cons (ss_if (SW.t (sw_and (st_cmp (op_eqD hr.units) v_eq (nomark _) (sv_b1 call_lenA v_len PySem.boot_len (by rfl) E.n_len (sv_name (i := 0))) sv_int) (sw_and1 (st_cmp (op_eqD hr.units) v_eq (nomark _) (sv_ix (hu_of hr) (sv_name (i := 0)) sv_int) (sv_ix (hu_of hr) (sv_name (i := 0)) sv_int))))) (ss_one (ss_setL (i := 1) (SE.fzk 1 (SV.e (sv_ix (hu_of hr) (sv_name (i := 1)) sv_int))) sv_int)) ss_nil) (ss_cons (ss_if (st_cmp (op_eqD hr.units) v_eq (nomark _) (sv_b1 call_lenA v_len PySem.boot_len (by rfl) E.n_len (sv_name (i := 0))) sv_int) (ss_one (ss_ret (se_call (ok_law_single E) (dFun_len rfl) (hr.mono (show 3 ≤ 4 + k from Nat.le_trans (by decide : 3 ≤ 4) (Nat.le_add_right 4 k))) (by rfl) E.g_law_single E.F_law_single.kp E.b_law_single .nil (sa_cons (SE.fz 0 (SV.e (sv_ix (hu_of hr) (sv_name (i := 0)) sv_int))) (sa_cons (SE.fz 1 (SV.e (sv_ix (hu_of hr) (sv_name (i := 1)) sv_int))) sa_nil))))) ss_nil) (ss_cons (ss_if (st_cmp (op_eqD hr.units) v_eq (nomark _) (sv_ix (hu_of hr) (sv_name (i := 0)) sv_int) sv_str) (ss_one (ss_ret (se_make E.mk_Both (ok_Double_init E) (dFun_len rfl) (hr.mono (show 2 ≤ 4 + k from Nat.le_trans (by decide : 2 ≤ 4) (Nat.le_add_right 4 k))) (by rfl) E.m_Both E.b_Double_init_2.2 E.b_Double_init_2.1 (sa_cons (SE.fz 1 (SV.e (sv_ix (hu_of hr) (sv_name (i := 1)) sv_int))) (sa_cons (SE.fz 1 (SV.e (sv_ix (hu_of hr) (sv_name (i := 1)) sv_int))) sa_nil))))) ss_nil) (ss_cons (ss_if (st_cmp (op_eqD hr.units) v_eq (nomark _) (sv_ix (hu_of hr) (sv_name (i := 0)) sv_int) sv_str) (ss_one (ss_ret (se_make E.mk_Either (ok_Double_init E) (dFun_len rfl) (hr.mono (show 2 ≤ 4 + k from Nat.le_trans (by decide : 2 ≤ 4) (Nat.le_add_right 4 k))) (by rfl) E.m_Either E.b_Double_init_2.2 E.b_Double_init_2.1 (sa_cons (SE.fz 1 (SV.e (sv_ix (hu_of hr) (sv_name (i := 1)) sv_int))) (sa_cons (SE.fz 1 (SV.e (sv_ix (hu_of hr) (sv_name (i := 1)) sv_int))) sa_nil))))) ss_nil) (ss_cons (ss_if (st_cmp (op_eqD hr.units) v_eq (nomark _) (sv_ix (hu_of hr) (sv_name (i := 0)) sv_int) sv_str) (ss_one (ss_ret (se_make E.mk_SomeTill (ok_Double_init E) (dFun_len rfl) (hr.mono (show 2 ≤ 4 + k from Nat.le_trans (by decide : 2 ≤ 4) (Nat.le_add_right 4 k))) (by rfl) E.m_SomeTill E.b_Double_init_2.2 E.b_Double_init_2.1 (sa_cons (SE.fz 1 (SV.e (sv_ix (hu_of hr) (sv_name (i := 1)) sv_int))) (sa_cons (SE.fz 1 (SV.e (sv_ix (hu_of hr) (sv_name (i := 1)) sv_int))) sa_nil))))) ss_nil) (ss_one (ss_ret (se_make E.mk_EachTill (ok_Double_init E) (dFun_len rfl) (hr.mono (show 2 ≤ 4 + k from Nat.le_trans (by decide : 2 ≤ 4) (Nat.le_add_right 4 k))) (by rfl) E.m_EachTill E.b_Double_init_2.2 E.b_Double_init_2.1 (sa_cons (SE.fz 1 (SV.e (sv_ix (hu_of hr) (sv_name (i := 1)) sv_int))) (sa_cons (SE.fz 1 (SV.e (sv_ix (hu_of hr) (sv_name (i := 1)) sv_int))) sa_nil))))))))))))))
theorem ok_law_due (E : Txt K mg) : ∀ k : Nat, FnOk P w K mg base CX0 (1 + k) E.a_law_due E.fd_law_due ["_law_tree"] (spD K mg 1 (m_law_due k))
  | 0 => ok_def (W := []) (keep := [true]) (d := fun _ => none) E.F_law_due sc_law_due rfl rfl (by decide) fun cdv A outer s H E' hr => sss_none
  | k + 1 => by
    have nd := sc_law_due.nd
    have ih := ok_law_due E k
    exact ok_def (keep := [true]) (d := b_law_due (m_law_due k)) E.F_law_due sc_law_due rfl rfl (by decide) fun cdv A outer s H E' hr => ((ss_cons (ss_if (st_cmp (op_eqD hr.units) v_eq (nomark _) (sv_ix (hu_of hr) (sv_name (i := 0)) sv_int) sv_str) (ss_one (ss_ret (se_lst (sa_cons (SE.fz 0 (SV.e (sv_ix (hu_of hr) (sv_name (i := 0)) sv_int))) sa_nil)))) ss_nil) (ss_cons (ss_set (i := 1) nd rfl (by first | exact Or.inl rfl | exact Or.inr rfl) (se_lst (sa_cons (SE.fz 0 (SV.e (sv_ix (hu_of hr) (sv_name (i := 0)) sv_int))) sa_nil))) (ss_cons (ss_for PassesOwn.never rfl (si_tup (se_slT (SV.r (sv_name (i := 0))) (SP2.so sv_int) SP2.no)) (sg_name (i := 2) nd rfl (by first | exact Or.inl rfl | exact Or.inr rfl)) (ss_one (ss_set (i := 1) nd rfl (by first | exact Or.inl rfl | exact Or.inr rfl) (se_binn (i := 1) op_cat e_cat (SE.r (se_call ih (dRec_len rfl _) hr (by rfl) E.g_law_due E.F_law_due.kp E.b_law_due .nil (sa_cons (se_move (i := 2)) sa_nil))))))) (ss_one (ss_ret (se_move (i := 1))))))))
theorem ok_Saying_inside (E : Txt K mg) : FnOk P w K mg base CX0 1 E.a_Saying_inside E.fd_Saying_inside ["self"] (spD K mg 1 m_Saying_inside) :=
  have nd := sc_Saying_inside.nd
  ok_def (keep := [true]) (d := b_Saying_inside) E.F_Saying_inside sc_Saying_inside rfl rfl (by decide) fun cdv A outer s H E' hr => ((ss_one (ss_ret (se_lst sa_nil))))
theorem ok_Double_inside (E : Txt K mg) : FnOk P w K mg base CX0 1 E.a_Double_inside E.fd_Double_inside ["self"] (spD K mg 1 m_Double_inside) :=
  have nd := sc_Double_inside.nd
  ok_def (keep := [true]) (d := b_Double_inside) E.F_Double_inside sc_Double_inside rfl rfl (by decide) fun cdv A outer s H E' hr => ((ss_one (ss_ret (se_lst (sa_cons (SE.fz 0 (SV.e (sv_fldA (f_left E) (sv_name (i := 0))))) (sa_cons (SE.fz 0 (SV.e (sv_fldA (f_right E) (sv_name (i := 0))))) sa_nil))))))
theorem ok_Single_inside (E : Txt K mg) : FnOk P w K mg base CX0 1 E.a_Single_inside E.fd_Single_inside ["self"] (spD K mg 1 m_Single_inside) :=
  have nd := sc_Single_inside.nd
  ok_def (keep := [true]) (d := b_Single_inside) E.F_Single_inside sc_Single_inside rfl rfl (by decide) fun cdv A outer s H E' hr => ((ss_one (ss_ret (se_lst (sa_cons (SE.fz 0 (SV.e (sv_fldA (f_part E) (sv_name (i := 0))))) sa_nil)))))
theorem ok_All_word (E : Txt K mg) : FnOk P w K mg base CX0 1 E.a_All_word E.fd_All_word ["self"] (spD K mg 1 m_All_word) :=
  have nd := sc_All_word.nd
  ok_def (keep := [true]) (d := b_All_word) E.F_All_word sc_All_word rfl rfl (by decide) fun cdv A outer s H E' hr => ((ss_one (ss_ret (SV.e sv_str))))
theorem ok_Both_word (E : Txt K mg) : FnOk P w K mg base CX0 1 E.a_Both_word E.fd_Both_word ["self"] (spD K mg 1 m_Both_word) :=
  have nd := sc_Both_word.nd
  ok_def (keep := [true]) (d := b_Both_word) E.F_Both_word sc_Both_word rfl rfl (by decide) fun cdv A outer s H E' hr => ((ss_one (ss_ret (SV.e sv_str))))
theorem ok_EachAlways_word (E : Txt K mg) : FnOk P w K mg base CX0 1 E.a_EachAlways_word E.fd_EachAlways_word ["self"] (spD K mg 1 m_EachAlways_word) :=
  have nd := sc_EachAlways_word.nd
  ok_def (keep := [true]) (d := b_EachAlways_word) E.F_EachAlways_word sc_EachAlways_word rfl rfl (by decide) fun cdv A outer s H E' hr => ((ss_one (ss_ret (SV.e sv_str))))
theorem ok_EachEver_word (E : Txt K mg) : FnOk P w K mg base CX0 1 E.a_EachEver_word E.fd_EachEver_word ["self"] (spD K mg 1 m_EachEver_word) :=
  have nd := sc_EachEver_word.nd
  ok_def (keep := [true]) (d := b_EachEver_word) E.F_EachEver_word sc_EachEver_word rfl rfl (by decide) fun cdv A outer s H E' hr => ((ss_one (ss_ret (SV.e sv_str))))
theorem ok_EachNext_word (E : Txt K mg) : FnOk P w K mg base CX0 1 E.a_EachNext_word E.fd_EachNext_word ["self"] (spD K mg 1 m_EachNext_word) :=
  have nd := sc_EachNext_word.nd
  ok_def (keep := [true]) (d := b_EachNext_word) E.F_EachNext_word sc_EachNext_word rfl rfl (by decide) fun cdv A outer s H E' hr => ((ss_one (ss_ret (SV.e sv_str))))
theorem ok_EachTill_word (E : Txt K mg) : FnOk P w K mg base CX0 1 E.a_EachTill_word E.fd_EachTill_word ["self"] (spD K mg 1 m_EachTill_word) :=
  have nd := sc_EachTill_word.nd
  ok_def (keep := [true]) (d := b_EachTill_word) E.F_EachTill_word sc_EachTill_word rfl rfl (by decide) fun cdv A outer s H E' hr => ((ss_one (ss_ret (SV.e sv_str))))
theorem ok_Either_word (E : Txt K mg) : FnOk P w K mg base CX0 1 E.a_Either_word E.fd_Either_word ["self"] (spD K mg 1 m_Either_word) :=
  have nd := sc_Either_word.nd
  ok_def (keep := [true]) (d := b_Either_word) E.F_Either_word sc_Either_word rfl rfl (by decide) fun cdv A outer s H E' hr => ((ss_one (ss_ret (SV.e sv_str))))
theorem ok_Mark_word (E : Txt K mg) : FnOk P w K mg base CX0 1 E.a_Mark_word E.fd_Mark_word ["self"] (spD K mg 1 m_Mark_word) :=
  have nd := sc_Mark_word.nd
  ok_def (keep := [true]) (d := b_Mark_word) E.F_Mark_word sc_Mark_word rfl rfl (by decide) fun cdv A outer s H E' hr => ((ss_one (ss_ret (SE.fz 0 (SV.e (sv_fld E.m_Mark E.cl_Mark E.na_Mark_name (sv_name (i := 0))))))))
theorem ok_Not_word (E : Txt K mg) : FnOk P w K mg base CX0 1 E.a_Not_word E.fd_Not_word ["self"] (spD K mg 1 m_Not_word) :=
  have nd := sc_Not_word.nd
  ok_def (keep := [true]) (d := b_Not_word) E.F_Not_word sc_Not_word rfl rfl (by decide) fun cdv A outer s H E' hr => ((ss_one (ss_ret (SV.e sv_str))))
theorem ok_SomeAlways_word (E : Txt K mg) : FnOk P w K mg base CX0 1 E.a_SomeAlways_word E.fd_SomeAlways_word ["self"] (spD K mg 1 m_SomeAlways_word) :=
  have nd := sc_SomeAlways_word.nd
  ok_def (keep := [true]) (d := b_SomeAlways_word) E.F_SomeAlways_word sc_SomeAlways_word rfl rfl (by decide) fun cdv A outer s H E' hr => ((ss_one (ss_ret (SV.e sv_str))))
theorem ok_SomeEver_word (E : Txt K mg) : FnOk P w K mg base CX0 1 E.a_SomeEver_word E.fd_SomeEver_word ["self"] (spD K mg 1 m_SomeEver_word) :=
  have nd := sc_SomeEver_word.nd
  ok_def (keep := [true]) (d := b_SomeEver_word) E.F_SomeEver_word sc_SomeEver_word rfl rfl (by decide) fun cdv A outer s H E' hr => ((ss_one (ss_ret (SV.e sv_str))))
theorem ok_SomeNext_word (E : Txt K mg) : FnOk P w K mg base CX0 1 E.a_SomeNext_word E.fd_SomeNext_word ["self"] (spD K mg 1 m_SomeNext_word) :=
  have nd := sc_SomeNext_word.nd
  ok_def (keep := [true]) (d := b_SomeNext_word) E.F_SomeNext_word sc_SomeNext_word rfl rfl (by decide) fun cdv A outer s H E' hr => ((ss_one (ss_ret (SV.e sv_str))))
theorem ok_SomeTill_word (E : Txt K mg) : FnOk P w K mg base CX0 1 E.a_SomeTill_word E.fd_SomeTill_word ["self"] (spD K mg 1 m_SomeTill_word) :=
  have nd := sc_SomeTill_word.nd
  ok_def (keep := [true]) (d := b_SomeTill_word) E.F_SomeTill_word sc_SomeTill_word rfl rfl (by decide) fun cdv A outer s H E' hr => ((ss_one (ss_ret (SV.e sv_str))))
theorem ok_Saying_words (E : Txt K mg) : ∀ k : Nat, FnOk P w K mg base CX0 (2 + k) E.a_Saying_words E.fd_Saying_words ["self"] (spD K mg 1 (m_Saying_words k))
  | 0 => ok_def (W := []) (keep := [true]) (d := fun _ => none) E.F_Saying_words sc_Saying_words rfl rfl (by decide) fun cdv A outer s H E' hr => sss_none
  | k + 1 => by
    have nd := sc_Saying_words.nd
    have ih := ok_Saying_words E k
    exact ok_def (keep := [true]) (d := b_Saying_words (m_Saying_words k)) E.F_Saying_words sc_Saying_words rfl rfl (by decide) fun cdv A outer s H E' hr => ((ss_cons (ss_set (i := 1) nd rfl (by first | exact Or.inl rfl | exact Or.inr rfl) (se_lst (sa_cons (SE.els (se_meth0 E.m_All E.cl_All E.me_All__word (ok_All_word E) (dFun_len rfl) (hr.mono (show 1 ≤ 2 + k from Nat.le_trans (by decide : 1 ≤ 2) (Nat.le_add_right 2 k))) E.b_All_word .nil (se_share (i := 0))) (SE.els (se_meth0 E.m_Both E.cl_Both E.me_Both__word (ok_Both_word E) (dFun_len rfl) (hr.mono (show 1 ≤ 2 + k from Nat.le_trans (by decide : 1 ≤ 2) (Nat.le_add_right 2 k))) E.b_Both_word .nil (se_share (i := 0))) (SE.els (se_meth0 E.m_EachAlways E.cl_EachAlways E.me_EachAlways__word (ok_EachAlways_word E) (dFun_len rfl) (hr.mono (show 1 ≤ 2 + k from Nat.le_trans (by decide : 1 ≤ 2) (Nat.le_add_right 2 k))) E.b_EachAlways_word .nil (se_share (i := 0))) (SE.els (se_meth0 E.m_EachEver E.cl_EachEver E.me_EachEver__word (ok_EachEver_word E) (dFun_len rfl) (hr.mono (show 1 ≤ 2 + k from Nat.le_trans (by decide : 1 ≤ 2) (Nat.le_add_right 2 k))) E.b_EachEver_word .nil (se_share (i := 0))) (SE.els (se_meth0 E.m_EachNext E.cl_EachNext E.me_EachNext__word (ok_EachNext_word E) (dFun_len rfl) (hr.mono (show 1 ≤ 2 + k from Nat.le_trans (by decide : 1 ≤ 2) (Nat.le_add_right 2 k))) E.b_EachNext_word .nil (se_share (i := 0))) (SE.els (se_meth0 E.m_EachTill E.cl_EachTill E.me_EachTill__word (ok_EachTill_word E) (dFun_len rfl) (hr.mono (show 1 ≤ 2 + k from Nat.le_trans (by decide : 1 ≤ 2) (Nat.le_add_right 2 k))) E.b_EachTill_word .nil (se_share (i := 0))) (SE.els (se_meth0 E.m_Either E.cl_Either E.me_Either__word (ok_Either_word E) (dFun_len rfl) (hr.mono (show 1 ≤ 2 + k from Nat.le_trans (by decide : 1 ≤ 2) (Nat.le_add_right 2 k))) E.b_Either_word .nil (se_share (i := 0))) (SE.els (se_meth0 E.m_Mark E.cl_Mark E.me_Mark__word (ok_Mark_word E) (dFun_len rfl) (hr.mono (show 1 ≤ 2 + k from Nat.le_trans (by decide : 1 ≤ 2) (Nat.le_add_right 2 k))) E.b_Mark_word .nil (se_share (i := 0))) (SE.els (se_meth0 E.m_Not E.cl_Not E.me_Not__word (ok_Not_word E) (dFun_len rfl) (hr.mono (show 1 ≤ 2 + k from Nat.le_trans (by decide : 1 ≤ 2) (Nat.le_add_right 2 k))) E.b_Not_word .nil (se_share (i := 0))) (SE.els (se_meth0 E.m_SomeAlways E.cl_SomeAlways E.me_SomeAlways__word (ok_SomeAlways_word E) (dFun_len rfl) (hr.mono (show 1 ≤ 2 + k from Nat.le_trans (by decide : 1 ≤ 2) (Nat.le_add_right 2 k))) E.b_SomeAlways_word .nil (se_share (i := 0))) (SE.els (se_meth0 E.m_SomeEver E.cl_SomeEver E.me_SomeEver__word (ok_SomeEver_word E) (dFun_len rfl) (hr.mono (show 1 ≤ 2 + k from Nat.le_trans (by decide : 1 ≤ 2) (Nat.le_add_right 2 k))) E.b_SomeEver_word .nil (se_share (i := 0))) (SE.els (se_meth0 E.m_SomeNext E.cl_SomeNext E.me_SomeNext__word (ok_SomeNext_word E) (dFun_len rfl) (hr.mono (show 1 ≤ 2 + k from Nat.le_trans (by decide : 1 ≤ 2) (Nat.le_add_right 2 k))) E.b_SomeNext_word .nil (se_share (i := 0))) (se_meth0 E.m_SomeTill E.cl_SomeTill E.me_SomeTill__word (ok_SomeTill_word E) (dFun_len rfl) (hr.mono (show 1 ≤ 2 + k from Nat.le_trans (by decide : 1 ≤ 2) (Nat.le_add_right 2 k))) E.b_SomeTill_word .nil (se_share (i := 0))))))))))))))) sa_nil))) (ss_cons (ss_for PassesOwn.never rfl (si_list (SE.els (se_meth0 E.m_All E.cl_All E.me_All__inside (ok_Saying_inside E) (dFun_len rfl) (hr.mono (show 1 ≤ 2 + k from Nat.le_trans (by decide : 1 ≤ 2) (Nat.le_add_right 2 k))) E.b_Saying_inside .nil (se_move (i := 0))) (SE.els (se_meth0 E.m_Both E.cl_Both E.me_Both__inside (ok_Double_inside E) (dFun_len rfl) (hr.mono (show 1 ≤ 2 + k from Nat.le_trans (by decide : 1 ≤ 2) (Nat.le_add_right 2 k))) E.b_Double_inside .nil (se_move (i := 0))) (SE.els (se_meth0 E.m_EachAlways E.cl_EachAlways E.me_EachAlways__inside (ok_Single_inside E) (dFun_len rfl) (hr.mono (show 1 ≤ 2 + k from Nat.le_trans (by decide : 1 ≤ 2) (Nat.le_add_right 2 k))) E.b_Single_inside .nil (se_move (i := 0))) (SE.els (se_meth0 E.m_EachEver E.cl_EachEver E.me_EachEver__inside (ok_Single_inside E) (dFun_len rfl) (hr.mono (show 1 ≤ 2 + k from Nat.le_trans (by decide : 1 ≤ 2) (Nat.le_add_right 2 k))) E.b_Single_inside .nil (se_move (i := 0))) (SE.els (se_meth0 E.m_EachNext E.cl_EachNext E.me_EachNext__inside (ok_Single_inside E) (dFun_len rfl) (hr.mono (show 1 ≤ 2 + k from Nat.le_trans (by decide : 1 ≤ 2) (Nat.le_add_right 2 k))) E.b_Single_inside .nil (se_move (i := 0))) (SE.els (se_meth0 E.m_EachTill E.cl_EachTill E.me_EachTill__inside (ok_Double_inside E) (dFun_len rfl) (hr.mono (show 1 ≤ 2 + k from Nat.le_trans (by decide : 1 ≤ 2) (Nat.le_add_right 2 k))) E.b_Double_inside .nil (se_move (i := 0))) (SE.els (se_meth0 E.m_Either E.cl_Either E.me_Either__inside (ok_Double_inside E) (dFun_len rfl) (hr.mono (show 1 ≤ 2 + k from Nat.le_trans (by decide : 1 ≤ 2) (Nat.le_add_right 2 k))) E.b_Double_inside .nil (se_move (i := 0))) (SE.els (se_meth0 E.m_Mark E.cl_Mark E.me_Mark__inside (ok_Saying_inside E) (dFun_len rfl) (hr.mono (show 1 ≤ 2 + k from Nat.le_trans (by decide : 1 ≤ 2) (Nat.le_add_right 2 k))) E.b_Saying_inside .nil (se_move (i := 0))) (SE.els (se_meth0 E.m_Not E.cl_Not E.me_Not__inside (ok_Single_inside E) (dFun_len rfl) (hr.mono (show 1 ≤ 2 + k from Nat.le_trans (by decide : 1 ≤ 2) (Nat.le_add_right 2 k))) E.b_Single_inside .nil (se_move (i := 0))) (SE.els (se_meth0 E.m_SomeAlways E.cl_SomeAlways E.me_SomeAlways__inside (ok_Single_inside E) (dFun_len rfl) (hr.mono (show 1 ≤ 2 + k from Nat.le_trans (by decide : 1 ≤ 2) (Nat.le_add_right 2 k))) E.b_Single_inside .nil (se_move (i := 0))) (SE.els (se_meth0 E.m_SomeEver E.cl_SomeEver E.me_SomeEver__inside (ok_Single_inside E) (dFun_len rfl) (hr.mono (show 1 ≤ 2 + k from Nat.le_trans (by decide : 1 ≤ 2) (Nat.le_add_right 2 k))) E.b_Single_inside .nil (se_move (i := 0))) (SE.els (se_meth0 E.m_SomeNext E.cl_SomeNext E.me_SomeNext__inside (ok_Single_inside E) (dFun_len rfl) (hr.mono (show 1 ≤ 2 + k from Nat.le_trans (by decide : 1 ≤ 2) (Nat.le_add_right 2 k))) E.b_Single_inside .nil (se_move (i := 0))) (se_meth0 E.m_SomeTill E.cl_SomeTill E.me_SomeTill__inside (ok_Double_inside E) (dFun_len rfl) (hr.mono (show 1 ≤ 2 + k from Nat.le_trans (by decide : 1 ≤ 2) (Nat.le_add_right 2 k))) E.b_Double_inside .nil (se_move (i := 0)))))))))))))))) (sg_name (i := 2) nd rfl (by first | exact Or.inl rfl | exact Or.inr rfl)) (ss_one (ss_ex (se_mut (i := 1) PySem.F.plainAttrs_list PySem.F.slot_list_extend PySem.F.type_list_extend mt_extend m_extend (sa_cons (SE.els (se_meth0 E.m_All E.cl_All E.me_All__words ih (dRec_len rfl _) hr E.b_Saying_words .nil (se_move (i := 2))) (SE.els (se_meth0 E.m_Both E.cl_Both E.me_Both__words ih (dRec_len rfl _) hr E.b_Saying_words .nil (se_move (i := 2))) (SE.els (se_meth0 E.m_EachAlways E.cl_EachAlways E.me_EachAlways__words ih (dRec_len rfl _) hr E.b_Saying_words .nil (se_move (i := 2))) (SE.els (se_meth0 E.m_EachEver E.cl_EachEver E.me_EachEver__words ih (dRec_len rfl _) hr E.b_Saying_words .nil (se_move (i := 2))) (SE.els (se_meth0 E.m_EachNext E.cl_EachNext E.me_EachNext__words ih (dRec_len rfl _) hr E.b_Saying_words .nil (se_move (i := 2))) (SE.els (se_meth0 E.m_EachTill E.cl_EachTill E.me_EachTill__words ih (dRec_len rfl _) hr E.b_Saying_words .nil (se_move (i := 2))) (SE.els (se_meth0 E.m_Either E.cl_Either E.me_Either__words ih (dRec_len rfl _) hr E.b_Saying_words .nil (se_move (i := 2))) (SE.els (se_meth0 E.m_Mark E.cl_Mark E.me_Mark__words ih (dRec_len rfl _) hr E.b_Saying_words .nil (se_move (i := 2))) (SE.els (se_meth0 E.m_Not E.cl_Not E.me_Not__words ih (dRec_len rfl _) hr E.b_Saying_words .nil (se_move (i := 2))) (SE.els (se_meth0 E.m_SomeAlways E.cl_SomeAlways E.me_SomeAlways__words ih (dRec_len rfl _) hr E.b_Saying_words .nil (se_move (i := 2))) (SE.els (se_meth0 E.m_SomeEver E.cl_SomeEver E.me_SomeEver__words ih (dRec_len rfl _) hr E.b_Saying_words .nil (se_move (i := 2))) (SE.els (se_meth0 E.m_SomeNext E.cl_SomeNext E.me_SomeNext__words ih (dRec_len rfl _) hr E.b_Saying_words .nil (se_move (i := 2))) (se_meth0 E.m_SomeTill E.cl_SomeTill E.me_SomeTill__words ih (dRec_len rfl _) hr E.b_Saying_words .nil (se_move (i := 2))))))))))))))) sa_nil))))) (ss_one (ss_ret (se_move (i := 1)))))))
theorem ok_law_texts (E : Txt K mg) : FnOk P w K mg base CX0 1 E.a_law_texts E.fd_law_texts ["_law_found", "_law_due_here"] (spD K mg 2 m_law_texts) :=
  have nd := sc_law_texts.nd
  ok_def (keep := [true, true]) (d := b_law_texts) E.F_law_texts sc_law_texts rfl rfl (by decide) fun cdv A outer s H E' hr => ((ss_cons (ss_if (SW.t (sw_or (st_not (ST.val (SV.r (sv_isi (b := "list") (by decide) (by decide +kernel) (by rfl) E.n_isinstance (by rfl) E.n_list (sv_name (i := 0)))))) (sw_or1 (st_cmp (op_neD hr.units) v_ne (nomark _) (sv_b1 call_lenA v_len PySem.boot_len (by rfl) E.n_len (sv_name (i := 0))) (sv_b1 call_lenA v_len PySem.boot_len (by rfl) E.n_len (sv_name (i := 1))))))) (ss_one (ss_ret (SV.e sv_bl))) ss_nil) (ss_cons (ss_for PassesOwn.never rfl (si_zip (by rfl) E.n_zip (sa_cons (se_move (i := 0)) (sa_cons (se_move (i := 1)) sa_nil))) (sg_two rfl (sg_name (i := 2) nd rfl (by first | exact Or.inl rfl | exact Or.inr rfl)) (sg_name (i := 3) nd rfl (by first | exact Or.inl rfl | exact Or.inr rfl))) (ss_one (ss_if (SW.t (sw_or (st_not (ST.val (SV.r (sv_isi (b := "str") (by decide) (by decide +kernel) (by rfl) E.n_isinstance (by rfl) E.n_str (sv_name (i := 2)))))) (sw_or1 (st_cmp (op_neD hr.units) v_ne (nomark _) (sv_name (i := 2)) (sv_name (i := 3)))))) (ss_one (ss_ret (SV.e sv_bl))) ss_nil))) (ss_one (ss_ret (SV.e sv_bl))))))
theorem ok_law_name (E : Txt K mg) : FnOk P w K mg base CX0 1 E.a_law_name E.fd_law_name ["_law_k", "_law_seed"] (spD K mg 2 m_law_name) :=
  have nd := sc_law_name.nd
  ok_def (keep := [true, true]) (d := b_law_name) E.F_law_name sc_law_name rfl rfl (by decide) fun cdv A outer s H E' hr => ((ss_cons (ss_set (i := 2) nd rfl (by first | exact Or.inl rfl | exact Or.inr rfl) (SV.e sv_str)) (ss_cons (ss_set (i := 3) nd rfl (by first | exact Or.inl rfl | exact Or.inr rfl) (SV.e (sv_bin op_addS v_add sv_int (sv_bin op_mod v_mod (sv_name (i := 1)) sv_int)))) (ss_cons (ss_set (i := 4) nd rfl (by first | exact Or.inl rfl | exact Or.inr rfl) (SV.e (sv_bin op_mod v_mod (sv_bin op_fdiv v_div (sv_name (i := 1)) sv_int) (sv_name (i := 3))))) (ss_cons (ss_set (i := 5) nd rfl (by first | exact Or.inl rfl | exact Or.inr rfl) (SV.e (sv_ix (hu_of hr) (sv_name (i := 2)) (sv_bin op_mod v_mod (sv_bin op_fdiv v_div (sv_name (i := 1)) sv_int) sv_int)))) (ss_cons (ss_set (i := 6) nd rfl (by first | exact Or.inl rfl | exact Or.inr rfl) (SR.e (sr_binv op_addS v_add (sr_join sv_str (SE.r (se_lc rfl nd (si_rng (by rfl) E.n_range (SV.r (sv_name (i := 4)))) (blkOk_by (N := ["_law_k", "_law_seed", "_law_letters", "_law_size", "_law_spot", "_law_base", "_law_text", "_law_j"]) (sc := defScope s_law_name) (own := [("_law_j", 7)]) (by decide +kernel)) rfl (by decide) (by decide) (fun _ _ _ _ _ => (sg_name (i := 7) nd rfl (by first | exact Or.inl rfl | exact Or.inr rfl))) (fun _ _ _ _ _ => (se_share (i := 5)))))) (sv_ix (hu_of hr) (sv_name (i := 2)) (sv_bin op_mod v_mod (sv_bin op_addS v_add (sv_bin op_fdiv v_div (sv_name (i := 1)) sv_int) (sv_name (i := 0))) sv_int))))) (ss_cons (ss_set (i := 6) nd rfl (by first | exact Or.inl rfl | exact Or.inr rfl) (SR.e (sr_binn (i := 6) op_addS v_add (sr_join sv_str (SE.r (se_lc rfl nd (si_rng (by rfl) E.n_range (SV.r (sv_bin op_sub v_sub (sv_bin op_sub v_sub (sv_name (i := 3)) (sv_name (i := 4))) sv_int))) (blkOk_by (N := ["_law_k", "_law_seed", "_law_letters", "_law_size", "_law_spot", "_law_base", "_law_text", "_law_j"]) (sc := defScope s_law_name) (own := [("_law_j", 7)]) (by decide +kernel)) rfl (by decide) (by decide) (fun _ _ _ _ _ => (sg_name (i := 7) nd rfl (by first | exact Or.inl rfl | exact Or.inr rfl))) (fun _ _ _ _ _ => (se_share (i := 5))))))))) (ss_cons (ss_if (st_cmp (op_eqD hr.units) v_eq (nomark _) (sv_name (i := 6)) sv_str) (ss_one (ss_ret (SV.e sv_str))) ss_nil) (ss_one (ss_ret (se_move (i := 6))))))))))))
theorem ok_law (E : Txt K mg) : FnOk P w K mg base CX0 21 E.a_law E.fd_law ["_law_script"] (spD K mg 1 m_law) :=
  have nd := sc_law.nd
  ok_def (keep := [true]) (d := b_law) E.F_law sc_law rfl rfl (by decide) fun cdv A outer s H E' hr => ((ss_cons (ss_setLc (i := 1) rfl nd rfl rfl (sw_true rfl rfl rfl (by decide +kernel)) (si_rev (by rfl) E.n_reversed (se_slL (SV.r (sv_name (i := 0))) (SP2.so sv_int) (SP2.so sv_int))) (blkOk_by (N := ["_law_script", "_law_rest", "_law_seed", "_law_names", "_law_tree", "_law_saying", "_law_due_here", "_law_found", "_law_cell_here", "_law_k"]) (sc := defScope s_law) (own := [("_law_cell_here", 8)]) (by decide +kernel)) rfl (by decide) (by decide) (fun _ _ _ _ _ => (sg_name (i := 8) nd rfl (by first | exact Or.inl rfl | exact Or.inr rfl))) (fun _ _ _ _ _ => (se_move (i := 8)))) (ss_cons (ss_set (i := 2) nd rfl (by first | exact Or.inl rfl | exact Or.inr rfl) (SR.e (sr_b1 (cr_sum rfl) v_sum (by decide +kernel) (by rfl) E.n_sum (SE.r (se_slL (SV.r (sv_name (i := 0))) SP2.no (SP2.so sv_int)))))) (ss_cons (ss_setLc (i := 3) rfl nd rfl rfl (sw_true rfl rfl rfl (by decide +kernel)) (si_rng (by rfl) E.n_range (sr_binv op_mod v_mod (sr_b1 (cr_sum rfl) v_sum (by decide +kernel) (by rfl) E.n_sum (SE.r (se_slL (SV.r (sv_name (i := 0))) (SP2.so sv_int) (SP2.so sv_int)))) sv_int)) (blkOk_by (N := ["_law_script", "_law_rest", "_law_seed", "_law_names", "_law_tree", "_law_saying", "_law_due_here", "_law_found", "_law_cell_here", "_law_k"]) (sc := defScope s_law) (own := [("_law_k", 9)]) (by decide +kernel)) rfl (by decide) (by decide) (fun _ _ _ _ _ => (sg_name (i := 9) nd rfl (by first | exact Or.inl rfl | exact Or.inr rfl))) (fun _ _ _ _ _ => (se_call (ok_law_name E) (dFun_len rfl) (hr.mono (by decide)) (by rfl) E.g_law_name E.F_law_name.kp E.b_law_name .nil (sa_cons (se_move (i := 9)) (sa_cons (se_share (i := 2)) sa_nil))))) (ss_cons (ss_set (i := 4) nd rfl (by first | exact Or.inl rfl | exact Or.inr rfl) (se_call (ok_law_grown E 16) (dRec_len rfl _) (hr.mono (by decide)) (by rfl) E.g_law_grown E.F_law_grown.kp E.b_law_grown .nil (sa_cons (se_move (i := 1)) (sa_cons (se_move (i := 3)) (sa_cons (SV.e sv_int) sa_nil))))) (ss_cons (ss_set (i := 5) nd rfl (by first | exact Or.inl rfl | exact Or.inr rfl) (se_call (ok_law_made E 16) (dRec_len rfl _) hr (by rfl) E.g_law_made E.F_law_made.kp E.b_law_made .nil (sa_cons (se_share (i := 4)) sa_nil))) (ss_cons (ss_set (i := 6) nd rfl (by first | exact Or.inl rfl | exact Or.inr rfl) (se_call (ok_law_due E 16) (dRec_len rfl _) (hr.mono (by decide)) (by rfl) E.g_law_due E.F_law_due.kp E.b_law_due .nil (sa_cons (se_move (i := 4)) sa_nil))) (ss_cons (ss_set (i := 7) nd rfl (by first | exact Or.inl rfl | exact Or.inr rfl) (SE.els (se_meth0 E.m_All E.cl_All E.me_All__words (ok_Saying_words E 16) (dRec_len rfl _) (hr.mono (by decide)) E.b_Saying_words .nil (se_share (i := 5))) (SE.els (se_meth0 E.m_Both E.cl_Both E.me_Both__words (ok_Saying_words E 16) (dRec_len rfl _) (hr.mono (by decide)) E.b_Saying_words .nil (se_share (i := 5))) (SE.els (se_meth0 E.m_EachAlways E.cl_EachAlways E.me_EachAlways__words (ok_Saying_words E 16) (dRec_len rfl _) (hr.mono (by decide)) E.b_Saying_words .nil (se_share (i := 5))) (SE.els (se_meth0 E.m_EachEver E.cl_EachEver E.me_EachEver__words (ok_Saying_words E 16) (dRec_len rfl _) (hr.mono (by decide)) E.b_Saying_words .nil (se_share (i := 5))) (SE.els (se_meth0 E.m_EachNext E.cl_EachNext E.me_EachNext__words (ok_Saying_words E 16) (dRec_len rfl _) (hr.mono (by decide)) E.b_Saying_words .nil (se_share (i := 5))) (SE.els (se_meth0 E.m_EachTill E.cl_EachTill E.me_EachTill__words (ok_Saying_words E 16) (dRec_len rfl _) (hr.mono (by decide)) E.b_Saying_words .nil (se_share (i := 5))) (SE.els (se_meth0 E.m_Either E.cl_Either E.me_Either__words (ok_Saying_words E 16) (dRec_len rfl _) (hr.mono (by decide)) E.b_Saying_words .nil (se_share (i := 5))) (SE.els (se_meth0 E.m_Mark E.cl_Mark E.me_Mark__words (ok_Saying_words E 16) (dRec_len rfl _) (hr.mono (by decide)) E.b_Saying_words .nil (se_share (i := 5))) (SE.els (se_meth0 E.m_Not E.cl_Not E.me_Not__words (ok_Saying_words E 16) (dRec_len rfl _) (hr.mono (by decide)) E.b_Saying_words .nil (se_share (i := 5))) (SE.els (se_meth0 E.m_SomeAlways E.cl_SomeAlways E.me_SomeAlways__words (ok_Saying_words E 16) (dRec_len rfl _) (hr.mono (by decide)) E.b_Saying_words .nil (se_share (i := 5))) (SE.els (se_meth0 E.m_SomeEver E.cl_SomeEver E.me_SomeEver__words (ok_Saying_words E 16) (dRec_len rfl _) (hr.mono (by decide)) E.b_Saying_words .nil (se_share (i := 5))) (SE.els (se_meth0 E.m_SomeNext E.cl_SomeNext E.me_SomeNext__words (ok_Saying_words E 16) (dRec_len rfl _) (hr.mono (by decide)) E.b_Saying_words .nil (se_share (i := 5))) (se_meth0 E.m_SomeTill E.cl_SomeTill E.me_SomeTill__words (ok_Saying_words E 16) (dRec_len rfl _) (hr.mono (by decide)) E.b_Saying_words .nil (se_share (i := 5)))))))))))))))) (ss_cons (ss_if (SW.t (sw_or (st_not (ST.val (SV.r (sv_isC (by rfl) E.n_isinstance (by rfl) E.m_Saying (is_Saying E) (sv_name (i := 5)))))) (sw_or1 (st_not (ST.val (SE.r (SE.bw (se_call (ok_law_texts E) (dFun_len rfl) (hr.mono (by decide)) (by rfl) E.g_law_texts E.F_law_texts.kp E.b_law_texts .nil (sa_cons (se_share (i := 7)) (sa_cons (se_share (i := 6)) sa_nil)))))))))) (ss_one (ss_ret (SV.e sv_bl))) ss_nil) (ss_cons (ss_ex (se_mut0 (i := 7) PySem.F.plainAttrs_list PySem.F.slot_list_clear PySem.F.type_list_clear mt_clear m_clear)) (ss_one (ss_ret (SE.bw (se_call (ok_law_texts E) (dFun_len rfl) (hr.mono (by decide)) (by rfl) E.g_law_texts E.F_law_texts.kp E.b_law_texts .nil (sa_cons (SE.els (se_meth0 E.m_All E.cl_All E.me_All__words (ok_Saying_words E 16) (dRec_len rfl _) (hr.mono (by decide)) E.b_Saying_words .nil (se_move (i := 5))) (SE.els (se_meth0 E.m_Both E.cl_Both E.me_Both__words (ok_Saying_words E 16) (dRec_len rfl _) (hr.mono (by decide)) E.b_Saying_words .nil (se_move (i := 5))) (SE.els (se_meth0 E.m_EachAlways E.cl_EachAlways E.me_EachAlways__words (ok_Saying_words E 16) (dRec_len rfl _) (hr.mono (by decide)) E.b_Saying_words .nil (se_move (i := 5))) (SE.els (se_meth0 E.m_EachEver E.cl_EachEver E.me_EachEver__words (ok_Saying_words E 16) (dRec_len rfl _) (hr.mono (by decide)) E.b_Saying_words .nil (se_move (i := 5))) (SE.els (se_meth0 E.m_EachNext E.cl_EachNext E.me_EachNext__words (ok_Saying_words E 16) (dRec_len rfl _) (hr.mono (by decide)) E.b_Saying_words .nil (se_move (i := 5))) (SE.els (se_meth0 E.m_EachTill E.cl_EachTill E.me_EachTill__words (ok_Saying_words E 16) (dRec_len rfl _) (hr.mono (by decide)) E.b_Saying_words .nil (se_move (i := 5))) (SE.els (se_meth0 E.m_Either E.cl_Either E.me_Either__words (ok_Saying_words E 16) (dRec_len rfl _) (hr.mono (by decide)) E.b_Saying_words .nil (se_move (i := 5))) (SE.els (se_meth0 E.m_Mark E.cl_Mark E.me_Mark__words (ok_Saying_words E 16) (dRec_len rfl _) (hr.mono (by decide)) E.b_Saying_words .nil (se_move (i := 5))) (SE.els (se_meth0 E.m_Not E.cl_Not E.me_Not__words (ok_Saying_words E 16) (dRec_len rfl _) (hr.mono (by decide)) E.b_Saying_words .nil (se_move (i := 5))) (SE.els (se_meth0 E.m_SomeAlways E.cl_SomeAlways E.me_SomeAlways__words (ok_Saying_words E 16) (dRec_len rfl _) (hr.mono (by decide)) E.b_Saying_words .nil (se_move (i := 5))) (SE.els (se_meth0 E.m_SomeEver E.cl_SomeEver E.me_SomeEver__words (ok_Saying_words E 16) (dRec_len rfl _) (hr.mono (by decide)) E.b_Saying_words .nil (se_move (i := 5))) (SE.els (se_meth0 E.m_SomeNext E.cl_SomeNext E.me_SomeNext__words (ok_Saying_words E 16) (dRec_len rfl _) (hr.mono (by decide)) E.b_Saying_words .nil (se_move (i := 5))) (se_meth0 E.m_SomeTill E.cl_SomeTill E.me_SomeTill__words (ok_Saying_words E 16) (dRec_len rfl _) (hr.mono (by decide)) E.b_Saying_words .nil (se_move (i := 5))))))))))))))) (sa_cons (se_move (i := 6)) sa_nil))))))))))))))))
end
end Wk


set_option Elab.async false
set_option linter.all false
set_option autoImplicit false
set_option maxRecDepth 100000
set_option maxHeartbeats 4000000
/-! LC: the next cell (_law_cell). -/
namespace Pm
open PySem PySem.Spec PyProof.Rows L2 Tr Wk
local macro_rules | `(tactic| exists $es,*) => do { let ls ← es.getElems.mapM fun e => `(Lean.Parser.Tactic.simpLemma| $e:term); `(tactic| simp -implicitDefEqProofs (disch := (first | assumption | omega | decide | (simp only [List.length_cons, List.length_nil, List.length_append, List.length_map, Tr.rgI_len]; omega) | (simp only [List.length_cons, List.length_nil, List.length_append, List.length_map, Int.toNat_natCast] at *; omega))) only [Tr.okT_lf, Tr.okT_nd, Tr.okT_li, Tr.okT_ll, Tr.okT_dk, Tr.okT_mks, Tr.okT_mk1, Tr.okT_mch, Tr.okT_scr, Tr.okT_tp, Tr.okO_some, Tr.gV_ev, Tr.gC_ev, Tr.gG_ev, Tr.fM_ev, Tr.fS_ev, Tr.gM_ev, Tr.gS_ev, Tr.fP_ev, Tr.fQ_ev, Tr.vr_ev, Tr.fRe_ev, Tr.re_ev, Tr.fO1_ev, Tr.o1V_ev, Tr.o1_ev, Tr.fO2V_ev, Tr.o2V_ev, Tr.fO2v'_ev, Tr.fO2v_ev, Tr.o2v_ev, Tr.fO2o'_ev, Tr.fO2o_ev, Tr.o2o_ev, Tr.fO2c'_ev, Tr.fO2c_ev, Tr.o2c_ev, Tr.fO2n''_ev, Tr.fO2n'_ev, Tr.fO2n_ev, Tr.o2n_ev, Tr.fAnd_ev, Tr.fOr_ev, Tr.dAnd_ev, Tr.dOr_ev, Tr.ite_BB, Tr.ite_decF, Tr.ite_Tdec, Tr.z_cast, Tr.z_ndec, Tr.ite_TF, Tr.ite_FT, Tr.bind_ite, Tr.aNil_ev, Tr.fCons'_ev, Tr.fCons_ev, Tr.aCons_ev, Tr.fCall'_ev, Tr.fCall_ev, Tr.dCall_ev, Tr.wb_nil, Tr.wb_none, Tr.fWb_ev, Tr.wb_some, Tr.fMeth'_ev, Tr.fMeth_ev, Tr.dMeth_ev, Tr.fMake'_ev, Tr.fMake_ev, Tr.dMake_ev, Tr.fSeq_nx, Tr.fSeq_rt, Tr.fSeq_bk, Tr.fSeq_ct, Tr.dSeq_ev, Tr.fIf_ev, Tr.dIf_ev, Tr.fSet_ev, Tr.dSet_ev, Tr.fRet_ev, Tr.dRet_ev, Tr.fEx_ev, Tr.dEx_ev, Tr.dRetN_ev, Tr.dNx_ev, Tr.dBk_ev, Tr.dCt_ev, Tr.dFail_ev, Tr.fPut''_ev, Tr.fPut'_ev, Tr.fPut1_ev, Tr.fPut_ev, Tr.dPut_ev, Tr.fMut3_ev, Tr.fMut2_ev, Tr.fMut1_ev, Tr.fMut_ev, Tr.dMut_ev, Tr.fLst_ev, Tr.fTup_ev, Tr.dLst_ev, Tr.dTup_ev, Tr.dDic_ev, Tr.fBw_ev, Tr.bw_ev, Tr.fFz_ev, Tr.fz_ev, Tr.fAug''_ev, Tr.fAug'_ev, Tr.fAug_ev, Tr.dAug_ev, Tr.z_ex, Tr.z_exT, Tr.fRng_nat, Tr.dRng_ev, Tr.fIt'_ev, Tr.fIt_ev, Tr.dIt_ev, Tr.fFor_ev, Tr.dFor_ev, Tr.gN_ev, Tr.fG_ev, Tr.gT2_ev, Tr.gT2_mk1, Tr.dFr_nil, Tr.turn_ev, Tr.fFr_nx, Tr.fFr_ct, Tr.fFr_bk, Tr.fFr_rt, Tr.dFr_cons, Tr.fLc'_ev, Tr.fLc_ev, Tr.dLc_ev, Tr.dLr_nil, Tr.wipeT_nil, Tr.wipeT_cons, Tr.backT_nil, Tr.backT_cons, Tr.cleanAt_nil, Tr.cleanAt_cons, Tr.fFun_rt, Tr.fFun_nx, Tr.dFun_ev, Tr.outs_cons, Tr.outs_nil, Tr.frzs_nil, Tr.frzs_cons, Tr.z_frz1, Tr.z_frz2, Tr.z_frz3, Tr.z_frz4, Tr.z_frz5, Tr.z_frz6, Tr.z_frz7, Tr.z_frz8, Tr.z_frz9, Tr.z_frz10, Tr.z_frz11, Tr.z_cln1, Tr.z_cln2, Tr.z_cln3, Tr.z_cln4, Tr.z_cln5, Tr.z_cln6, Tr.z_cln7, Tr.z_cln8, Tr.z_cln9, Tr.z_cln10, Tr.z_clns1, Tr.z_clns2, Tr.z_clns3, Tr.z_pure1, Tr.z_pure2, Tr.z_pure3, Tr.z_pure4, Tr.z_pure5, Tr.z_pure6, Tr.z_pure7, Tr.z_lfI, Tr.z_li, Tr.z_add, Tr.z_sub, Tr.z_mulr, Tr.z_mod, Tr.z_div, Tr.z_lt, Tr.z_le, Tr.z_gt, Tr.z_ge, Tr.z_eq, Tr.z_ne, Tr.z_neg, Tr.z_eqli, Tr.z_neli, Tr.z_eqnil, Tr.z_nenil, Tr.z_inli, Tr.z_ninli, Tr.z_indk, Tr.z_nindk, Tr.z_ll, Tr.z_mks, Tr.z_nil, Tr.z_appll, Tr.z_int1, Tr.z_int2, Tr.z_len1, Tr.z_len2, Tr.z_len3, Tr.z_len4, Tr.z_len5, Tr.z_len6, Tr.z_len7, Tr.z_not, Tr.z_isi1, Tr.z_isi2, Tr.z_isi3, Tr.z_isi4, Tr.z_isi5, Tr.z_isi6, Tr.z_list1, Tr.z_sort1, Tr.z_sort2, Tr.z_app1, Tr.z_app2, Tr.z_pop1, Tr.z_clr1, Tr.z_clr2, Tr.z_rev1, Tr.z_ext1, Tr.z_cat1, Tr.z_it1, Tr.z_it2, Tr.z_it3, Tr.z_it4, Tr.z_ty1, Tr.z_ty2, Tr.z_ty3, Tr.z_ty4, Tr.z_fst, Tr.z_fma, Tr.z_ffa, Tr.z_ins1, Tr.z_ins2, Tr.z_ins3, Tr.z_ins4, Tr.z_ins5, Tr.z_ixli, Tr.z_ixll, Tr.z_ixlast, Tr.z_setdk, Tr.fDic1_ev, Tr.fDic1'_ev, Tr.dDic1_ev, Tr.fLRg_nat, Tr.dLRg_ev, Tr.z_len8, Tr.z_bind_some, Tr.z_get0, Tr.z_gets, Tr.z_getD0, Tr.z_getDs, Tr.z_set0, Tr.z_sets, Tr.z_app, Tr.z_nil_app, Tr.z_app_nil, Tr.z_map0, Tr.z_mapc, Tr.z_rep0, Tr.z_reps, Tr.z_lenc, Tr.z_lenn, Tr.z_c0, Tr.z_c1, Tr.z_c2, Tr.z_c3, Tr.z_okoV, Tr.z_okrk, Tr.z_okrl, Tr.z_frzoV, Tr.z_clnoV, Tr.z_pureoV, Tr.z_frzrk, Tr.z_clnrk, Tr.z_frzrl, Tr.z_clnrl, Tr.z_ixrl, Tr.z_lenrl, Tr.z_isirl, Tr.z_tyrl, Tr.z_clrrl, Tr.z_oVs, Tr.z_oVn, Tr.z_rks, Tr.z_rkn, Tr.z_ixt0, Tr.z_ixt1, Tr.z_isN1, Tr.z_isN2, Tr.z_isN3, Tr.z_notN1, Tr.z_notN2, Tr.z_notN3, Tr.z_isN4, Tr.z_notN4, Tr.z_isN5, Tr.z_notN5, Tr.fCh3_ev, Tr.fCh2_ev, Tr.fCh1_ev, Tr.z_ch, Tr.z_okdls, Tr.z_frzdls, Tr.z_clndls, Tr.z_ixdls, Tr.z_indls, Tr.z_okdds, Tr.z_frzdds, Tr.z_clndds, Tr.z_ixdds, Tr.fAsg'_ev, Tr.fAsg_ev, Tr.dAsg_ev, Tr.fBwS_ev, Tr.bwS_ev, Tr.fPt_ev, Tr.ptT_no, Tr.ptT_so, Tr.fSl2_ev, Tr.fSl1_ev, Tr.fSl_ev, Tr.dSl_ev, Tr.z_slli, Tr.z_cutTail, Tr.z_cutInit, Tr.z_okst, Tr.z_frzst, Tr.z_clnst, Tr.z_purest, Tr.z_addst, Tr.z_lenst, Tr.z_inst1, Tr.z_ninst1, Tr.z_ixst, Tr.eqL_self, Tr.eqL_nn, Tr.eqL_nc, Tr.eqL_cn, Tr.eqL_cc, Tr.z_eqst, Tr.z_nest, Tr.z_insl, Tr.z_ninsl, Tr.z_sq1, Tr.z_sq2, Tr.z_sq3, Tr.z_itst, Tr.z_isist, Tr.z_slst, Tr.z_cutOne, Tr.lit_all, Tr.lit_not, Tr.lit_both, Tr.lit_either, Tr.lit_somenext, Tr.lit_eachnext, Tr.lit_sometill, Tr.lit_eachtill, Tr.lit_someever, Tr.lit_eachever, Tr.lit_somealways, Tr.lit_eachalways, Tr.lit_mark, Tr.lit_loop, Tr.lit_rank, Tr.lit_walk, Tr.lit_shut, Tr.lit_out, Tr.lit_here, Tr.lit_dead, Tr.lit_plain, Tr.lit_step, Tr.lit_none, Tr.lit_fair, Tr.lit_answer, Tr.lit_p, Tr.lit_wet, Tr.lit_darkness, Tr.lit_x, Tr.lit_q, Tr.lit_empty, Tr.lit_in, Tr.lit_letters, Tr.z_kept, Tr.z_catX12, Tr.z_catT12, Tr.z_ixt2, ↓reduceIte, ite_true, ite_false, Nat.reduceAdd, Nat.reduceSub, Nat.reduceLT, Nat.reduceLeDiff, Nat.zero_add, Nat.lt_add_one, Nat.zero_lt_succ, decide_true, decide_false, decide_eq_true_eq, decide_eq_false_iff_not, Bool.not_eq_true, Bool.not_eq_false, Bool.not_true, Bool.not_false, Bool.not_eq_true', Bool.and_true, Bool.true_and, Bool.and_self, Bool.and_eq_true, Bool.or_eq_true, not_true_eq_false, not_false_eq_true, eq_self, and_self, and_true, true_and, false_and, and_false, or_true, true_or, or_false, false_or, reduceCtorEq, Bool.false_eq_true, Int.toNat_natCast, Int.reduceToNat, Int.reduceEq, Int.reduceLT, Int.reduceLE, Int.reduceNeg, Int.reduceAdd, Int.reduceSub, Int.reduceMul, List.length_map, Bool.not_not, Bool.not_eq_eq_eq_not, Decidable.not_not, Nat.reduceEqDiff, Bool.false_and, Bool.and_false, Option.isSome_some, Option.isSome_none, Option.isNone_some, Option.isNone_none, $ls,*]) }

def lastI (R : List Int) : Int := (R.getLast?).getD 0
theorem law_cell_ok (R : List Int) (h : R.length ≤ 100) : m_law_cell [li true R] = some (.lf (.int (lastI R)), [li true R.dropLast]) := by
  by_cases h0 : R = []
  · subst h0
    exists m_law_cell, bn_law_cell, lastI
    rfl
  · obtain ⟨L, x, rfl⟩ : ∃ L x, R = L ++ [x] := ⟨R.dropLast, R.getLast h0, (List.dropLast_concat_getLast h0).symm⟩
    have e : lastI (L ++ [x]) = x := by simp [lastI]
    have p := z_pop1 L x
    have hl : ¬ ((L ++ [x]).length : Int) = 0 := by simp; omega
    rw [e, List.dropLast_concat]
    exists m_law_cell, bn_law_cell, p, hl
/-- a comprehension whose things come as they come -/
theorem lc_ex {α β : Type} {dg : DG} {de : DE} {vs : List Nat} (Iv : List T → Prop) (P : β → Prop) (c : α → T) (mk : β → T) : ∀ (xs : List α) (acc : List β) (env : List T), acc.length + xs.length ≤ 1000 → Iv env →
    (∀ x ∈ xs, ∀ env, Iv env → ∃ b, P b ∧ ∃ e e2, dg (c x) env = some e ∧ de e = some (mk b, e2) ∧ Iv (wipeT e2 vs)) →
    ∃ bs env', dLr dg dYes de vs (xs.map c) (acc.map mk) env = some ((acc ++ bs).map mk, env') ∧ Iv env' ∧ bs.length = xs.length ∧ ∀ b ∈ bs, P b
  | [], acc, env, _, h0, _ => ⟨[], env, by simp [dLr], h0, rfl, fun _ h => by cases h⟩
  | x :: xs, acc, env, hl, h0, hs => by
    obtain ⟨b, hb, e, e2, h1, h5, h6⟩ := hs x (List.mem_cons_self ..) env h0
    have hl' : acc.length + (xs.length + 1) ≤ 1000 := by simpa using hl
    rw [List.map_cons, dLr, h1, Option.bind_some]
    have hlt : (acc.map mk).length < sizeLine := small (by simp; omega)
    have hy : dYes e = some (.lf (.bl true), e) := rfl
    simp only [hy, h5, Option.bind_some, hlt, if_true]
    obtain ⟨bs, env', g1, g2, g3, g4⟩ := lc_ex Iv P c mk xs (acc ++ [b]) _ (by simp; omega) h6 fun u hu => hs u (List.mem_cons_of_mem _ hu)
    rw [List.map_append, List.map_singleton] at g1
    refine ⟨b :: bs, env', by rw [g1]; simp, g2, by simp [g3], fun y hy => ?_⟩
    rcases List.mem_cons.mp hy with rfl | h
    · exact hb
    · exact g4 y h
end Pm


set_option Elab.async false
set_option linter.all false
set_option autoImplicit false
set_option maxRecDepth 100000
set_option maxHeartbeats 4000000
/-! EV4: sayings as trees of things; classes in families reckoned. (printed by mkev4.py) -/
namespace Tr
open PySem PySem.Spec PyProof.Rows L2 Pm

inductive Sg where
  | all | mark (w : List Nat)
  | not (p : Sg)
  | someNext (p : Sg)
  | eachNext (p : Sg)
  | someAlways (p : Sg)
  | eachAlways (p : Sg)
  | someEver (p : Sg)
  | eachEver (p : Sg)
  | both (l r : Sg)
  | either (l r : Sg)
  | someTill (l r : Sg)
  | eachTill (l r : Sg)
def sgT : Sg → T
  | .all => .nd false (.ins "All" []) []
  | .mark w => .nd false (.ins "Mark" ["name"]) [tx w]
  | .not p => .nd false (.ins "Not" ["part"]) [sgT p]
  | .someNext p => .nd false (.ins "SomeNext" ["part"]) [sgT p]
  | .eachNext p => .nd false (.ins "EachNext" ["part"]) [sgT p]
  | .someAlways p => .nd false (.ins "SomeAlways" ["part"]) [sgT p]
  | .eachAlways p => .nd false (.ins "EachAlways" ["part"]) [sgT p]
  | .someEver p => .nd false (.ins "SomeEver" ["part"]) [sgT p]
  | .eachEver p => .nd false (.ins "EachEver" ["part"]) [sgT p]
  | .both l r => .nd false (.ins "Both" ["left", "right"]) [sgT l, sgT r]
  | .either l r => .nd false (.ins "Either" ["left", "right"]) [sgT l, sgT r]
  | .someTill l r => .nd false (.ins "SomeTill" ["left", "right"]) [sgT l, sgT r]
  | .eachTill l r => .nd false (.ins "EachTill" ["left", "right"]) [sgT l, sgT r]
theorem frz_sg : ∀ s : Sg, frz (sgT s) = sgT s
  | .all => by simp only [sgT, frz_nd, frzs]
  | .mark w => by simp only [sgT, frz_nd, frzs, z_frzst]
  | .not p => by simp only [sgT, frz_nd, frzs, frz_sg p]
  | .someNext p => by simp only [sgT, frz_nd, frzs, frz_sg p]
  | .eachNext p => by simp only [sgT, frz_nd, frzs, frz_sg p]
  | .someAlways p => by simp only [sgT, frz_nd, frzs, frz_sg p]
  | .eachAlways p => by simp only [sgT, frz_nd, frzs, frz_sg p]
  | .someEver p => by simp only [sgT, frz_nd, frzs, frz_sg p]
  | .eachEver p => by simp only [sgT, frz_nd, frzs, frz_sg p]
  | .both l r => by simp only [sgT, frz_nd, frzs, frz_sg l, frz_sg r]
  | .either l r => by simp only [sgT, frz_nd, frzs, frz_sg l, frz_sg r]
  | .someTill l r => by simp only [sgT, frz_nd, frzs, frz_sg l, frz_sg r]
  | .eachTill l r => by simp only [sgT, frz_nd, frzs, frz_sg l, frz_sg r]
--ev
theorem z_frzsg (s : Sg) : frz (sgT s) = sgT s := frz_sg s
--ev
theorem z_clnsg (s : Sg) : cln (sgT s) = true := by rw [← frz_sg]; exact cln_frz _
--ev
theorem z_oksg (s : Sg) : okT (sgT s) = some (sgT s) := by cases s <;> rfl
/-- what tells: a machine, all its stands, the alive ones -/
def tlT (o : Bool) (M : T) (n : Nat) (L : List Int) : T := .nd o (.ins "Teller" ["machine", "every", "live"]) [M, li o (rgI n), li o L]
--ev
theorem z_oktl (o M n L) : okT (tlT o M n L) = some (tlT o M n L) := rfl
theorem frz_tlT (o M n L) (h : frz M = M) : frz (tlT o M n L) = tlT false M n L := by unfold tlT; simp only [frz_nd, frzs, frz_li, h]
--ev
theorem z_frztl (o rs ms fs n L) : frz (tlT o (mch false rs ms fs) n L) = tlT false (mch false rs ms fs) n L := frz_tlT _ _ _ _ (frz_mch _ _ _ _)
--ev
theorem z_clntl (rs ms fs n L) : cln (tlT false (mch false rs ms fs) n L) = true := by rw [← z_frztl false]; exact cln_frz _
theorem isIns_nd (c m o c' ns xs) : isIns c m (.nd o (.ins c' ns) xs) = (decide (c' = c) && ns.all fun a => decide (¬ a = m)) := rfl

--ev
theorem z_insT_told (o M n L) : isIns "Teller" "told" (tlT o M n L) = true := by unfold tlT; rw [isIns_nd]; decide +kernel
--ev
theorem z_insT_joint (o M n L) : isIns "Teller" "joint" (tlT o M n L) = true := by unfold tlT; rw [isIns_nd]; decide +kernel
--ev
theorem z_insT_over_walks (o M n L) : isIns "Teller" "over_walks" (tlT o M n L) = true := by unfold tlT; rw [isIns_nd]; decide +kernel
--ev
theorem z_insT_contrary (o M n L) : isIns "Teller" "contrary" (tlT o M n L) = true := by unfold tlT; rw [isIns_nd]; decide +kernel
--ev
theorem z_insT_good (o M n L) : isIns "Teller" "good" (tlT o M n L) = true := by unfold tlT; rw [isIns_nd]; decide +kernel
--ev
theorem z_insT_some_next (o M n L) : isIns "Teller" "some_next" (tlT o M n L) = true := by unfold tlT; rw [isIns_nd]; decide +kernel
--ev
theorem z_insT_some_till (o M n L) : isIns "Teller" "some_till" (tlT o M n L) = true := by unfold tlT; rw [isIns_nd]; decide +kernel
--ev
theorem z_insT_each_till (o M n L) : isIns "Teller" "each_till" (tlT o M n L) = true := by unfold tlT; rw [isIns_nd]; decide +kernel
--ev
theorem z_fldT_machine (o M n L) : oFld "Teller" "machine" (tlT o M n L) = some (M) := by
  have e1 : (("machine" : Str) = "every") = False := eq_false (by decide +kernel)
  have e2 : (("machine" : Str) = "live") = False := eq_false (by decide +kernel)
  have e3 : (("every" : Str) = "live") = False := eq_false (by decide +kernel)
  simp [tlT, oFld, getF, e1, e2, e3]
--ev
theorem z_fldT_every (o M n L) : oFld "Teller" "every" (tlT o M n L) = some (li o (rgI n)) := by
  have e1 : (("machine" : Str) = "every") = False := eq_false (by decide +kernel)
  have e2 : (("machine" : Str) = "live") = False := eq_false (by decide +kernel)
  have e3 : (("every" : Str) = "live") = False := eq_false (by decide +kernel)
  simp [tlT, oFld, getF, e1, e2, e3]
--ev
theorem z_fldT_live (o M n L) : oFld "Teller" "live" (tlT o M n L) = some (li o L) := by
  have e1 : (("machine" : Str) = "every") = False := eq_false (by decide +kernel)
  have e2 : (("machine" : Str) = "live") = False := eq_false (by decide +kernel)
  have e3 : (("every" : Str) = "live") = False := eq_false (by decide +kernel)
  simp [tlT, oFld, getF, e1, e2, e3]
theorem ne_All_Both : (("All" : Str) = "Both") = False := eq_false (by decide +kernel)
theorem ne_All_EachAlways : (("All" : Str) = "EachAlways") = False := eq_false (by decide +kernel)
theorem ne_All_EachEver : (("All" : Str) = "EachEver") = False := eq_false (by decide +kernel)
theorem ne_All_EachNext : (("All" : Str) = "EachNext") = False := eq_false (by decide +kernel)
theorem ne_All_EachTill : (("All" : Str) = "EachTill") = False := eq_false (by decide +kernel)
theorem ne_All_Either : (("All" : Str) = "Either") = False := eq_false (by decide +kernel)
theorem ne_All_Mark : (("All" : Str) = "Mark") = False := eq_false (by decide +kernel)
theorem ne_All_Not : (("All" : Str) = "Not") = False := eq_false (by decide +kernel)
theorem ne_All_SomeAlways : (("All" : Str) = "SomeAlways") = False := eq_false (by decide +kernel)
theorem ne_All_SomeEver : (("All" : Str) = "SomeEver") = False := eq_false (by decide +kernel)
theorem ne_All_SomeNext : (("All" : Str) = "SomeNext") = False := eq_false (by decide +kernel)
theorem ne_All_SomeTill : (("All" : Str) = "SomeTill") = False := eq_false (by decide +kernel)
theorem ne_Both_All : (("Both" : Str) = "All") = False := eq_false (by decide +kernel)
theorem ne_Both_EachAlways : (("Both" : Str) = "EachAlways") = False := eq_false (by decide +kernel)
theorem ne_Both_EachEver : (("Both" : Str) = "EachEver") = False := eq_false (by decide +kernel)
theorem ne_Both_EachNext : (("Both" : Str) = "EachNext") = False := eq_false (by decide +kernel)
theorem ne_Both_EachTill : (("Both" : Str) = "EachTill") = False := eq_false (by decide +kernel)
theorem ne_Both_Either : (("Both" : Str) = "Either") = False := eq_false (by decide +kernel)
theorem ne_Both_Mark : (("Both" : Str) = "Mark") = False := eq_false (by decide +kernel)
theorem ne_Both_Not : (("Both" : Str) = "Not") = False := eq_false (by decide +kernel)
theorem ne_Both_SomeAlways : (("Both" : Str) = "SomeAlways") = False := eq_false (by decide +kernel)
theorem ne_Both_SomeEver : (("Both" : Str) = "SomeEver") = False := eq_false (by decide +kernel)
theorem ne_Both_SomeNext : (("Both" : Str) = "SomeNext") = False := eq_false (by decide +kernel)
theorem ne_Both_SomeTill : (("Both" : Str) = "SomeTill") = False := eq_false (by decide +kernel)
theorem ne_EachAlways_All : (("EachAlways" : Str) = "All") = False := eq_false (by decide +kernel)
theorem ne_EachAlways_Both : (("EachAlways" : Str) = "Both") = False := eq_false (by decide +kernel)
theorem ne_EachAlways_EachEver : (("EachAlways" : Str) = "EachEver") = False := eq_false (by decide +kernel)
theorem ne_EachAlways_EachNext : (("EachAlways" : Str) = "EachNext") = False := eq_false (by decide +kernel)
theorem ne_EachAlways_EachTill : (("EachAlways" : Str) = "EachTill") = False := eq_false (by decide +kernel)
theorem ne_EachAlways_Either : (("EachAlways" : Str) = "Either") = False := eq_false (by decide +kernel)
theorem ne_EachAlways_Mark : (("EachAlways" : Str) = "Mark") = False := eq_false (by decide +kernel)
theorem ne_EachAlways_Not : (("EachAlways" : Str) = "Not") = False := eq_false (by decide +kernel)
theorem ne_EachAlways_SomeAlways : (("EachAlways" : Str) = "SomeAlways") = False := eq_false (by decide +kernel)
theorem ne_EachAlways_SomeEver : (("EachAlways" : Str) = "SomeEver") = False := eq_false (by decide +kernel)
theorem ne_EachAlways_SomeNext : (("EachAlways" : Str) = "SomeNext") = False := eq_false (by decide +kernel)
theorem ne_EachAlways_SomeTill : (("EachAlways" : Str) = "SomeTill") = False := eq_false (by decide +kernel)
theorem ne_EachEver_All : (("EachEver" : Str) = "All") = False := eq_false (by decide +kernel)
theorem ne_EachEver_Both : (("EachEver" : Str) = "Both") = False := eq_false (by decide +kernel)
theorem ne_EachEver_EachAlways : (("EachEver" : Str) = "EachAlways") = False := eq_false (by decide +kernel)
theorem ne_EachEver_EachNext : (("EachEver" : Str) = "EachNext") = False := eq_false (by decide +kernel)
theorem ne_EachEver_EachTill : (("EachEver" : Str) = "EachTill") = False := eq_false (by decide +kernel)
theorem ne_EachEver_Either : (("EachEver" : Str) = "Either") = False := eq_false (by decide +kernel)
theorem ne_EachEver_Mark : (("EachEver" : Str) = "Mark") = False := eq_false (by decide +kernel)
theorem ne_EachEver_Not : (("EachEver" : Str) = "Not") = False := eq_false (by decide +kernel)
theorem ne_EachEver_SomeAlways : (("EachEver" : Str) = "SomeAlways") = False := eq_false (by decide +kernel)
theorem ne_EachEver_SomeEver : (("EachEver" : Str) = "SomeEver") = False := eq_false (by decide +kernel)
theorem ne_EachEver_SomeNext : (("EachEver" : Str) = "SomeNext") = False := eq_false (by decide +kernel)
theorem ne_EachEver_SomeTill : (("EachEver" : Str) = "SomeTill") = False := eq_false (by decide +kernel)
theorem ne_EachNext_All : (("EachNext" : Str) = "All") = False := eq_false (by decide +kernel)
theorem ne_EachNext_Both : (("EachNext" : Str) = "Both") = False := eq_false (by decide +kernel)
theorem ne_EachNext_EachAlways : (("EachNext" : Str) = "EachAlways") = False := eq_false (by decide +kernel)
theorem ne_EachNext_EachEver : (("EachNext" : Str) = "EachEver") = False := eq_false (by decide +kernel)
theorem ne_EachNext_EachTill : (("EachNext" : Str) = "EachTill") = False := eq_false (by decide +kernel)
theorem ne_EachNext_Either : (("EachNext" : Str) = "Either") = False := eq_false (by decide +kernel)
theorem ne_EachNext_Mark : (("EachNext" : Str) = "Mark") = False := eq_false (by decide +kernel)
theorem ne_EachNext_Not : (("EachNext" : Str) = "Not") = False := eq_false (by decide +kernel)
theorem ne_EachNext_SomeAlways : (("EachNext" : Str) = "SomeAlways") = False := eq_false (by decide +kernel)
theorem ne_EachNext_SomeEver : (("EachNext" : Str) = "SomeEver") = False := eq_false (by decide +kernel)
theorem ne_EachNext_SomeNext : (("EachNext" : Str) = "SomeNext") = False := eq_false (by decide +kernel)
theorem ne_EachNext_SomeTill : (("EachNext" : Str) = "SomeTill") = False := eq_false (by decide +kernel)
theorem ne_EachTill_All : (("EachTill" : Str) = "All") = False := eq_false (by decide +kernel)
theorem ne_EachTill_Both : (("EachTill" : Str) = "Both") = False := eq_false (by decide +kernel)
theorem ne_EachTill_EachAlways : (("EachTill" : Str) = "EachAlways") = False := eq_false (by decide +kernel)
theorem ne_EachTill_EachEver : (("EachTill" : Str) = "EachEver") = False := eq_false (by decide +kernel)
theorem ne_EachTill_EachNext : (("EachTill" : Str) = "EachNext") = False := eq_false (by decide +kernel)
theorem ne_EachTill_Either : (("EachTill" : Str) = "Either") = False := eq_false (by decide +kernel)
theorem ne_EachTill_Mark : (("EachTill" : Str) = "Mark") = False := eq_false (by decide +kernel)
theorem ne_EachTill_Not : (("EachTill" : Str) = "Not") = False := eq_false (by decide +kernel)
theorem ne_EachTill_SomeAlways : (("EachTill" : Str) = "SomeAlways") = False := eq_false (by decide +kernel)
theorem ne_EachTill_SomeEver : (("EachTill" : Str) = "SomeEver") = False := eq_false (by decide +kernel)
theorem ne_EachTill_SomeNext : (("EachTill" : Str) = "SomeNext") = False := eq_false (by decide +kernel)
theorem ne_EachTill_SomeTill : (("EachTill" : Str) = "SomeTill") = False := eq_false (by decide +kernel)
theorem ne_Either_All : (("Either" : Str) = "All") = False := eq_false (by decide +kernel)
theorem ne_Either_Both : (("Either" : Str) = "Both") = False := eq_false (by decide +kernel)
theorem ne_Either_EachAlways : (("Either" : Str) = "EachAlways") = False := eq_false (by decide +kernel)
theorem ne_Either_EachEver : (("Either" : Str) = "EachEver") = False := eq_false (by decide +kernel)
theorem ne_Either_EachNext : (("Either" : Str) = "EachNext") = False := eq_false (by decide +kernel)
theorem ne_Either_EachTill : (("Either" : Str) = "EachTill") = False := eq_false (by decide +kernel)
theorem ne_Either_Mark : (("Either" : Str) = "Mark") = False := eq_false (by decide +kernel)
theorem ne_Either_Not : (("Either" : Str) = "Not") = False := eq_false (by decide +kernel)
theorem ne_Either_SomeAlways : (("Either" : Str) = "SomeAlways") = False := eq_false (by decide +kernel)
theorem ne_Either_SomeEver : (("Either" : Str) = "SomeEver") = False := eq_false (by decide +kernel)
theorem ne_Either_SomeNext : (("Either" : Str) = "SomeNext") = False := eq_false (by decide +kernel)
theorem ne_Either_SomeTill : (("Either" : Str) = "SomeTill") = False := eq_false (by decide +kernel)
theorem ne_Mark_All : (("Mark" : Str) = "All") = False := eq_false (by decide +kernel)
theorem ne_Mark_Both : (("Mark" : Str) = "Both") = False := eq_false (by decide +kernel)
theorem ne_Mark_EachAlways : (("Mark" : Str) = "EachAlways") = False := eq_false (by decide +kernel)
theorem ne_Mark_EachEver : (("Mark" : Str) = "EachEver") = False := eq_false (by decide +kernel)
theorem ne_Mark_EachNext : (("Mark" : Str) = "EachNext") = False := eq_false (by decide +kernel)
theorem ne_Mark_EachTill : (("Mark" : Str) = "EachTill") = False := eq_false (by decide +kernel)
theorem ne_Mark_Either : (("Mark" : Str) = "Either") = False := eq_false (by decide +kernel)
theorem ne_Mark_Not : (("Mark" : Str) = "Not") = False := eq_false (by decide +kernel)
theorem ne_Mark_SomeAlways : (("Mark" : Str) = "SomeAlways") = False := eq_false (by decide +kernel)
theorem ne_Mark_SomeEver : (("Mark" : Str) = "SomeEver") = False := eq_false (by decide +kernel)
theorem ne_Mark_SomeNext : (("Mark" : Str) = "SomeNext") = False := eq_false (by decide +kernel)
theorem ne_Mark_SomeTill : (("Mark" : Str) = "SomeTill") = False := eq_false (by decide +kernel)
theorem ne_Not_All : (("Not" : Str) = "All") = False := eq_false (by decide +kernel)
theorem ne_Not_Both : (("Not" : Str) = "Both") = False := eq_false (by decide +kernel)
theorem ne_Not_EachAlways : (("Not" : Str) = "EachAlways") = False := eq_false (by decide +kernel)
theorem ne_Not_EachEver : (("Not" : Str) = "EachEver") = False := eq_false (by decide +kernel)
theorem ne_Not_EachNext : (("Not" : Str) = "EachNext") = False := eq_false (by decide +kernel)
theorem ne_Not_EachTill : (("Not" : Str) = "EachTill") = False := eq_false (by decide +kernel)
theorem ne_Not_Either : (("Not" : Str) = "Either") = False := eq_false (by decide +kernel)
theorem ne_Not_Mark : (("Not" : Str) = "Mark") = False := eq_false (by decide +kernel)
theorem ne_Not_SomeAlways : (("Not" : Str) = "SomeAlways") = False := eq_false (by decide +kernel)
theorem ne_Not_SomeEver : (("Not" : Str) = "SomeEver") = False := eq_false (by decide +kernel)
theorem ne_Not_SomeNext : (("Not" : Str) = "SomeNext") = False := eq_false (by decide +kernel)
theorem ne_Not_SomeTill : (("Not" : Str) = "SomeTill") = False := eq_false (by decide +kernel)
theorem ne_SomeAlways_All : (("SomeAlways" : Str) = "All") = False := eq_false (by decide +kernel)
theorem ne_SomeAlways_Both : (("SomeAlways" : Str) = "Both") = False := eq_false (by decide +kernel)
theorem ne_SomeAlways_EachAlways : (("SomeAlways" : Str) = "EachAlways") = False := eq_false (by decide +kernel)
theorem ne_SomeAlways_EachEver : (("SomeAlways" : Str) = "EachEver") = False := eq_false (by decide +kernel)
theorem ne_SomeAlways_EachNext : (("SomeAlways" : Str) = "EachNext") = False := eq_false (by decide +kernel)
theorem ne_SomeAlways_EachTill : (("SomeAlways" : Str) = "EachTill") = False := eq_false (by decide +kernel)
theorem ne_SomeAlways_Either : (("SomeAlways" : Str) = "Either") = False := eq_false (by decide +kernel)
theorem ne_SomeAlways_Mark : (("SomeAlways" : Str) = "Mark") = False := eq_false (by decide +kernel)
theorem ne_SomeAlways_Not : (("SomeAlways" : Str) = "Not") = False := eq_false (by decide +kernel)
theorem ne_SomeAlways_SomeEver : (("SomeAlways" : Str) = "SomeEver") = False := eq_false (by decide +kernel)
theorem ne_SomeAlways_SomeNext : (("SomeAlways" : Str) = "SomeNext") = False := eq_false (by decide +kernel)
theorem ne_SomeAlways_SomeTill : (("SomeAlways" : Str) = "SomeTill") = False := eq_false (by decide +kernel)
theorem ne_SomeEver_All : (("SomeEver" : Str) = "All") = False := eq_false (by decide +kernel)
theorem ne_SomeEver_Both : (("SomeEver" : Str) = "Both") = False := eq_false (by decide +kernel)
theorem ne_SomeEver_EachAlways : (("SomeEver" : Str) = "EachAlways") = False := eq_false (by decide +kernel)
theorem ne_SomeEver_EachEver : (("SomeEver" : Str) = "EachEver") = False := eq_false (by decide +kernel)
theorem ne_SomeEver_EachNext : (("SomeEver" : Str) = "EachNext") = False := eq_false (by decide +kernel)
theorem ne_SomeEver_EachTill : (("SomeEver" : Str) = "EachTill") = False := eq_false (by decide +kernel)
theorem ne_SomeEver_Either : (("SomeEver" : Str) = "Either") = False := eq_false (by decide +kernel)
theorem ne_SomeEver_Mark : (("SomeEver" : Str) = "Mark") = False := eq_false (by decide +kernel)
theorem ne_SomeEver_Not : (("SomeEver" : Str) = "Not") = False := eq_false (by decide +kernel)
theorem ne_SomeEver_SomeAlways : (("SomeEver" : Str) = "SomeAlways") = False := eq_false (by decide +kernel)
theorem ne_SomeEver_SomeNext : (("SomeEver" : Str) = "SomeNext") = False := eq_false (by decide +kernel)
theorem ne_SomeEver_SomeTill : (("SomeEver" : Str) = "SomeTill") = False := eq_false (by decide +kernel)
theorem ne_SomeNext_All : (("SomeNext" : Str) = "All") = False := eq_false (by decide +kernel)
theorem ne_SomeNext_Both : (("SomeNext" : Str) = "Both") = False := eq_false (by decide +kernel)
theorem ne_SomeNext_EachAlways : (("SomeNext" : Str) = "EachAlways") = False := eq_false (by decide +kernel)
theorem ne_SomeNext_EachEver : (("SomeNext" : Str) = "EachEver") = False := eq_false (by decide +kernel)
theorem ne_SomeNext_EachNext : (("SomeNext" : Str) = "EachNext") = False := eq_false (by decide +kernel)
theorem ne_SomeNext_EachTill : (("SomeNext" : Str) = "EachTill") = False := eq_false (by decide +kernel)
theorem ne_SomeNext_Either : (("SomeNext" : Str) = "Either") = False := eq_false (by decide +kernel)
theorem ne_SomeNext_Mark : (("SomeNext" : Str) = "Mark") = False := eq_false (by decide +kernel)
theorem ne_SomeNext_Not : (("SomeNext" : Str) = "Not") = False := eq_false (by decide +kernel)
theorem ne_SomeNext_SomeAlways : (("SomeNext" : Str) = "SomeAlways") = False := eq_false (by decide +kernel)
theorem ne_SomeNext_SomeEver : (("SomeNext" : Str) = "SomeEver") = False := eq_false (by decide +kernel)
theorem ne_SomeNext_SomeTill : (("SomeNext" : Str) = "SomeTill") = False := eq_false (by decide +kernel)
theorem ne_SomeTill_All : (("SomeTill" : Str) = "All") = False := eq_false (by decide +kernel)
theorem ne_SomeTill_Both : (("SomeTill" : Str) = "Both") = False := eq_false (by decide +kernel)
theorem ne_SomeTill_EachAlways : (("SomeTill" : Str) = "EachAlways") = False := eq_false (by decide +kernel)
theorem ne_SomeTill_EachEver : (("SomeTill" : Str) = "EachEver") = False := eq_false (by decide +kernel)
theorem ne_SomeTill_EachNext : (("SomeTill" : Str) = "EachNext") = False := eq_false (by decide +kernel)
theorem ne_SomeTill_EachTill : (("SomeTill" : Str) = "EachTill") = False := eq_false (by decide +kernel)
theorem ne_SomeTill_Either : (("SomeTill" : Str) = "Either") = False := eq_false (by decide +kernel)
theorem ne_SomeTill_Mark : (("SomeTill" : Str) = "Mark") = False := eq_false (by decide +kernel)
theorem ne_SomeTill_Not : (("SomeTill" : Str) = "Not") = False := eq_false (by decide +kernel)
theorem ne_SomeTill_SomeAlways : (("SomeTill" : Str) = "SomeAlways") = False := eq_false (by decide +kernel)
theorem ne_SomeTill_SomeEver : (("SomeTill" : Str) = "SomeEver") = False := eq_false (by decide +kernel)
theorem ne_SomeTill_SomeNext : (("SomeTill" : Str) = "SomeNext") = False := eq_false (by decide +kernel)
theorem ne_name_part : (("name" : Str) = "part") = False := eq_false (by decide +kernel)
theorem ne_name_left : (("name" : Str) = "left") = False := eq_false (by decide +kernel)
theorem ne_name_right : (("name" : Str) = "right") = False := eq_false (by decide +kernel)
theorem ne_name_inside : (("name" : Str) = "inside") = False := eq_false (by decide +kernel)
theorem ne_name_word : (("name" : Str) = "word") = False := eq_false (by decide +kernel)
theorem ne_name_words : (("name" : Str) = "words") = False := eq_false (by decide +kernel)
theorem ne_name_within : (("name" : Str) = "within") = False := eq_false (by decide +kernel)
theorem ne_part_name : (("part" : Str) = "name") = False := eq_false (by decide +kernel)
theorem ne_part_left : (("part" : Str) = "left") = False := eq_false (by decide +kernel)
theorem ne_part_right : (("part" : Str) = "right") = False := eq_false (by decide +kernel)
theorem ne_part_inside : (("part" : Str) = "inside") = False := eq_false (by decide +kernel)
theorem ne_part_word : (("part" : Str) = "word") = False := eq_false (by decide +kernel)
theorem ne_part_words : (("part" : Str) = "words") = False := eq_false (by decide +kernel)
theorem ne_part_within : (("part" : Str) = "within") = False := eq_false (by decide +kernel)
theorem ne_left_name : (("left" : Str) = "name") = False := eq_false (by decide +kernel)
theorem ne_left_part : (("left" : Str) = "part") = False := eq_false (by decide +kernel)
theorem ne_left_right : (("left" : Str) = "right") = False := eq_false (by decide +kernel)
theorem ne_left_inside : (("left" : Str) = "inside") = False := eq_false (by decide +kernel)
theorem ne_left_word : (("left" : Str) = "word") = False := eq_false (by decide +kernel)
theorem ne_left_words : (("left" : Str) = "words") = False := eq_false (by decide +kernel)
theorem ne_left_within : (("left" : Str) = "within") = False := eq_false (by decide +kernel)
theorem ne_right_name : (("right" : Str) = "name") = False := eq_false (by decide +kernel)
theorem ne_right_part : (("right" : Str) = "part") = False := eq_false (by decide +kernel)
theorem ne_right_left : (("right" : Str) = "left") = False := eq_false (by decide +kernel)
theorem ne_right_inside : (("right" : Str) = "inside") = False := eq_false (by decide +kernel)
theorem ne_right_word : (("right" : Str) = "word") = False := eq_false (by decide +kernel)
theorem ne_right_words : (("right" : Str) = "words") = False := eq_false (by decide +kernel)
theorem ne_right_within : (("right" : Str) = "within") = False := eq_false (by decide +kernel)
theorem ne_not {a b : Str} (h : (a = b) = False) : decide (¬ a = b) = true := by simp [h]
def fEls (b : DE) (env : List T) : Option (T × List T) → Option (T × List T)
  | some r => some r
  | none => b env
--ev
theorem fEls_s (b env r) : fEls b env (some r) = some r := rfl
--ev
theorem fEls_n (b env) : fEls b env none = b env := rfl
--ev
theorem elsE_ev (a b env) : elsE a b env = fEls b env (a env) := by unfold elsE fEls; cases a env <;> rfl
theorem oOr_l {p q : T → Option T} {t u : T} (h : p t = some u) : oOr p q t = some u := by unfold oOr; rw [h]
theorem oOr_r {p q : T → Option T} {t : T} (h : p t = none) : oOr p q t = q t := by unfold oOr; rw [h]
theorem oIs1_y (c b o ns xs) : oIs1 c b (.nd o (.ins c ns) xs) = some (.lf (.bl b)) := if_pos rfl
theorem oIs1_n {c c' : Str} (b o ns xs) (h : (c' = c) = False) : oIs1 c b (.nd o (.ins c' ns) xs) = none := if_neg (by intro e; rw [← h]; exact Option.some.inj e)
theorem oFld_n {c c' : Str} (f o ns xs) (h : (c' = c) = False) : oFld c f (.nd o (.ins c' ns) xs) = none := if_neg (by intro e; rw [← h]; exact e)
theorem mOr_l {p q : T → List T → Option (T × T)} {t : T} {ts : List T} {u : T × T} (h : p t ts = some u) : mOr p q t ts = some u := by unfold mOr; rw [h]
theorem mOr_r {p q : T → List T → Option (T × T)} {t : T} {ts : List T} (h : p t ts = none) : mOr p q t ts = q t ts := by unfold mOr; rw [h]
theorem dMake_cls (c f bs dv da env) : dMake c f bs dv da env = (da env).bind (fMake c f bs dv) := dMake_ev c f bs dv da env
def fOO (q : T → Option T) (t : T) : Option T → Option T
  | some u => some u
  | none => q t
--ev
theorem fOO_s (q t u) : fOO q t (some u) = some u := rfl
--ev
theorem fOO_n (q t) : fOO q t none = q t := rfl
--ev
theorem oOr_ev (p q t) : oOr p q t = fOO q t (p t) := by unfold oOr fOO; cases p t <;> rfl
def fMO (q : T → List T → Option (T × T)) (t : T) (ts : List T) : Option (T × T) → Option (T × T)
  | some u => some u
  | none => q t ts
--ev
theorem fMO_s (q t ts u) : fMO q t ts (some u) = some u := rfl
--ev
theorem fMO_n (q t ts) : fMO q t ts none = q t ts := rfl
--ev
theorem mOr_ev (p q t ts) : mOr p q t ts = fMO q t ts (p t ts) := by unfold mOr fMO; cases p t ts <;> rfl
--ev
theorem oIs1_nd (c b o c' ns xs) : oIs1 c b (.nd o (.ins c' ns) xs) = if c' = c then some (.lf (.bl b)) else none := by
  unfold oIs1 clsOf; by_cases h : c' = c <;> simp [h]
theorem oFld_nd (c f o c' ns xs) : oFld c f (.nd o (.ins c' ns) xs) = if c' = c then getF ns xs f else none := rfl
theorem getF_cons (n ns x xs f) : getF (n :: ns) (x :: xs) f = if n = f then some x else getF ns xs f := rfl
theorem mFld_nd (c f c' ns xs t) (h : ns.length < 1000) : mFld c f (.nd true (.ins c' ns) xs) [t] = if c' = c then some (.lf .non, .nd true (.ins c' (putFT ns xs f t).1) (putFT ns xs f t).2) else none := by
  unfold mFld; by_cases e : c' = c <;> simp [h, e]
theorem dLr_y {dg : DG} {de : DE} {vs : List Nat} {t u : T} {ts acc env e e2 : List T} (h1 : dg t env = some e) (h2 : de e = some (u, e2)) (hl : acc.length ≤ 1000) : dLr dg dYes de vs (t :: ts) acc env = dLr dg dYes de vs ts (acc ++ [u]) (wipeT e2 vs) := by
  have hlt : acc.length < sizeLine := small hl
  have h3 : dYes e = some (.lf (.bl true), e) := rfl
  rw [dLr, h1, Option.bind_some]
  simp only [h3, h2, Option.bind_some, hlt, if_true]
/-- a loop that answers at the first of these -/
theorem lp_fst {α : Type} {dg : DG} {d : DS} (Iv : List T → Prop) (p : α → Bool) (c r : α → T) : ∀ (xs : List α) (env : List T), Iv env →
    (∀ x ∈ xs, ∀ env, Iv env → ∃ e', turn dg d (c x) env = some (if p x = true then .rt (r x) else .nx, e') ∧ Iv e') → ∃ e, Iv e ∧ dFr dg d (xs.map c) env = some ((match xs.find? p with | some x => .rt (r x) | none => .nx), e)
  | [], env, h0, _ => ⟨env, h0, rfl⟩
  | x :: xs, env, h0, hs => by
    obtain ⟨e', h1, h2⟩ := hs x (List.mem_cons_self ..) env h0
    rw [List.map_cons, dFr_cons, h1, Option.bind_some]
    cases hp : p x with
    | true => exact ⟨e', h2, by simp [hp, fFr_rt]⟩
    | false =>
      obtain ⟨e9, g1, g2⟩ := lp_fst Iv p c r xs e' h2 fun u hu => hs u (List.mem_cons_of_mem _ hu)
      exact ⟨e9, g1, by simpa [hp, fFr_nx] using g2⟩
--ev
theorem dNew_ev (c env) : dNew c env = some (.nd true (.ins c []) [], env) := rfl
end Tr



set_option Elab.async false
set_option linter.all false
set_option autoImplicit false
set_option maxRecDepth 100000
set_option maxHeartbeats 4000000
/-! SGB: sayings: size, depth. -/
namespace Pm
open PySem PySem.Spec PyProof.Rows L2 Tr

def sz : Sg → Nat
  | .all | .mark _ => 1
  | .not p => sz p + 1
  | .someNext p => sz p + 1
  | .eachNext p => sz p + 1
  | .someAlways p => sz p + 1
  | .eachAlways p => sz p + 1
  | .someEver p => sz p + 1
  | .eachEver p => sz p + 1
  | .both l r => sz l + sz r + 1
  | .either l r => sz l + sz r + 1
  | .someTill l r => sz l + sz r + 1
  | .eachTill l r => sz l + sz r + 1
def dep : Sg → Nat
  | .all | .mark _ => 0
  | .not p => dep p + 1
  | .someNext p => dep p + 1
  | .eachNext p => dep p + 1
  | .someAlways p => dep p + 1
  | .eachAlways p => dep p + 1
  | .someEver p => dep p + 1
  | .eachEver p => dep p + 1
  | .both l r => max (dep l) (dep r) + 1
  | .either l r => max (dep l) (dep r) + 1
  | .someTill l r => max (dep l) (dep r) + 1
  | .eachTill l r => max (dep l) (dep r) + 1
def mok : Sg → Prop
  | .all => True
  | .mark w => Okc w = true
  | .not p => mok p
  | .someNext p => mok p
  | .eachNext p => mok p
  | .someAlways p => mok p
  | .eachAlways p => mok p
  | .someEver p => mok p
  | .eachEver p => mok p
  | .both l r => mok l ∧ mok r
  | .either l r => mok l ∧ mok r
  | .someTill l r => mok l ∧ mok r
  | .eachTill l r => mok l ∧ mok r
theorem it_nd (o xs) : itemsL (.nd o .lst xs) = some (frzs xs) := rfl
theorem ixn0 (o a xs) : oIx (.nd o .lst (a :: xs)) (.lf (.int 0)) = some a := by
  show L2.atI (a :: xs) 0 = _; rw [atI_of (by omega) (by simp)]; rfl
theorem ixn1 (o a b xs) : oIx (.nd o .lst (a :: b :: xs)) (.lf (.int 1)) = some b := by
  show L2.atI (a :: b :: xs) 1 = _; rw [atI_of (by omega) (by simp)]; rfl
theorem ok_ins (o c ns xs) : okT (.nd o (.ins c ns) xs) = some (.nd o (.ins c ns) xs) := rfl
end Pm


set_option Elab.async false
set_option linter.all false
set_option autoImplicit false
set_option maxRecDepth 100000
set_option maxHeartbeats 4000000
/-! GR: sayings grown from cells, as trees of words (_law_grown). (printed by mkgr.py) -/
namespace Pm
open PySem PySem.Spec PyProof.Rows L2 Tr Wk
local macro_rules | `(tactic| exists $es,*) => do { let ls ← es.getElems.mapM fun e => `(Lean.Parser.Tactic.simpLemma| $e:term); `(tactic| simp -implicitDefEqProofs (disch := (first | assumption | omega | decide | (simp only [List.length_cons, List.length_nil, List.length_append, List.length_map, Tr.rgI_len]; omega) | (simp only [List.length_cons, List.length_nil, List.length_append, List.length_map, Int.toNat_natCast] at *; omega))) only [Tr.okT_lf, Tr.okT_nd, Tr.okT_li, Tr.okT_ll, Tr.okT_dk, Tr.okT_mks, Tr.okT_mk1, Tr.okT_mch, Tr.okT_scr, Tr.okT_tp, Tr.okO_some, Tr.gV_ev, Tr.gC_ev, Tr.gG_ev, Tr.fM_ev, Tr.fS_ev, Tr.gM_ev, Tr.gS_ev, Tr.fP_ev, Tr.fQ_ev, Tr.vr_ev, Tr.fRe_ev, Tr.re_ev, Tr.fO1_ev, Tr.o1V_ev, Tr.o1_ev, Tr.fO2V_ev, Tr.o2V_ev, Tr.fO2v'_ev, Tr.fO2v_ev, Tr.o2v_ev, Tr.fO2o'_ev, Tr.fO2o_ev, Tr.o2o_ev, Tr.fO2c'_ev, Tr.fO2c_ev, Tr.o2c_ev, Tr.fO2n''_ev, Tr.fO2n'_ev, Tr.fO2n_ev, Tr.o2n_ev, Tr.fAnd_ev, Tr.fOr_ev, Tr.dAnd_ev, Tr.dOr_ev, Tr.ite_BB, Tr.ite_decF, Tr.ite_Tdec, Tr.z_cast, Tr.z_ndec, Tr.ite_TF, Tr.ite_FT, Tr.bind_ite, Tr.aNil_ev, Tr.fCons'_ev, Tr.fCons_ev, Tr.aCons_ev, Tr.fCall'_ev, Tr.fCall_ev, Tr.dCall_ev, Tr.wb_nil, Tr.wb_none, Tr.fWb_ev, Tr.wb_some, Tr.fMeth'_ev, Tr.fMeth_ev, Tr.dMeth_ev, Tr.fMake'_ev, Tr.fMake_ev, Tr.dMake_ev, Tr.fSeq_nx, Tr.fSeq_rt, Tr.fSeq_bk, Tr.fSeq_ct, Tr.dSeq_ev, Tr.fIf_ev, Tr.dIf_ev, Tr.fSet_ev, Tr.dSet_ev, Tr.fRet_ev, Tr.dRet_ev, Tr.fEx_ev, Tr.dEx_ev, Tr.dRetN_ev, Tr.dNx_ev, Tr.dBk_ev, Tr.dCt_ev, Tr.dFail_ev, Tr.fPut''_ev, Tr.fPut'_ev, Tr.fPut1_ev, Tr.fPut_ev, Tr.dPut_ev, Tr.fMut3_ev, Tr.fMut2_ev, Tr.fMut1_ev, Tr.fMut_ev, Tr.dMut_ev, Tr.fLst_ev, Tr.fTup_ev, Tr.dLst_ev, Tr.dTup_ev, Tr.dDic_ev, Tr.fBw_ev, Tr.bw_ev, Tr.fFz_ev, Tr.fz_ev, Tr.fAug''_ev, Tr.fAug'_ev, Tr.fAug_ev, Tr.dAug_ev, Tr.z_ex, Tr.z_exT, Tr.fRng_nat, Tr.dRng_ev, Tr.fIt'_ev, Tr.fIt_ev, Tr.dIt_ev, Tr.fFor_ev, Tr.dFor_ev, Tr.gN_ev, Tr.fG_ev, Tr.gT2_ev, Tr.gT2_mk1, Tr.dFr_nil, Tr.turn_ev, Tr.fFr_nx, Tr.fFr_ct, Tr.fFr_bk, Tr.fFr_rt, Tr.dFr_cons, Tr.fLc'_ev, Tr.fLc_ev, Tr.dLc_ev, Tr.dLr_nil, Tr.wipeT_nil, Tr.wipeT_cons, Tr.backT_nil, Tr.backT_cons, Tr.cleanAt_nil, Tr.cleanAt_cons, Tr.fFun_rt, Tr.fFun_nx, Tr.dFun_ev, Tr.outs_cons, Tr.outs_nil, Tr.frzs_nil, Tr.frzs_cons, Tr.z_frz1, Tr.z_frz2, Tr.z_frz3, Tr.z_frz4, Tr.z_frz5, Tr.z_frz6, Tr.z_frz7, Tr.z_frz8, Tr.z_frz9, Tr.z_frz10, Tr.z_frz11, Tr.z_cln1, Tr.z_cln2, Tr.z_cln3, Tr.z_cln4, Tr.z_cln5, Tr.z_cln6, Tr.z_cln7, Tr.z_cln8, Tr.z_cln9, Tr.z_cln10, Tr.z_clns1, Tr.z_clns2, Tr.z_clns3, Tr.z_pure1, Tr.z_pure2, Tr.z_pure3, Tr.z_pure4, Tr.z_pure5, Tr.z_pure6, Tr.z_pure7, Tr.z_lfI, Tr.z_li, Tr.z_add, Tr.z_sub, Tr.z_mulr, Tr.z_mod, Tr.z_div, Tr.z_lt, Tr.z_le, Tr.z_gt, Tr.z_ge, Tr.z_eq, Tr.z_ne, Tr.z_neg, Tr.z_eqli, Tr.z_neli, Tr.z_eqnil, Tr.z_nenil, Tr.z_inli, Tr.z_ninli, Tr.z_indk, Tr.z_nindk, Tr.z_ll, Tr.z_mks, Tr.z_nil, Tr.z_appll, Tr.z_int1, Tr.z_int2, Tr.z_len1, Tr.z_len2, Tr.z_len3, Tr.z_len4, Tr.z_len5, Tr.z_len6, Tr.z_len7, Tr.z_not, Tr.z_isi1, Tr.z_isi2, Tr.z_isi3, Tr.z_isi4, Tr.z_isi5, Tr.z_isi6, Tr.z_list1, Tr.z_sort1, Tr.z_sort2, Tr.z_app1, Tr.z_app2, Tr.z_pop1, Tr.z_clr1, Tr.z_clr2, Tr.z_rev1, Tr.z_ext1, Tr.z_cat1, Tr.z_it1, Tr.z_it2, Tr.z_it3, Tr.z_it4, Tr.z_ty1, Tr.z_ty2, Tr.z_ty3, Tr.z_ty4, Tr.z_fst, Tr.z_fma, Tr.z_ffa, Tr.z_ins1, Tr.z_ins2, Tr.z_ins3, Tr.z_ins4, Tr.z_ins5, Tr.z_ixli, Tr.z_ixll, Tr.z_ixlast, Tr.z_setdk, Tr.fDic1_ev, Tr.fDic1'_ev, Tr.dDic1_ev, Tr.fLRg_nat, Tr.dLRg_ev, Tr.z_len8, Tr.z_bind_some, Tr.z_get0, Tr.z_gets, Tr.z_getD0, Tr.z_getDs, Tr.z_set0, Tr.z_sets, Tr.z_app, Tr.z_nil_app, Tr.z_app_nil, Tr.z_map0, Tr.z_mapc, Tr.z_rep0, Tr.z_reps, Tr.z_lenc, Tr.z_lenn, Tr.z_c0, Tr.z_c1, Tr.z_c2, Tr.z_c3, Tr.z_okoV, Tr.z_okrk, Tr.z_okrl, Tr.z_frzoV, Tr.z_clnoV, Tr.z_pureoV, Tr.z_frzrk, Tr.z_clnrk, Tr.z_frzrl, Tr.z_clnrl, Tr.z_ixrl, Tr.z_lenrl, Tr.z_isirl, Tr.z_tyrl, Tr.z_clrrl, Tr.z_oVs, Tr.z_oVn, Tr.z_rks, Tr.z_rkn, Tr.z_ixt0, Tr.z_ixt1, Tr.z_isN1, Tr.z_isN2, Tr.z_isN3, Tr.z_notN1, Tr.z_notN2, Tr.z_notN3, Tr.z_isN4, Tr.z_notN4, Tr.z_isN5, Tr.z_notN5, Tr.fCh3_ev, Tr.fCh2_ev, Tr.fCh1_ev, Tr.z_ch, Tr.z_okdls, Tr.z_frzdls, Tr.z_clndls, Tr.z_ixdls, Tr.z_indls, Tr.z_okdds, Tr.z_frzdds, Tr.z_clndds, Tr.z_ixdds, Tr.fAsg'_ev, Tr.fAsg_ev, Tr.dAsg_ev, Tr.fBwS_ev, Tr.bwS_ev, Tr.fPt_ev, Tr.ptT_no, Tr.ptT_so, Tr.fSl2_ev, Tr.fSl1_ev, Tr.fSl_ev, Tr.dSl_ev, Tr.z_slli, Tr.z_cutTail, Tr.z_cutInit, Tr.z_okst, Tr.z_frzst, Tr.z_clnst, Tr.z_purest, Tr.z_addst, Tr.z_lenst, Tr.z_inst1, Tr.z_ninst1, Tr.z_ixst, Tr.eqL_self, Tr.eqL_nn, Tr.eqL_nc, Tr.eqL_cn, Tr.eqL_cc, Tr.z_eqst, Tr.z_nest, Tr.z_insl, Tr.z_ninsl, Tr.z_sq1, Tr.z_sq2, Tr.z_sq3, Tr.z_itst, Tr.z_isist, Tr.z_slst, Tr.z_cutOne, Tr.lit_all, Tr.lit_not, Tr.lit_both, Tr.lit_either, Tr.lit_somenext, Tr.lit_eachnext, Tr.lit_sometill, Tr.lit_eachtill, Tr.lit_someever, Tr.lit_eachever, Tr.lit_somealways, Tr.lit_eachalways, Tr.lit_mark, Tr.lit_loop, Tr.lit_rank, Tr.lit_walk, Tr.lit_shut, Tr.lit_out, Tr.lit_here, Tr.lit_dead, Tr.lit_plain, Tr.lit_step, Tr.lit_none, Tr.lit_fair, Tr.lit_answer, Tr.lit_p, Tr.lit_wet, Tr.lit_darkness, Tr.lit_x, Tr.lit_q, Tr.lit_empty, Tr.lit_in, Tr.lit_letters, Tr.z_kept, Tr.z_catX12, Tr.z_catT12, Tr.z_ixt2, Tr.z_frzsg, Tr.z_clnsg, Tr.z_oksg, Tr.z_oktl, Tr.z_frztl, Tr.z_clntl, Tr.z_insT_told, Tr.z_insT_joint, Tr.z_insT_over_walks, Tr.z_insT_contrary, Tr.z_insT_good, Tr.z_insT_some_next, Tr.z_insT_some_till, Tr.z_insT_each_till, Tr.z_fldT_machine, Tr.z_fldT_every, Tr.z_fldT_live, Tr.fEls_s, Tr.fEls_n, Tr.elsE_ev, Tr.fOO_s, Tr.fOO_n, Tr.oOr_ev, Tr.fMO_s, Tr.fMO_n, Tr.mOr_ev, Tr.oIs1_nd, Tr.dNew_ev, ↓reduceIte, ite_true, ite_false, Nat.reduceAdd, Nat.reduceSub, Nat.reduceLT, Nat.reduceLeDiff, Nat.zero_add, Nat.lt_add_one, Nat.zero_lt_succ, decide_true, decide_false, decide_eq_true_eq, decide_eq_false_iff_not, Bool.not_eq_true, Bool.not_eq_false, Bool.not_true, Bool.not_false, Bool.not_eq_true', Bool.and_true, Bool.true_and, Bool.and_self, Bool.and_eq_true, Bool.or_eq_true, not_true_eq_false, not_false_eq_true, eq_self, and_self, and_true, true_and, false_and, and_false, or_true, true_or, or_false, false_or, reduceCtorEq, Bool.false_eq_true, Int.toNat_natCast, Int.reduceToNat, Int.reduceEq, Int.reduceLT, Int.reduceLE, Int.reduceNeg, Int.reduceAdd, Int.reduceSub, Int.reduceMul, List.length_map, Bool.not_not, Bool.not_eq_eq_eq_not, Decidable.not_not, Nat.reduceEqDiff, Bool.false_and, Bool.and_false, Option.isSome_some, Option.isSome_none, Option.isNone_some, Option.isNone_none, $ls,*]) }

/-- a saying as a tree of words -/
def trT : Sg → T
  | .all => .nd false .tup [tx [97, 108, 108]]
  | .mark w => .nd false .tup [tx [109, 97, 114, 107], tx w]
  | .not p => .nd false .tup [tx [110, 111, 116], trT p]
  | .someNext p => .nd false .tup [tx [115, 111, 109, 101, 110, 101, 120, 116], trT p]
  | .eachNext p => .nd false .tup [tx [101, 97, 99, 104, 110, 101, 120, 116], trT p]
  | .someAlways p => .nd false .tup [tx [115, 111, 109, 101, 97, 108, 119, 97, 121, 115], trT p]
  | .eachAlways p => .nd false .tup [tx [101, 97, 99, 104, 97, 108, 119, 97, 121, 115], trT p]
  | .someEver p => .nd false .tup [tx [115, 111, 109, 101, 101, 118, 101, 114], trT p]
  | .eachEver p => .nd false .tup [tx [101, 97, 99, 104, 101, 118, 101, 114], trT p]
  | .both l r => .nd false .tup [tx [98, 111, 116, 104], trT l, trT r]
  | .either l r => .nd false .tup [tx [101, 105, 116, 104, 101, 114], trT l, trT r]
  | .someTill l r => .nd false .tup [tx [115, 111, 109, 101, 116, 105, 108, 108], trT l, trT r]
  | .eachTill l r => .nd false .tup [tx [101, 97, 99, 104, 116, 105, 108, 108], trT l, trT r]
theorem frz_trT : ∀ s : Sg, frz (trT s) = trT s
  | .all => by simp only [trT, frz_nd, frzs, z_frzst]
  | .mark w => by simp only [trT, frz_nd, frzs, z_frzst]
  | .not p => by simp only [trT, frz_nd, frzs, z_frzst, frz_trT p]
  | .someNext p => by simp only [trT, frz_nd, frzs, z_frzst, frz_trT p]
  | .eachNext p => by simp only [trT, frz_nd, frzs, z_frzst, frz_trT p]
  | .someAlways p => by simp only [trT, frz_nd, frzs, z_frzst, frz_trT p]
  | .eachAlways p => by simp only [trT, frz_nd, frzs, z_frzst, frz_trT p]
  | .someEver p => by simp only [trT, frz_nd, frzs, z_frzst, frz_trT p]
  | .eachEver p => by simp only [trT, frz_nd, frzs, z_frzst, frz_trT p]
  | .both l r => by simp only [trT, frz_nd, frzs, z_frzst, frz_trT l, frz_trT r]
  | .either l r => by simp only [trT, frz_nd, frzs, z_frzst, frz_trT l, frz_trT r]
  | .someTill l r => by simp only [trT, frz_nd, frzs, z_frzst, frz_trT l, frz_trT r]
  | .eachTill l r => by simp only [trT, frz_nd, frzs, z_frzst, frz_trT l, frz_trT r]
theorem cln_trT (s : Sg) : cln (trT s) = true := by rw [← frz_trT]; exact cln_frz _
theorem ok_trT (s : Sg) : okT (trT s) = some (trT s) := by cases s <;> rfl
def wU : Nat → List Nat
  | 0 => [110, 111, 116]
  | 1 => [115, 111, 109, 101, 110, 101, 120, 116]
  | 2 => [101, 97, 99, 104, 110, 101, 120, 116]
  | 3 => [115, 111, 109, 101, 97, 108, 119, 97, 121, 115]
  | 4 => [101, 97, 99, 104, 97, 108, 119, 97, 121, 115]
  | 5 => [115, 111, 109, 101, 101, 118, 101, 114]
  | _ => [101, 97, 99, 104, 101, 118, 101, 114]
def mkU : Nat → Sg → Sg
  | 0 => .not
  | 1 => .someNext
  | 2 => .eachNext
  | 3 => .someAlways
  | 4 => .eachAlways
  | 5 => .someEver
  | _ => .eachEver
def wB : Nat → List Nat
  | 0 => [98, 111, 116, 104]
  | 1 => [101, 105, 116, 104, 101, 114]
  | 2 => [115, 111, 109, 101, 116, 105, 108, 108]
  | _ => [101, 97, 99, 104, 116, 105, 108, 108]
def mkB : Nat → Sg → Sg → Sg
  | 0 => .both
  | 1 => .either
  | 2 => .someTill
  | _ => .eachTill
theorem le_cases7 {j : Nat} (h : j < 7) : j = 0 ∨ j = 1 ∨ j = 2 ∨ j = 3 ∨ j = 4 ∨ j = 5 ∨ j = 6 := by omega
theorem le_cases4 {j : Nat} (h : j < 4) : j = 0 ∨ j = 1 ∨ j = 2 ∨ j = 3 := by omega
theorem trU {j : Nat} (h : j < 7) (p : Sg) : trT (mkU j p) = .nd false .tup [tx (wU j), trT p] ∧ dep (mkU j p) = dep p + 1 ∧ sz (mkU j p) = sz p + 1 ∧ (mok p → mok (mkU j p)) := by
  rcases le_cases7 h with rfl | rfl | rfl | rfl | rfl | rfl | rfl <;> exact ⟨rfl, rfl, rfl, id⟩
theorem trB {j : Nat} (h : j < 4) (l r : Sg) : trT (mkB j l r) = .nd false .tup [tx (wB j), trT l, trT r] ∧ dep (mkB j l r) = max (dep l) (dep r) + 1 ∧ sz (mkB j l r) = sz l + sz r + 1 ∧ (mok l → mok r → mok (mkB j l r)) := by
  rcases le_cases4 h with rfl | rfl | rfl | rfl <;> exact ⟨rfl, rfl, rfl, fun a b => ⟨a, b⟩⟩
theorem ixU (c : Int) : ∃ j, j < 7 ∧ oIx (.nd true .lst [tx [110, 111, 116], tx [115, 111, 109, 101, 110, 101, 120, 116], tx [101, 97, 99, 104, 110, 101, 120, 116], tx [115, 111, 109, 101, 97, 108, 119, 97, 121, 115], tx [101, 97, 99, 104, 97, 108, 119, 97, 121, 115], tx [115, 111, 109, 101, 101, 118, 101, 114], tx [101, 97, 99, 104, 101, 118, 101, 114]]) (.lf (.int (c / 16 % 7))) = some (tx (wU j)) := by
  have a0 := Int.emod_nonneg (c / 16) (b := 7) (by omega)
  have a1 := Int.emod_lt_of_pos (c / 16) (b := 7) (by omega)
  refine ⟨(c / 16 % 7).toNat, by omega, ?_⟩
  generalize c / 16 % 7 = i at *
  obtain ⟨j, rfl⟩ : ∃ j : Nat, i = (j : Int) := ⟨i.toNat, by omega⟩
  rw [Int.toNat_natCast]
  rcases le_cases7 (show j < 7 by omega) with rfl | rfl | rfl | rfl | rfl | rfl | rfl <;> rfl
theorem ixB (c : Int) : ∃ j, j < 4 ∧ oIx (.nd true .lst [tx [98, 111, 116, 104], tx [101, 105, 116, 104, 101, 114], tx [115, 111, 109, 101, 116, 105, 108, 108], tx [101, 97, 99, 104, 116, 105, 108, 108]]) (.lf (.int (c / 16 % 4))) = some (tx (wB j)) := by
  have a0 := Int.emod_nonneg (c / 16) (b := 4) (by omega)
  have a1 := Int.emod_lt_of_pos (c / 16) (b := 4) (by omega)
  refine ⟨(c / 16 % 4).toNat, by omega, ?_⟩
  generalize c / 16 % 4 = i at *
  obtain ⟨j, rfl⟩ : ∃ j : Nat, i = (j : Int) := ⟨i.toNat, by omega⟩
  rw [Int.toNat_natCast]
  rcases le_cases4 (show j < 4 by omega) with rfl | rfl | rfl | rfl <;> rfl
/-- the names that are handed in -/
def NL (o : Bool) (ws : List (List Nat)) : T := .nd o .lst (ws.map tx)
theorem frz_NL (o ws) : frz (NL o ws) = NL false ws := by
  unfold NL
  rw [frz_nd, frzs_map, List.map_map]
  exact congrArg (T.nd false .lst) (List.map_congr_left fun x _ => z_frzst x)
theorem ok_NL (o ws) : okT (NL o ws) = some (NL o ws) := rfl
theorem len_NL (o ws) : oLen (NL o ws) = some (.lf (.int ((ws.length : Nat) : Int))) := by
  show some (T.lf (.int ((((ws.map tx).length : Nat) : Int)))) = _
  rw [List.length_map]
theorem ix_NL (ws : List (List Nat)) (i : Int) (h0 : 0 ≤ i) (h : i.toNat < ws.length) : ∃ w ∈ ws, oIx (NL false ws) (.lf (.int i)) = some (tx w) := by
  refine ⟨ws[i.toNat], List.getElem_mem h, ?_⟩
  show L2.atI (ws.map tx) i = _
  rw [atI_of h0 (by simpa using h), List.getElem?_map, List.getElem?_eq_getElem h]; rfl
theorem grown_ok (ws : List (List Nat)) (hw : ∀ w ∈ ws, Okc w = true) (hl : ws.length ≤ 100) : ∀ (k d : Nat) (R : List Int) (o : Bool), d < k → R.length ≤ 90 →
    ∃ s R', dep s ≤ d ∧ mok s ∧ sz s + 1 ≤ 2 ^ (d + 1) ∧ R'.length ≤ 90 ∧ ∃ a b, m_law_grown k [li true R, NL o ws, .lf (.int (d : Int))] = some (trT s, [li true R', a, b])
  | 0, d, R, o, h, _ => absurd h (Nat.not_lt_zero _)
  | k + 1, d, R, o, h, hR => by
    have lc := law_cell_ok R (by omega)
    have hd : R.dropLast.length ≤ 90 := by rw [List.length_dropLast]; omega
    generalize R.dropLast = R1 at lc hd
    generalize lastI R = c at lc
    have fN := frz_NL o ws
    have lN := len_NL o ws
    have e0 : 2 ≤ 2 ^ (d + 1) := by rw [Nat.pow_succ]; have := Nat.one_le_two_pow (n := d); omega
    have e1 : 2 ^ (d + 1) = 2 * 2 ^ d := by rw [Nat.pow_succ, Nat.mul_comm]
    have leaf : (d = 0 ∨ c % 16 < 5) → ∃ s R', dep s ≤ d ∧ mok s ∧ sz s + 1 ≤ 2 ^ (d + 1) ∧ R'.length ≤ 90 ∧ ∃ a b, m_law_grown (k + 1) [li true R, NL o ws, .lf (.int (d : Int))] = some (trT s, [li true R', a, b]) := fun hlf => by
      by_cases h0 : c % 16 = 0
      · refine ⟨.all, R1, by simp [dep], trivial, by simp [sz]; omega, hd, ?_⟩
        rcases hlf with hdd | h5
        · have hd0 : (d : Int) = 0 := by omega
          exists ms_law_grown, bn_law_grown, lc, h0, hd0, trT
          exact ⟨_, _, rfl⟩
        · have hd0 : (d : Int) = 0 ∨ ¬ (d : Int) = 0 := by omega
          rcases hd0 with hd0 | hd0
          · exists ms_law_grown, bn_law_grown, lc, h0, hd0, trT
            exact ⟨_, _, rfl⟩
          · exists ms_law_grown, bn_law_grown, lc, h0, hd0, trT
            exact ⟨_, _, rfl⟩
      · by_cases hw0 : ws = []
        · have l0 : (ws.length : Int) = 0 := by rw [hw0]; rfl
          refine ⟨.all, R1, by simp [dep], trivial, by simp [sz]; omega, hd, ?_⟩
          by_cases hd0 : (d : Int) = 0
          · exists ms_law_grown, bn_law_grown, lc, h0, hd0, fN, lN, l0, ok_NL, len_NL, trT
            exact ⟨_, _, rfl⟩
          · have h5 : c % 16 < 5 := hlf.resolve_left fun z => hd0 (by omega)
            exists ms_law_grown, bn_law_grown, lc, h0, hd0, h5, fN, lN, l0, ok_NL, len_NL, trT
            exact ⟨_, _, rfl⟩
        · have wl := List.length_pos_iff.mpr hw0
          have lp : (0 : Int) < (ws.length : Int) ∧ (ws.length : Int) < 1073741824 := by omega
          have l0 : ¬ (ws.length : Int) = 0 := by omega
          have m0 := Int.emod_nonneg (c / 16) (b := (ws.length : Int)) (by omega)
          have m1 := Int.emod_lt_of_pos (c / 16) lp.1
          obtain ⟨w, hwm, ixw⟩ := ix_NL ws (c / 16 % (ws.length : Int)) m0 (by omega)
          refine ⟨.mark w, R1, by simp [dep], hw w hwm, by simp [sz]; omega, hd, ?_⟩
          by_cases hd0 : (d : Int) = 0
          · exists ms_law_grown, bn_law_grown, lc, h0, hd0, fN, lN, lp, l0, ixw, ok_NL, len_NL, trT
            exact ⟨_, _, rfl⟩
          · have h5 : c % 16 < 5 := hlf.resolve_left fun z => hd0 (by omega)
            exists ms_law_grown, bn_law_grown, lc, h0, hd0, h5, fN, lN, lp, l0, ixw, ok_NL, len_NL, trT
            exact ⟨_, _, rfl⟩
    by_cases hlf : d = 0 ∨ c % 16 < 5
    · exact leaf hlf
    have h0 : ¬ (d : Int) = 0 := fun z => hlf (.inl (by omega))
    have h5 : ¬ c % 16 < 5 := fun z => hlf (.inr z)
    obtain ⟨d', rfl⟩ : ∃ d', d = d' + 1 := ⟨d - 1, by omega⟩
    have ed : ((d' + 1 : Nat) : Int) - 1 = (d' : Int) := by omega
    by_cases h11 : c % 16 < 11
    · obtain ⟨j, hj, ij⟩ := ixU c
      obtain ⟨p, R2, q1, q2, q3, q4, a, b, q5⟩ := grown_ok ws hw hl k d' R1 o (by omega) hd
      obtain ⟨u1, u2, u3, u4⟩ := trU hj p
      have okp := ok_trT p
      refine ⟨mkU j p, R2, by omega, u4 q2, by rw [e1]; omega, q4, ?_⟩
      rw [u1]
      obtain ⟨p', R2', r1, r2, r3, r4, a', b', q5'⟩ := grown_ok ws hw hl k d' R1 false (by omega) hd
      exists ms_law_grown, bn_law_grown, lc, h0, h5, h11, ij, ed, q5, okp, ok_NL, fN
      exact ⟨_, _, rfl⟩
    · obtain ⟨j, hj, ij⟩ := ixB c
      obtain ⟨l, R2, q1, q2, q3, q4, a, b, q5⟩ := grown_ok ws hw hl k d' R1 false (by omega) hd
      obtain ⟨r, R3, r1, r2, r3, r4, a', b', r5⟩ := grown_ok ws hw hl k d' R2 false (by omega) q4
      obtain ⟨u1, u2, u3, u4⟩ := trB hj l r
      have okl := ok_trT l
      have okr := ok_trT r
      refine ⟨mkB j l r, R3, by omega, u4 q2 r2, by rw [e1]; omega, r4, ?_⟩
      rw [u1]
      exists ms_law_grown, bn_law_grown, lc, h0, h5, h11, ij, ed, q5, r5, okl, okr, ok_NL, fN
      exact ⟨_, _, rfl⟩
end Pm


set_option Elab.async false
set_option linter.all false
set_option autoImplicit false
set_option maxRecDepth 100000
set_option maxHeartbeats 4000000
/-! SM0: sayings made, of one part. -/
namespace Pm
open PySem PySem.Spec PyProof.Rows L2 Tr Wk
local macro_rules | `(tactic| exists $es,*) => do { let ls ← es.getElems.mapM fun e => `(Lean.Parser.Tactic.simpLemma| $e:term); `(tactic| simp -implicitDefEqProofs (disch := (first | assumption | omega | decide | (simp only [List.length_cons, List.length_nil, List.length_append, List.length_map, Tr.rgI_len]; omega) | (simp only [List.length_cons, List.length_nil, List.length_append, List.length_map, Int.toNat_natCast] at *; omega))) only [Tr.okT_lf, Tr.okT_nd, Tr.okT_li, Tr.okT_ll, Tr.okT_dk, Tr.okT_mks, Tr.okT_mk1, Tr.okT_mch, Tr.okT_scr, Tr.okT_tp, Tr.okO_some, Tr.gV_ev, Tr.gC_ev, Tr.gG_ev, Tr.fM_ev, Tr.fS_ev, Tr.gM_ev, Tr.gS_ev, Tr.fP_ev, Tr.fQ_ev, Tr.vr_ev, Tr.fRe_ev, Tr.re_ev, Tr.fO1_ev, Tr.o1V_ev, Tr.o1_ev, Tr.fO2V_ev, Tr.o2V_ev, Tr.fO2v'_ev, Tr.fO2v_ev, Tr.o2v_ev, Tr.fO2o'_ev, Tr.fO2o_ev, Tr.o2o_ev, Tr.fO2c'_ev, Tr.fO2c_ev, Tr.o2c_ev, Tr.fO2n''_ev, Tr.fO2n'_ev, Tr.fO2n_ev, Tr.o2n_ev, Tr.fAnd_ev, Tr.fOr_ev, Tr.dAnd_ev, Tr.dOr_ev, Tr.ite_BB, Tr.ite_decF, Tr.ite_Tdec, Tr.z_cast, Tr.z_ndec, Tr.ite_TF, Tr.ite_FT, Tr.bind_ite, Tr.aNil_ev, Tr.fCons'_ev, Tr.fCons_ev, Tr.aCons_ev, Tr.fCall'_ev, Tr.fCall_ev, Tr.dCall_ev, Tr.wb_nil, Tr.wb_none, Tr.fWb_ev, Tr.wb_some, Tr.fMeth'_ev, Tr.fMeth_ev, Tr.dMeth_ev, Tr.fMake'_ev, Tr.fMake_ev, Tr.dMake_ev, Tr.fSeq_nx, Tr.fSeq_rt, Tr.fSeq_bk, Tr.fSeq_ct, Tr.dSeq_ev, Tr.fIf_ev, Tr.dIf_ev, Tr.fSet_ev, Tr.dSet_ev, Tr.fRet_ev, Tr.dRet_ev, Tr.fEx_ev, Tr.dEx_ev, Tr.dRetN_ev, Tr.dNx_ev, Tr.dBk_ev, Tr.dCt_ev, Tr.dFail_ev, Tr.fPut''_ev, Tr.fPut'_ev, Tr.fPut1_ev, Tr.fPut_ev, Tr.dPut_ev, Tr.fMut3_ev, Tr.fMut2_ev, Tr.fMut1_ev, Tr.fMut_ev, Tr.dMut_ev, Tr.fLst_ev, Tr.fTup_ev, Tr.dLst_ev, Tr.dTup_ev, Tr.dDic_ev, Tr.fBw_ev, Tr.bw_ev, Tr.fFz_ev, Tr.fz_ev, Tr.fAug''_ev, Tr.fAug'_ev, Tr.fAug_ev, Tr.dAug_ev, Tr.z_ex, Tr.z_exT, Tr.fRng_nat, Tr.dRng_ev, Tr.fIt'_ev, Tr.fIt_ev, Tr.dIt_ev, Tr.fFor_ev, Tr.dFor_ev, Tr.gN_ev, Tr.fG_ev, Tr.gT2_ev, Tr.gT2_mk1, Tr.dFr_nil, Tr.turn_ev, Tr.fFr_nx, Tr.fFr_ct, Tr.fFr_bk, Tr.fFr_rt, Tr.dFr_cons, Tr.fLc'_ev, Tr.fLc_ev, Tr.dLc_ev, Tr.dLr_nil, Tr.wipeT_nil, Tr.wipeT_cons, Tr.backT_nil, Tr.backT_cons, Tr.cleanAt_nil, Tr.cleanAt_cons, Tr.fFun_rt, Tr.fFun_nx, Tr.dFun_ev, Tr.outs_cons, Tr.outs_nil, Tr.frzs_nil, Tr.frzs_cons, Tr.z_frz1, Tr.z_frz2, Tr.z_frz3, Tr.z_frz4, Tr.z_frz5, Tr.z_frz6, Tr.z_frz7, Tr.z_frz8, Tr.z_frz9, Tr.z_frz10, Tr.z_frz11, Tr.z_cln1, Tr.z_cln2, Tr.z_cln3, Tr.z_cln4, Tr.z_cln5, Tr.z_cln6, Tr.z_cln7, Tr.z_cln8, Tr.z_cln9, Tr.z_cln10, Tr.z_clns1, Tr.z_clns2, Tr.z_clns3, Tr.z_pure1, Tr.z_pure2, Tr.z_pure3, Tr.z_pure4, Tr.z_pure5, Tr.z_pure6, Tr.z_pure7, Tr.z_lfI, Tr.z_li, Tr.z_add, Tr.z_sub, Tr.z_mulr, Tr.z_mod, Tr.z_div, Tr.z_lt, Tr.z_le, Tr.z_gt, Tr.z_ge, Tr.z_eq, Tr.z_ne, Tr.z_neg, Tr.z_eqli, Tr.z_neli, Tr.z_eqnil, Tr.z_nenil, Tr.z_inli, Tr.z_ninli, Tr.z_indk, Tr.z_nindk, Tr.z_ll, Tr.z_mks, Tr.z_nil, Tr.z_appll, Tr.z_int1, Tr.z_int2, Tr.z_len1, Tr.z_len2, Tr.z_len3, Tr.z_len4, Tr.z_len5, Tr.z_len6, Tr.z_len7, Tr.z_not, Tr.z_isi1, Tr.z_isi2, Tr.z_isi3, Tr.z_isi4, Tr.z_isi5, Tr.z_isi6, Tr.z_list1, Tr.z_sort1, Tr.z_sort2, Tr.z_app1, Tr.z_app2, Tr.z_pop1, Tr.z_clr1, Tr.z_clr2, Tr.z_rev1, Tr.z_ext1, Tr.z_cat1, Tr.z_it1, Tr.z_it2, Tr.z_it3, Tr.z_it4, Tr.z_ty1, Tr.z_ty2, Tr.z_ty3, Tr.z_ty4, Tr.z_fst, Tr.z_fma, Tr.z_ffa, Tr.z_ins1, Tr.z_ins2, Tr.z_ins3, Tr.z_ins4, Tr.z_ins5, Tr.z_ixli, Tr.z_ixll, Tr.z_ixlast, Tr.z_setdk, Tr.fDic1_ev, Tr.fDic1'_ev, Tr.dDic1_ev, Tr.fLRg_nat, Tr.dLRg_ev, Tr.z_len8, Tr.z_bind_some, Tr.z_get0, Tr.z_gets, Tr.z_getD0, Tr.z_getDs, Tr.z_set0, Tr.z_sets, Tr.z_app, Tr.z_nil_app, Tr.z_app_nil, Tr.z_map0, Tr.z_mapc, Tr.z_rep0, Tr.z_reps, Tr.z_lenc, Tr.z_lenn, Tr.z_c0, Tr.z_c1, Tr.z_c2, Tr.z_c3, Tr.z_okoV, Tr.z_okrk, Tr.z_okrl, Tr.z_frzoV, Tr.z_clnoV, Tr.z_pureoV, Tr.z_frzrk, Tr.z_clnrk, Tr.z_frzrl, Tr.z_clnrl, Tr.z_ixrl, Tr.z_lenrl, Tr.z_isirl, Tr.z_tyrl, Tr.z_clrrl, Tr.z_oVs, Tr.z_oVn, Tr.z_rks, Tr.z_rkn, Tr.z_ixt0, Tr.z_ixt1, Tr.z_isN1, Tr.z_isN2, Tr.z_isN3, Tr.z_notN1, Tr.z_notN2, Tr.z_notN3, Tr.z_isN4, Tr.z_notN4, Tr.z_isN5, Tr.z_notN5, Tr.fCh3_ev, Tr.fCh2_ev, Tr.fCh1_ev, Tr.z_ch, Tr.z_okdls, Tr.z_frzdls, Tr.z_clndls, Tr.z_ixdls, Tr.z_indls, Tr.z_okdds, Tr.z_frzdds, Tr.z_clndds, Tr.z_ixdds, Tr.fAsg'_ev, Tr.fAsg_ev, Tr.dAsg_ev, Tr.fBwS_ev, Tr.bwS_ev, Tr.fPt_ev, Tr.ptT_no, Tr.ptT_so, Tr.fSl2_ev, Tr.fSl1_ev, Tr.fSl_ev, Tr.dSl_ev, Tr.z_slli, Tr.z_cutTail, Tr.z_cutInit, Tr.z_okst, Tr.z_frzst, Tr.z_clnst, Tr.z_purest, Tr.z_addst, Tr.z_lenst, Tr.z_inst1, Tr.z_ninst1, Tr.z_ixst, Tr.eqL_self, Tr.eqL_nn, Tr.eqL_nc, Tr.eqL_cn, Tr.eqL_cc, Tr.z_eqst, Tr.z_nest, Tr.z_insl, Tr.z_ninsl, Tr.z_sq1, Tr.z_sq2, Tr.z_sq3, Tr.z_itst, Tr.z_isist, Tr.z_slst, Tr.z_cutOne, Tr.lit_all, Tr.lit_not, Tr.lit_both, Tr.lit_either, Tr.lit_somenext, Tr.lit_eachnext, Tr.lit_sometill, Tr.lit_eachtill, Tr.lit_someever, Tr.lit_eachever, Tr.lit_somealways, Tr.lit_eachalways, Tr.lit_mark, Tr.lit_loop, Tr.lit_rank, Tr.lit_walk, Tr.lit_shut, Tr.lit_out, Tr.lit_here, Tr.lit_dead, Tr.lit_plain, Tr.lit_step, Tr.lit_none, Tr.lit_fair, Tr.lit_answer, Tr.lit_p, Tr.lit_wet, Tr.lit_darkness, Tr.lit_x, Tr.lit_q, Tr.lit_empty, Tr.lit_in, Tr.lit_letters, Tr.z_kept, Tr.z_catX12, Tr.z_catT12, Tr.z_ixt2, Tr.z_frzsg, Tr.z_clnsg, Tr.z_oksg, Tr.z_oktl, Tr.z_frztl, Tr.z_clntl, Tr.z_insT_told, Tr.z_insT_joint, Tr.z_insT_over_walks, Tr.z_insT_contrary, Tr.z_insT_good, Tr.z_insT_some_next, Tr.z_insT_some_till, Tr.z_insT_each_till, Tr.z_fldT_machine, Tr.z_fldT_every, Tr.z_fldT_live, Tr.fEls_s, Tr.fEls_n, Tr.elsE_ev, Tr.fOO_s, Tr.fOO_n, Tr.oOr_ev, Tr.fMO_s, Tr.fMO_n, Tr.mOr_ev, Tr.oIs1_nd, Tr.dNew_ev, ↓reduceIte, ite_true, ite_false, Nat.reduceAdd, Nat.reduceSub, Nat.reduceLT, Nat.reduceLeDiff, Nat.zero_add, Nat.lt_add_one, Nat.zero_lt_succ, decide_true, decide_false, decide_eq_true_eq, decide_eq_false_iff_not, Bool.not_eq_true, Bool.not_eq_false, Bool.not_true, Bool.not_false, Bool.not_eq_true', Bool.and_true, Bool.true_and, Bool.and_self, Bool.and_eq_true, Bool.or_eq_true, not_true_eq_false, not_false_eq_true, eq_self, and_self, and_true, true_and, false_and, and_false, or_true, true_or, or_false, false_or, reduceCtorEq, Bool.false_eq_true, Int.toNat_natCast, Int.reduceToNat, Int.reduceEq, Int.reduceLT, Int.reduceLE, Int.reduceNeg, Int.reduceAdd, Int.reduceSub, Int.reduceMul, List.length_map, Bool.not_not, Bool.not_eq_eq_eq_not, Decidable.not_not, Nat.reduceEqDiff, Bool.false_and, Bool.and_false, Option.isSome_some, Option.isSome_none, Option.isNone_some, Option.isNone_none, $ls,*]) }

/-! ### sayings made -/
theorem mark_make (w : List Nat) : m_Mark_init [.nd true (.ins "Mark" []) [], tx w] = some (.lf .non, [.nd true (.ins "Mark" ["name"]) [tx w], .no]) := by
  have e : mFld "Mark" "name" (.nd true (.ins "Mark" []) []) [tx w] = some (.lf .non, .nd true (.ins "Mark" ["name"]) [tx w]) := by
    rw [mFld_nd _ _ _ _ _ _ (by simp), if_pos rfl]; rfl
  exists m_Mark_init, bn_Mark_init, e, ok_ins
theorem single_e (c : Str) (P : T) (h : mA_Single_init_part (.nd true (.ins c []) []) [P] = some (.lf .non, .nd true (.ins c ["part"]) [P])) (k : okT P = some P) : m_Single_init [.nd true (.ins c []) [], P] = some (.lf .non, [.nd true (.ins c ["part"]) [P], .no]) := by
  exists m_Single_init, bn_Single_init, h, k, ok_ins
theorem mfp (c : Str) (P : T) : mFld c "part" (.nd true (.ins c []) []) [P] = some (.lf .non, .nd true (.ins c ["part"]) [P]) := by
  rw [mFld_nd _ _ _ _ _ _ (by simp), if_pos rfl]; rfl
theorem mfn {c c' : Str} (f P : _) (h : (c' = c) = False) : mFld c f (.nd true (.ins c' []) []) [P] = none := by
  rw [mFld_nd _ _ _ _ _ _ (by simp), if_neg (by rw [h]; exact id)]
end Pm


set_option Elab.async false
set_option linter.all false
set_option autoImplicit false
set_option maxRecDepth 100000
set_option maxHeartbeats 4000000
/-! EV5: what D18 brings, reckoned. -/
namespace Tr
open PySem PySem.Spec PyProof.Rows L2 Pm
def fFzk (i : Nat) (d : DE) (env : List T) (t : T) : Option (T × List T) := match t with
  | .nd true k xs => d (env.set i (.nd true k (frzs xs)))
  | _ => none
--ev
theorem fFzk_ev (i d env k xs) : fFzk i d env (.nd true k xs) = d (env.set i (.nd true k (frzs xs))) := rfl
--ev
theorem fzk_ev (i d env) : fzk i d env = env[i]?.bind (fFzk i d env) := by
  unfold fzk fFzk
  cases env[i]? with
  | none => rfl
  | some t => cases t with
    | no => rfl
    | lf v => rfl
    | nd o k xs => cases o <;> rfl
def fDfz (p : T × List T) : Option (T × List T) := some (frz p.1, p.2)
--ev
theorem fDfz_ev (t e) : fDfz (t, e) = some (frz t, e) := rfl
--ev
theorem dfz_ev (d env) : dfz d env = (d env).bind fDfz := by
  unfold dfz fDfz
  cases d env <;> rfl
--ev
theorem z_eqbl (a b : Bool) : oEq (.lf (.bl a)) (.lf (.bl b)) = some (.lf (.bl (a == b))) := by
  unfold oEq
  have h : ∀ x : Bool, SeqAt.shaped (.bool x) = true := fun x => by cases x <;> decide
  simp only [toD, Option.bind_some, h, and_self, if_true, PyData.eqv]
--ev
theorem z_nebl (a b : Bool) : oNe (.lf (.bl a)) (.lf (.bl b)) = some (.lf (.bl (!(a == b)))) := by
  unfold oNe
  have h : ∀ x : Bool, SeqAt.shaped (.bool x) = true := fun x => by cases x <;> decide
  simp only [toD, Option.bind_some, h, and_self, if_true, PyData.eqv]
--ev
theorem z_beqtt : (true == true) = true := rfl
--ev
theorem z_beqff : (false == false) = true := rfl
--ev
theorem z_beqtf : (true == false) = false := rfl
--ev
theorem z_beqft : (false == true) = false := rfl
--ev
theorem z_isNll (o xs) : oIsN (ll o xs) (.lf .non) = some (.lf (.bl false)) := rfl
--ev
theorem z_isNli (o xs) : oIsN (li o xs) (.lf .non) = some (.lf (.bl false)) := rfl
--ev
theorem z_catnd (o o' xs ys) (h : xs.length + ys.length ≤ 1000) : oCat (.nd o .lst xs) (.nd o' .lst ys) = if clns xs = true ∧ clns ys = true then some (.nd true .lst (xs ++ ys)) else none := by
  have := small h
  show (if clns xs = true ∧ clns ys = true ∧ xs.length + ys.length ≤ sizeLine then some (T.nd true .lst (xs ++ ys)) else none) = _
  by_cases h1 : clns xs = true <;> by_cases h2 : clns ys = true <;> simp [h1, h2] <;> omega
end Tr


set_option Elab.async false
set_option linter.all false
set_option autoImplicit false
set_option maxRecDepth 100000
set_option maxHeartbeats 4000000
/-! MD: sayings made of trees of words (_law_single, _law_made). (printed by mkmd.py) -/
namespace Pm
open PySem PySem.Spec PyProof.Rows L2 Tr Wk
local macro_rules | `(tactic| exists $es,*) => do { let ls ← es.getElems.mapM fun e => `(Lean.Parser.Tactic.simpLemma| $e:term); `(tactic| simp -implicitDefEqProofs (disch := (first | assumption | omega | decide | (simp only [List.length_cons, List.length_nil, List.length_append, List.length_map, Tr.rgI_len]; omega) | (simp only [List.length_cons, List.length_nil, List.length_append, List.length_map, Int.toNat_natCast] at *; omega))) only [Tr.okT_lf, Tr.okT_nd, Tr.okT_li, Tr.okT_ll, Tr.okT_dk, Tr.okT_mks, Tr.okT_mk1, Tr.okT_mch, Tr.okT_scr, Tr.okT_tp, Tr.okO_some, Tr.gV_ev, Tr.gC_ev, Tr.gG_ev, Tr.fM_ev, Tr.fS_ev, Tr.gM_ev, Tr.gS_ev, Tr.fP_ev, Tr.fQ_ev, Tr.vr_ev, Tr.fRe_ev, Tr.re_ev, Tr.fO1_ev, Tr.o1V_ev, Tr.o1_ev, Tr.fO2V_ev, Tr.o2V_ev, Tr.fO2v'_ev, Tr.fO2v_ev, Tr.o2v_ev, Tr.fO2o'_ev, Tr.fO2o_ev, Tr.o2o_ev, Tr.fO2c'_ev, Tr.fO2c_ev, Tr.o2c_ev, Tr.fO2n''_ev, Tr.fO2n'_ev, Tr.fO2n_ev, Tr.o2n_ev, Tr.fAnd_ev, Tr.fOr_ev, Tr.dAnd_ev, Tr.dOr_ev, Tr.ite_BB, Tr.ite_decF, Tr.ite_Tdec, Tr.z_cast, Tr.z_ndec, Tr.ite_TF, Tr.ite_FT, Tr.bind_ite, Tr.aNil_ev, Tr.fCons'_ev, Tr.fCons_ev, Tr.aCons_ev, Tr.fCall'_ev, Tr.fCall_ev, Tr.dCall_ev, Tr.wb_nil, Tr.wb_none, Tr.fWb_ev, Tr.wb_some, Tr.fMeth'_ev, Tr.fMeth_ev, Tr.dMeth_ev, Tr.fMake'_ev, Tr.fMake_ev, Tr.dMake_ev, Tr.fSeq_nx, Tr.fSeq_rt, Tr.fSeq_bk, Tr.fSeq_ct, Tr.dSeq_ev, Tr.fIf_ev, Tr.dIf_ev, Tr.fSet_ev, Tr.dSet_ev, Tr.fRet_ev, Tr.dRet_ev, Tr.fEx_ev, Tr.dEx_ev, Tr.dRetN_ev, Tr.dNx_ev, Tr.dBk_ev, Tr.dCt_ev, Tr.dFail_ev, Tr.fPut''_ev, Tr.fPut'_ev, Tr.fPut1_ev, Tr.fPut_ev, Tr.dPut_ev, Tr.fMut3_ev, Tr.fMut2_ev, Tr.fMut1_ev, Tr.fMut_ev, Tr.dMut_ev, Tr.fLst_ev, Tr.fTup_ev, Tr.dLst_ev, Tr.dTup_ev, Tr.dDic_ev, Tr.fBw_ev, Tr.bw_ev, Tr.fFz_ev, Tr.fz_ev, Tr.fAug''_ev, Tr.fAug'_ev, Tr.fAug_ev, Tr.dAug_ev, Tr.z_ex, Tr.z_exT, Tr.fRng_nat, Tr.dRng_ev, Tr.fIt'_ev, Tr.fIt_ev, Tr.dIt_ev, Tr.fFor_ev, Tr.dFor_ev, Tr.gN_ev, Tr.fG_ev, Tr.gT2_ev, Tr.gT2_mk1, Tr.dFr_nil, Tr.turn_ev, Tr.fFr_nx, Tr.fFr_ct, Tr.fFr_bk, Tr.fFr_rt, Tr.dFr_cons, Tr.fLc'_ev, Tr.fLc_ev, Tr.dLc_ev, Tr.dLr_nil, Tr.wipeT_nil, Tr.wipeT_cons, Tr.backT_nil, Tr.backT_cons, Tr.cleanAt_nil, Tr.cleanAt_cons, Tr.fFun_rt, Tr.fFun_nx, Tr.dFun_ev, Tr.outs_cons, Tr.outs_nil, Tr.frzs_nil, Tr.frzs_cons, Tr.z_frz1, Tr.z_frz2, Tr.z_frz3, Tr.z_frz4, Tr.z_frz5, Tr.z_frz6, Tr.z_frz7, Tr.z_frz8, Tr.z_frz9, Tr.z_frz10, Tr.z_frz11, Tr.z_cln1, Tr.z_cln2, Tr.z_cln3, Tr.z_cln4, Tr.z_cln5, Tr.z_cln6, Tr.z_cln7, Tr.z_cln8, Tr.z_cln9, Tr.z_cln10, Tr.z_clns1, Tr.z_clns2, Tr.z_clns3, Tr.z_pure1, Tr.z_pure2, Tr.z_pure3, Tr.z_pure4, Tr.z_pure5, Tr.z_pure6, Tr.z_pure7, Tr.z_lfI, Tr.z_li, Tr.z_add, Tr.z_sub, Tr.z_mulr, Tr.z_mod, Tr.z_div, Tr.z_lt, Tr.z_le, Tr.z_gt, Tr.z_ge, Tr.z_eq, Tr.z_ne, Tr.z_neg, Tr.z_eqli, Tr.z_neli, Tr.z_eqnil, Tr.z_nenil, Tr.z_inli, Tr.z_ninli, Tr.z_indk, Tr.z_nindk, Tr.z_ll, Tr.z_mks, Tr.z_nil, Tr.z_appll, Tr.z_int1, Tr.z_int2, Tr.z_len1, Tr.z_len2, Tr.z_len3, Tr.z_len4, Tr.z_len5, Tr.z_len6, Tr.z_len7, Tr.z_not, Tr.z_isi1, Tr.z_isi2, Tr.z_isi3, Tr.z_isi4, Tr.z_isi5, Tr.z_isi6, Tr.z_list1, Tr.z_sort1, Tr.z_sort2, Tr.z_app1, Tr.z_app2, Tr.z_pop1, Tr.z_clr1, Tr.z_clr2, Tr.z_rev1, Tr.z_ext1, Tr.z_cat1, Tr.z_it1, Tr.z_it2, Tr.z_it3, Tr.z_it4, Tr.z_ty1, Tr.z_ty2, Tr.z_ty3, Tr.z_ty4, Tr.z_fst, Tr.z_fma, Tr.z_ffa, Tr.z_ins1, Tr.z_ins2, Tr.z_ins3, Tr.z_ins4, Tr.z_ins5, Tr.z_ixli, Tr.z_ixll, Tr.z_ixlast, Tr.z_setdk, Tr.fDic1_ev, Tr.fDic1'_ev, Tr.dDic1_ev, Tr.fLRg_nat, Tr.dLRg_ev, Tr.z_len8, Tr.z_bind_some, Tr.z_get0, Tr.z_gets, Tr.z_getD0, Tr.z_getDs, Tr.z_set0, Tr.z_sets, Tr.z_app, Tr.z_nil_app, Tr.z_app_nil, Tr.z_map0, Tr.z_mapc, Tr.z_rep0, Tr.z_reps, Tr.z_lenc, Tr.z_lenn, Tr.z_c0, Tr.z_c1, Tr.z_c2, Tr.z_c3, Tr.z_okoV, Tr.z_okrk, Tr.z_okrl, Tr.z_frzoV, Tr.z_clnoV, Tr.z_pureoV, Tr.z_frzrk, Tr.z_clnrk, Tr.z_frzrl, Tr.z_clnrl, Tr.z_ixrl, Tr.z_lenrl, Tr.z_isirl, Tr.z_tyrl, Tr.z_clrrl, Tr.z_oVs, Tr.z_oVn, Tr.z_rks, Tr.z_rkn, Tr.z_ixt0, Tr.z_ixt1, Tr.z_isN1, Tr.z_isN2, Tr.z_isN3, Tr.z_notN1, Tr.z_notN2, Tr.z_notN3, Tr.z_isN4, Tr.z_notN4, Tr.z_isN5, Tr.z_notN5, Tr.fCh3_ev, Tr.fCh2_ev, Tr.fCh1_ev, Tr.z_ch, Tr.z_okdls, Tr.z_frzdls, Tr.z_clndls, Tr.z_ixdls, Tr.z_indls, Tr.z_okdds, Tr.z_frzdds, Tr.z_clndds, Tr.z_ixdds, Tr.fAsg'_ev, Tr.fAsg_ev, Tr.dAsg_ev, Tr.fBwS_ev, Tr.bwS_ev, Tr.fPt_ev, Tr.ptT_no, Tr.ptT_so, Tr.fSl2_ev, Tr.fSl1_ev, Tr.fSl_ev, Tr.dSl_ev, Tr.z_slli, Tr.z_cutTail, Tr.z_cutInit, Tr.z_okst, Tr.z_frzst, Tr.z_clnst, Tr.z_purest, Tr.z_addst, Tr.z_lenst, Tr.z_inst1, Tr.z_ninst1, Tr.z_ixst, Tr.eqL_self, Tr.eqL_nn, Tr.eqL_nc, Tr.eqL_cn, Tr.eqL_cc, Tr.z_eqst, Tr.z_nest, Tr.z_insl, Tr.z_ninsl, Tr.z_sq1, Tr.z_sq2, Tr.z_sq3, Tr.z_itst, Tr.z_isist, Tr.z_slst, Tr.z_cutOne, Tr.lit_all, Tr.lit_not, Tr.lit_both, Tr.lit_either, Tr.lit_somenext, Tr.lit_eachnext, Tr.lit_sometill, Tr.lit_eachtill, Tr.lit_someever, Tr.lit_eachever, Tr.lit_somealways, Tr.lit_eachalways, Tr.lit_mark, Tr.lit_loop, Tr.lit_rank, Tr.lit_walk, Tr.lit_shut, Tr.lit_out, Tr.lit_here, Tr.lit_dead, Tr.lit_plain, Tr.lit_step, Tr.lit_none, Tr.lit_fair, Tr.lit_answer, Tr.lit_p, Tr.lit_wet, Tr.lit_darkness, Tr.lit_x, Tr.lit_q, Tr.lit_empty, Tr.lit_in, Tr.lit_letters, Tr.z_kept, Tr.z_catX12, Tr.z_catT12, Tr.z_ixt2, Tr.z_frzsg, Tr.z_clnsg, Tr.z_oksg, Tr.z_oktl, Tr.z_frztl, Tr.z_clntl, Tr.z_insT_told, Tr.z_insT_joint, Tr.z_insT_over_walks, Tr.z_insT_contrary, Tr.z_insT_good, Tr.z_insT_some_next, Tr.z_insT_some_till, Tr.z_insT_each_till, Tr.z_fldT_machine, Tr.z_fldT_every, Tr.z_fldT_live, Tr.fEls_s, Tr.fEls_n, Tr.elsE_ev, Tr.fOO_s, Tr.fOO_n, Tr.oOr_ev, Tr.fMO_s, Tr.fMO_n, Tr.mOr_ev, Tr.oIs1_nd, Tr.dNew_ev, Tr.fFzk_ev, Tr.fzk_ev, Tr.fDfz_ev, Tr.dfz_ev, Tr.z_eqbl, Tr.z_nebl, Tr.z_beqtt, Tr.z_beqff, Tr.z_beqtf, Tr.z_beqft, Tr.z_isNll, Tr.z_isNli, Tr.z_catnd, ↓reduceIte, ite_true, ite_false, Nat.reduceAdd, Nat.reduceSub, Nat.reduceLT, Nat.reduceLeDiff, Nat.zero_add, Nat.lt_add_one, Nat.zero_lt_succ, decide_true, decide_false, decide_eq_true_eq, decide_eq_false_iff_not, Bool.not_eq_true, Bool.not_eq_false, Bool.not_true, Bool.not_false, Bool.not_eq_true', Bool.and_true, Bool.true_and, Bool.and_self, Bool.and_eq_true, Bool.or_eq_true, not_true_eq_false, not_false_eq_true, eq_self, and_self, and_true, true_and, false_and, and_false, or_true, true_or, or_false, false_or, reduceCtorEq, Bool.false_eq_true, Int.toNat_natCast, Int.reduceToNat, Int.reduceEq, Int.reduceLT, Int.reduceLE, Int.reduceNeg, Int.reduceAdd, Int.reduceSub, Int.reduceMul, List.length_map, Bool.not_not, Bool.not_eq_eq_eq_not, Decidable.not_not, Nat.reduceEqDiff, Bool.false_and, Bool.and_false, Option.isSome_some, Option.isSome_none, Option.isNone_some, Option.isNone_none, $ls,*]) }

def trD : Sg → PyData
  | .all => .tuple [.str ⟨#[97, 108, 108]⟩]
  | .mark w => .tuple [.str ⟨#[109, 97, 114, 107]⟩, .str ⟨w.toArray⟩]
  | .not p => .tuple [.str ⟨#[110, 111, 116]⟩, trD p]
  | .someNext p => .tuple [.str ⟨#[115, 111, 109, 101, 110, 101, 120, 116]⟩, trD p]
  | .eachNext p => .tuple [.str ⟨#[101, 97, 99, 104, 110, 101, 120, 116]⟩, trD p]
  | .someAlways p => .tuple [.str ⟨#[115, 111, 109, 101, 97, 108, 119, 97, 121, 115]⟩, trD p]
  | .eachAlways p => .tuple [.str ⟨#[101, 97, 99, 104, 97, 108, 119, 97, 121, 115]⟩, trD p]
  | .someEver p => .tuple [.str ⟨#[115, 111, 109, 101, 101, 118, 101, 114]⟩, trD p]
  | .eachEver p => .tuple [.str ⟨#[101, 97, 99, 104, 101, 118, 101, 114]⟩, trD p]
  | .both l r => .tuple [.str ⟨#[98, 111, 116, 104]⟩, trD l, trD r]
  | .either l r => .tuple [.str ⟨#[101, 105, 116, 104, 101, 114]⟩, trD l, trD r]
  | .someTill l r => .tuple [.str ⟨#[115, 111, 109, 101, 116, 105, 108, 108]⟩, trD l, trD r]
  | .eachTill l r => .tuple [.str ⟨#[101, 97, 99, 104, 116, 105, 108, 108]⟩, trD l, trD r]
theorem toD_tr : ∀ s : Sg, toD (trT s) = some (trD s)
  | .all => rfl
  | .mark w => rfl
  | .not p => by simp only [trT, trD, toD, toDs, toD_tr p, tx, Option.bind_some, Option.map_some]
  | .someNext p => by simp only [trT, trD, toD, toDs, toD_tr p, tx, Option.bind_some, Option.map_some]
  | .eachNext p => by simp only [trT, trD, toD, toDs, toD_tr p, tx, Option.bind_some, Option.map_some]
  | .someAlways p => by simp only [trT, trD, toD, toDs, toD_tr p, tx, Option.bind_some, Option.map_some]
  | .eachAlways p => by simp only [trT, trD, toD, toDs, toD_tr p, tx, Option.bind_some, Option.map_some]
  | .someEver p => by simp only [trT, trD, toD, toDs, toD_tr p, tx, Option.bind_some, Option.map_some]
  | .eachEver p => by simp only [trT, trD, toD, toDs, toD_tr p, tx, Option.bind_some, Option.map_some]
  | .both l r => by simp only [trT, trD, toD, toDs, toD_tr l, toD_tr r, tx, Option.bind_some, Option.map_some]
  | .either l r => by simp only [trT, trD, toD, toDs, toD_tr l, toD_tr r, tx, Option.bind_some, Option.map_some]
  | .someTill l r => by simp only [trT, trD, toD, toDs, toD_tr l, toD_tr r, tx, Option.bind_some, Option.map_some]
  | .eachTill l r => by simp only [trT, trD, toD, toDs, toD_tr l, toD_tr r, tx, Option.bind_some, Option.map_some]
theorem dt_tr : ∀ s : Sg, mok s → Dt (dep s + 1) (trT s)
  | .all, _ => .tup fun x hx => by rw [show x = _ by simpa using hx]; exact .st (by decide)
  | .mark w, h => .tup fun x hx => by
    rcases (show x = _ ∨ x = _ by simpa using hx) with rfl | rfl
    · exact .st (by decide)
    · exact .st h
  | .not p, h => .tup fun x hx => by
    rcases (show x = _ ∨ x = _ by simpa using hx) with rfl | rfl
    · exact .st (by decide)
    · exact (dt_tr p h).up (by simp only [dep]; omega)
  | .someNext p, h => .tup fun x hx => by
    rcases (show x = _ ∨ x = _ by simpa using hx) with rfl | rfl
    · exact .st (by decide)
    · exact (dt_tr p h).up (by simp only [dep]; omega)
  | .eachNext p, h => .tup fun x hx => by
    rcases (show x = _ ∨ x = _ by simpa using hx) with rfl | rfl
    · exact .st (by decide)
    · exact (dt_tr p h).up (by simp only [dep]; omega)
  | .someAlways p, h => .tup fun x hx => by
    rcases (show x = _ ∨ x = _ by simpa using hx) with rfl | rfl
    · exact .st (by decide)
    · exact (dt_tr p h).up (by simp only [dep]; omega)
  | .eachAlways p, h => .tup fun x hx => by
    rcases (show x = _ ∨ x = _ by simpa using hx) with rfl | rfl
    · exact .st (by decide)
    · exact (dt_tr p h).up (by simp only [dep]; omega)
  | .someEver p, h => .tup fun x hx => by
    rcases (show x = _ ∨ x = _ by simpa using hx) with rfl | rfl
    · exact .st (by decide)
    · exact (dt_tr p h).up (by simp only [dep]; omega)
  | .eachEver p, h => .tup fun x hx => by
    rcases (show x = _ ∨ x = _ by simpa using hx) with rfl | rfl
    · exact .st (by decide)
    · exact (dt_tr p h).up (by simp only [dep]; omega)
  | .both l r, h => .tup fun x hx => by
    rcases (show x = _ ∨ x = _ ∨ x = _ by simpa using hx) with rfl | rfl | rfl
    · exact .st (by decide)
    · exact (dt_tr l h.1).up (by simp only [dep]; omega)
    · exact (dt_tr r h.2).up (by simp only [dep]; omega)
  | .either l r, h => .tup fun x hx => by
    rcases (show x = _ ∨ x = _ ∨ x = _ by simpa using hx) with rfl | rfl | rfl
    · exact .st (by decide)
    · exact (dt_tr l h.1).up (by simp only [dep]; omega)
    · exact (dt_tr r h.2).up (by simp only [dep]; omega)
  | .someTill l r, h => .tup fun x hx => by
    rcases (show x = _ ∨ x = _ ∨ x = _ by simpa using hx) with rfl | rfl | rfl
    · exact .st (by decide)
    · exact (dt_tr l h.1).up (by simp only [dep]; omega)
    · exact (dt_tr r h.2).up (by simp only [dep]; omega)
  | .eachTill l r, h => .tup fun x hx => by
    rcases (show x = _ ∨ x = _ ∨ x = _ by simpa using hx) with rfl | rfl | rfl
    · exact .st (by decide)
    · exact (dt_tr l h.1).up (by simp only [dep]; omega)
    · exact (dt_tr r h.2).up (by simp only [dep]; omega)
theorem ev11 (a0 b0 : PyData) : PyData.eqv (.tuple [a0]) (.tuple [b0]) = PyData.eqv a0 b0 := by simp only [PyData.eqv, PyData.eqvAll, Bool.and_true, Bool.and_false]
theorem ev12 (a0 b0 b1 : PyData) : PyData.eqv (.tuple [a0]) (.tuple [b0, b1]) = false := by simp only [PyData.eqv, PyData.eqvAll, Bool.and_true, Bool.and_false]
theorem ev13 (a0 b0 b1 b2 : PyData) : PyData.eqv (.tuple [a0]) (.tuple [b0, b1, b2]) = false := by simp only [PyData.eqv, PyData.eqvAll, Bool.and_true, Bool.and_false]
theorem ev21 (a0 a1 b0 : PyData) : PyData.eqv (.tuple [a0, a1]) (.tuple [b0]) = false := by simp only [PyData.eqv, PyData.eqvAll, Bool.and_true, Bool.and_false]
theorem ev22 (a0 a1 b0 b1 : PyData) : PyData.eqv (.tuple [a0, a1]) (.tuple [b0, b1]) = (PyData.eqv a0 b0 && PyData.eqv a1 b1) := by simp only [PyData.eqv, PyData.eqvAll, Bool.and_true, Bool.and_false]
theorem ev23 (a0 a1 b0 b1 b2 : PyData) : PyData.eqv (.tuple [a0, a1]) (.tuple [b0, b1, b2]) = false := by simp only [PyData.eqv, PyData.eqvAll, Bool.and_true, Bool.and_false]
theorem ev31 (a0 a1 a2 b0 : PyData) : PyData.eqv (.tuple [a0, a1, a2]) (.tuple [b0]) = false := by simp only [PyData.eqv, PyData.eqvAll, Bool.and_true, Bool.and_false]
theorem ev32 (a0 a1 a2 b0 b1 : PyData) : PyData.eqv (.tuple [a0, a1, a2]) (.tuple [b0, b1]) = false := by simp only [PyData.eqv, PyData.eqvAll, Bool.and_true, Bool.and_false]
theorem ev33 (a0 a1 a2 b0 b1 b2 : PyData) : PyData.eqv (.tuple [a0, a1, a2]) (.tuple [b0, b1, b2]) = (PyData.eqv a0 b0 && (PyData.eqv a1 b1 && PyData.eqv a2 b2)) := by simp only [PyData.eqv, PyData.eqvAll, Bool.and_true, Bool.and_false]
theorem evs (x y : Str) : PyData.eqv (.str x) (.str y) = (x == y) := by simp only [PyData.eqv]
theorem trD_inj : ∀ l r : Sg, PyData.eqv (trD l) (trD r) = true → l = r := by
  intro l
  induction l with
  | all => intro r h; cases r <;> simp only [trD, ev11, ev12, ev13, ev21, ev22, ev23, ev31, ev32, ev33, evs, Bool.and_eq_true, beq_iff_eq, Bool.false_eq_true] at h <;> first | rfl | exact absurd h (by decide)
  | mark w => intro r h; cases r <;> simp only [trD, ev11, ev12, ev13, ev21, ev22, ev23, ev31, ev32, ev33, evs, Bool.and_eq_true, beq_iff_eq, Bool.false_eq_true] at h <;> first | exact congrArg Sg.mark (str_inj.mp h.2) | exact absurd h.1 (by decide)
  | not p ih => intro r h; cases r <;> simp only [trD, ev11, ev12, ev13, ev21, ev22, ev23, ev31, ev32, ev33, evs, Bool.and_eq_true, beq_iff_eq, Bool.false_eq_true] at h <;> first | exact absurd h.1 (by decide) | exact congrArg Sg.not (ih _ h.2)
  | someNext p ih => intro r h; cases r <;> simp only [trD, ev11, ev12, ev13, ev21, ev22, ev23, ev31, ev32, ev33, evs, Bool.and_eq_true, beq_iff_eq, Bool.false_eq_true] at h <;> first | exact absurd h.1 (by decide) | exact congrArg Sg.someNext (ih _ h.2)
  | eachNext p ih => intro r h; cases r <;> simp only [trD, ev11, ev12, ev13, ev21, ev22, ev23, ev31, ev32, ev33, evs, Bool.and_eq_true, beq_iff_eq, Bool.false_eq_true] at h <;> first | exact absurd h.1 (by decide) | exact congrArg Sg.eachNext (ih _ h.2)
  | someAlways p ih => intro r h; cases r <;> simp only [trD, ev11, ev12, ev13, ev21, ev22, ev23, ev31, ev32, ev33, evs, Bool.and_eq_true, beq_iff_eq, Bool.false_eq_true] at h <;> first | exact absurd h.1 (by decide) | exact congrArg Sg.someAlways (ih _ h.2)
  | eachAlways p ih => intro r h; cases r <;> simp only [trD, ev11, ev12, ev13, ev21, ev22, ev23, ev31, ev32, ev33, evs, Bool.and_eq_true, beq_iff_eq, Bool.false_eq_true] at h <;> first | exact absurd h.1 (by decide) | exact congrArg Sg.eachAlways (ih _ h.2)
  | someEver p ih => intro r h; cases r <;> simp only [trD, ev11, ev12, ev13, ev21, ev22, ev23, ev31, ev32, ev33, evs, Bool.and_eq_true, beq_iff_eq, Bool.false_eq_true] at h <;> first | exact absurd h.1 (by decide) | exact congrArg Sg.someEver (ih _ h.2)
  | eachEver p ih => intro r h; cases r <;> simp only [trD, ev11, ev12, ev13, ev21, ev22, ev23, ev31, ev32, ev33, evs, Bool.and_eq_true, beq_iff_eq, Bool.false_eq_true] at h <;> first | exact absurd h.1 (by decide) | exact congrArg Sg.eachEver (ih _ h.2)
  | both l r ih1 ih2 => intro r h; cases r <;> simp only [trD, ev11, ev12, ev13, ev21, ev22, ev23, ev31, ev32, ev33, evs, Bool.and_eq_true, beq_iff_eq, Bool.false_eq_true] at h <;> first | exact absurd h.1 (by decide) | (have e1 := ih1 _ h.2.1; have e2 := ih2 _ h.2.2; subst e1; subst e2; rfl)
  | either l r ih1 ih2 => intro r h; cases r <;> simp only [trD, ev11, ev12, ev13, ev21, ev22, ev23, ev31, ev32, ev33, evs, Bool.and_eq_true, beq_iff_eq, Bool.false_eq_true] at h <;> first | exact absurd h.1 (by decide) | (have e1 := ih1 _ h.2.1; have e2 := ih2 _ h.2.2; subst e1; subst e2; rfl)
  | someTill l r ih1 ih2 => intro r h; cases r <;> simp only [trD, ev11, ev12, ev13, ev21, ev22, ev23, ev31, ev32, ev33, evs, Bool.and_eq_true, beq_iff_eq, Bool.false_eq_true] at h <;> first | exact absurd h.1 (by decide) | (have e1 := ih1 _ h.2.1; have e2 := ih2 _ h.2.2; subst e1; subst e2; rfl)
  | eachTill l r ih1 ih2 => intro r h; cases r <;> simp only [trD, ev11, ev12, ev13, ev21, ev22, ev23, ev31, ev32, ev33, evs, Bool.and_eq_true, beq_iff_eq, Bool.false_eq_true] at h <;> first | exact absurd h.1 (by decide) | (have e1 := ih1 _ h.2.1; have e2 := ih2 _ h.2.2; subst e1; subst e2; rfl)
theorem eq_tr (l r : Sg) (hl : mok l) (hr : mok r) (dl : dep l ≤ 20) (dr : dep r ≤ 20) : ∃ b, oEq (trT l) (trT r) = some (.lf (.bl b)) ∧ (b = true → l = r) := by
  obtain ⟨d1, h1, h2, h3, _⟩ := (dt_tr l hl).dat
  obtain ⟨d2, g1, g2, g3, _⟩ := (dt_tr r hr).dat
  rw [toD_tr] at h1 g1
  cases h1; cases g1
  have s1 : SeqAt.shaped (trD l) = true := by unfold SeqAt.shaped; rw [h2, decide_eq_true (by omega)]; rfl
  have s2 : SeqAt.shaped (trD r) = true := by unfold SeqAt.shaped; rw [g2, decide_eq_true (by omega)]; rfl
  refine ⟨PyData.eqv (trD l) (trD r), ?_, trD_inj l r⟩
  unfold oEq
  simp only [toD_tr, Option.bind_some, s1, s2, and_self, if_true]
theorem mkS_Not (P : T) (k : okT P = some P) : m_Single_init [.nd true (.ins "Not" []) [], P] = some (.lf .non, [.nd true (.ins "Not" ["part"]) [P], .no]) := by
  refine single_e "Not" P ?_ k
  exists mA_Single_init_part, mfp, mfn _ _ ne_Not_EachAlways, mfn _ _ ne_Not_EachEver, mfn _ _ ne_Not_EachNext, mfn _ _ ne_Not_SomeAlways, mfn _ _ ne_Not_SomeEver, mfn _ _ ne_Not_SomeNext
theorem mkS_SomeNext (P : T) (k : okT P = some P) : m_Single_init [.nd true (.ins "SomeNext" []) [], P] = some (.lf .non, [.nd true (.ins "SomeNext" ["part"]) [P], .no]) := by
  refine single_e "SomeNext" P ?_ k
  exists mA_Single_init_part, mfp, mfn _ _ ne_SomeNext_EachAlways, mfn _ _ ne_SomeNext_EachEver, mfn _ _ ne_SomeNext_EachNext, mfn _ _ ne_SomeNext_Not, mfn _ _ ne_SomeNext_SomeAlways, mfn _ _ ne_SomeNext_SomeEver
theorem mkS_EachNext (P : T) (k : okT P = some P) : m_Single_init [.nd true (.ins "EachNext" []) [], P] = some (.lf .non, [.nd true (.ins "EachNext" ["part"]) [P], .no]) := by
  refine single_e "EachNext" P ?_ k
  exists mA_Single_init_part, mfp, mfn _ _ ne_EachNext_EachAlways, mfn _ _ ne_EachNext_EachEver, mfn _ _ ne_EachNext_Not, mfn _ _ ne_EachNext_SomeAlways, mfn _ _ ne_EachNext_SomeEver, mfn _ _ ne_EachNext_SomeNext
theorem mkS_SomeAlways (P : T) (k : okT P = some P) : m_Single_init [.nd true (.ins "SomeAlways" []) [], P] = some (.lf .non, [.nd true (.ins "SomeAlways" ["part"]) [P], .no]) := by
  refine single_e "SomeAlways" P ?_ k
  exists mA_Single_init_part, mfp, mfn _ _ ne_SomeAlways_EachAlways, mfn _ _ ne_SomeAlways_EachEver, mfn _ _ ne_SomeAlways_EachNext, mfn _ _ ne_SomeAlways_Not, mfn _ _ ne_SomeAlways_SomeEver, mfn _ _ ne_SomeAlways_SomeNext
theorem mkS_EachAlways (P : T) (k : okT P = some P) : m_Single_init [.nd true (.ins "EachAlways" []) [], P] = some (.lf .non, [.nd true (.ins "EachAlways" ["part"]) [P], .no]) := by
  refine single_e "EachAlways" P ?_ k
  exists mA_Single_init_part, mfp, mfn _ _ ne_EachAlways_EachEver, mfn _ _ ne_EachAlways_EachNext, mfn _ _ ne_EachAlways_Not, mfn _ _ ne_EachAlways_SomeAlways, mfn _ _ ne_EachAlways_SomeEver, mfn _ _ ne_EachAlways_SomeNext
theorem mkS_SomeEver (P : T) (k : okT P = some P) : m_Single_init [.nd true (.ins "SomeEver" []) [], P] = some (.lf .non, [.nd true (.ins "SomeEver" ["part"]) [P], .no]) := by
  refine single_e "SomeEver" P ?_ k
  exists mA_Single_init_part, mfp, mfn _ _ ne_SomeEver_EachAlways, mfn _ _ ne_SomeEver_EachEver, mfn _ _ ne_SomeEver_EachNext, mfn _ _ ne_SomeEver_Not, mfn _ _ ne_SomeEver_SomeAlways, mfn _ _ ne_SomeEver_SomeNext
theorem mkS_EachEver (P : T) (k : okT P = some P) : m_Single_init [.nd true (.ins "EachEver" []) [], P] = some (.lf .non, [.nd true (.ins "EachEver" ["part"]) [P], .no]) := by
  refine single_e "EachEver" P ?_ k
  exists mA_Single_init_part, mfp, mfn _ _ ne_EachEver_EachAlways, mfn _ _ ne_EachEver_EachNext, mfn _ _ ne_EachEver_Not, mfn _ _ ne_EachEver_SomeAlways, mfn _ _ ne_EachEver_SomeEver, mfn _ _ ne_EachEver_SomeNext
theorem mkS_Both (P R : T) (k : okT P = some P) (k2 : okT R = some R) : m_Double_init [.nd true (.ins "Both" []) [], P, R] = some (.lf .non, [.nd true (.ins "Both" ["left", "right"]) [P, R], .no, .no]) := by
  have e1 : mFld "Both" "left" (.nd true (.ins "Both" []) []) [P] = some (.lf .non, .nd true (.ins "Both" ["left"]) [P]) := by
    rw [mFld_nd _ _ _ _ _ _ (by simp), if_pos rfl]; rfl
  have e2 : mFld "Both" "right" (.nd true (.ins "Both" ["left"]) [P]) [R] = some (.lf .non, .nd true (.ins "Both" ["left", "right"]) [P, R]) := by
    have h : ¬ ("left" : Str) = "right" := by decide +kernel
    rw [mFld_nd _ _ _ _ _ _ (by simp), if_pos rfl]; simp [putFT, h]
  have n1 : ∀ (c f : Str) (P : T), ("Both" = c) = False → mFld c f (.nd true (.ins "Both" []) []) [P] = none := fun c f P h => mfn f P h
  have n2 : ∀ (c f : Str) (P R : T), ("Both" = c) = False → mFld c f (.nd true (.ins "Both" ["left"]) [P]) [R] = none := fun c f P R h => by
    rw [mFld_nd _ _ _ _ _ _ (by simp), if_neg (by rw [h]; exact id)]
  have aEither := n1 "Either" "left" P ne_Both_Either
  have bEither := n2 "Either" "right" P R ne_Both_Either
  have aSomeTill := n1 "SomeTill" "left" P ne_Both_SomeTill
  have bSomeTill := n2 "SomeTill" "right" P R ne_Both_SomeTill
  have aEachTill := n1 "EachTill" "left" P ne_Both_EachTill
  have bEachTill := n2 "EachTill" "right" P R ne_Both_EachTill
  exists m_Double_init, bn_Double_init, mA_Double_init_left, mA_Double_init_right, e1, e2, aEither, bEither, aSomeTill, bSomeTill, aEachTill, bEachTill, k, k2, ok_ins
theorem mkS_Either (P R : T) (k : okT P = some P) (k2 : okT R = some R) : m_Double_init [.nd true (.ins "Either" []) [], P, R] = some (.lf .non, [.nd true (.ins "Either" ["left", "right"]) [P, R], .no, .no]) := by
  have e1 : mFld "Either" "left" (.nd true (.ins "Either" []) []) [P] = some (.lf .non, .nd true (.ins "Either" ["left"]) [P]) := by
    rw [mFld_nd _ _ _ _ _ _ (by simp), if_pos rfl]; rfl
  have e2 : mFld "Either" "right" (.nd true (.ins "Either" ["left"]) [P]) [R] = some (.lf .non, .nd true (.ins "Either" ["left", "right"]) [P, R]) := by
    have h : ¬ ("left" : Str) = "right" := by decide +kernel
    rw [mFld_nd _ _ _ _ _ _ (by simp), if_pos rfl]; simp [putFT, h]
  have n1 : ∀ (c f : Str) (P : T), ("Either" = c) = False → mFld c f (.nd true (.ins "Either" []) []) [P] = none := fun c f P h => mfn f P h
  have n2 : ∀ (c f : Str) (P R : T), ("Either" = c) = False → mFld c f (.nd true (.ins "Either" ["left"]) [P]) [R] = none := fun c f P R h => by
    rw [mFld_nd _ _ _ _ _ _ (by simp), if_neg (by rw [h]; exact id)]
  have aBoth := n1 "Both" "left" P ne_Either_Both
  have bBoth := n2 "Both" "right" P R ne_Either_Both
  have aSomeTill := n1 "SomeTill" "left" P ne_Either_SomeTill
  have bSomeTill := n2 "SomeTill" "right" P R ne_Either_SomeTill
  have aEachTill := n1 "EachTill" "left" P ne_Either_EachTill
  have bEachTill := n2 "EachTill" "right" P R ne_Either_EachTill
  exists m_Double_init, bn_Double_init, mA_Double_init_left, mA_Double_init_right, e1, e2, aBoth, bBoth, aSomeTill, bSomeTill, aEachTill, bEachTill, k, k2, ok_ins
theorem mkS_SomeTill (P R : T) (k : okT P = some P) (k2 : okT R = some R) : m_Double_init [.nd true (.ins "SomeTill" []) [], P, R] = some (.lf .non, [.nd true (.ins "SomeTill" ["left", "right"]) [P, R], .no, .no]) := by
  have e1 : mFld "SomeTill" "left" (.nd true (.ins "SomeTill" []) []) [P] = some (.lf .non, .nd true (.ins "SomeTill" ["left"]) [P]) := by
    rw [mFld_nd _ _ _ _ _ _ (by simp), if_pos rfl]; rfl
  have e2 : mFld "SomeTill" "right" (.nd true (.ins "SomeTill" ["left"]) [P]) [R] = some (.lf .non, .nd true (.ins "SomeTill" ["left", "right"]) [P, R]) := by
    have h : ¬ ("left" : Str) = "right" := by decide +kernel
    rw [mFld_nd _ _ _ _ _ _ (by simp), if_pos rfl]; simp [putFT, h]
  have n1 : ∀ (c f : Str) (P : T), ("SomeTill" = c) = False → mFld c f (.nd true (.ins "SomeTill" []) []) [P] = none := fun c f P h => mfn f P h
  have n2 : ∀ (c f : Str) (P R : T), ("SomeTill" = c) = False → mFld c f (.nd true (.ins "SomeTill" ["left"]) [P]) [R] = none := fun c f P R h => by
    rw [mFld_nd _ _ _ _ _ _ (by simp), if_neg (by rw [h]; exact id)]
  have aBoth := n1 "Both" "left" P ne_SomeTill_Both
  have bBoth := n2 "Both" "right" P R ne_SomeTill_Both
  have aEither := n1 "Either" "left" P ne_SomeTill_Either
  have bEither := n2 "Either" "right" P R ne_SomeTill_Either
  have aEachTill := n1 "EachTill" "left" P ne_SomeTill_EachTill
  have bEachTill := n2 "EachTill" "right" P R ne_SomeTill_EachTill
  exists m_Double_init, bn_Double_init, mA_Double_init_left, mA_Double_init_right, e1, e2, aBoth, bBoth, aEither, bEither, aEachTill, bEachTill, k, k2, ok_ins
theorem mkS_EachTill (P R : T) (k : okT P = some P) (k2 : okT R = some R) : m_Double_init [.nd true (.ins "EachTill" []) [], P, R] = some (.lf .non, [.nd true (.ins "EachTill" ["left", "right"]) [P, R], .no, .no]) := by
  have e1 : mFld "EachTill" "left" (.nd true (.ins "EachTill" []) []) [P] = some (.lf .non, .nd true (.ins "EachTill" ["left"]) [P]) := by
    rw [mFld_nd _ _ _ _ _ _ (by simp), if_pos rfl]; rfl
  have e2 : mFld "EachTill" "right" (.nd true (.ins "EachTill" ["left"]) [P]) [R] = some (.lf .non, .nd true (.ins "EachTill" ["left", "right"]) [P, R]) := by
    have h : ¬ ("left" : Str) = "right" := by decide +kernel
    rw [mFld_nd _ _ _ _ _ _ (by simp), if_pos rfl]; simp [putFT, h]
  have n1 : ∀ (c f : Str) (P : T), ("EachTill" = c) = False → mFld c f (.nd true (.ins "EachTill" []) []) [P] = none := fun c f P h => mfn f P h
  have n2 : ∀ (c f : Str) (P R : T), ("EachTill" = c) = False → mFld c f (.nd true (.ins "EachTill" ["left"]) [P]) [R] = none := fun c f P R h => by
    rw [mFld_nd _ _ _ _ _ _ (by simp), if_neg (by rw [h]; exact id)]
  have aBoth := n1 "Both" "left" P ne_EachTill_Both
  have bBoth := n2 "Both" "right" P R ne_EachTill_Both
  have aEither := n1 "Either" "left" P ne_EachTill_Either
  have bEither := n2 "Either" "right" P R ne_EachTill_Either
  have aSomeTill := n1 "SomeTill" "left" P ne_EachTill_SomeTill
  have bSomeTill := n2 "SomeTill" "right" P R ne_EachTill_SomeTill
  exists m_Double_init, bn_Double_init, mA_Double_init_left, mA_Double_init_right, e1, e2, aBoth, bBoth, aEither, bEither, aSomeTill, bSomeTill, k, k2, ok_ins
theorem ok_nd3 (o k xs) : okT (.nd o k xs) = some (.nd o k xs) := rfl
theorem single_ok {j : Nat} (h : j < 7) (p : Sg) : ∃ P a b, m_law_single [tx (wU j), sgT p] = some (P, [a, b]) ∧ frz P = sgT (mkU j p) ∧ okT P = some P := by
  have k := z_oksg p
  rcases le_cases7 h with rfl | rfl | rfl | rfl | rfl | rfl | rfl
  · have e := mkS_Not (sgT p) k
    refine ⟨.nd true (.ins "Not" ["part"]) [sgT p], ?_⟩
    have f : frz (.nd true (.ins "Not" ["part"]) [sgT p]) = sgT (.not p) := by simp only [frz_nd, frzs, frz_sg]; rfl
    exists m_law_single, bn_law_single, wU, mkU, e, f, k, ok_ins
    exact ⟨_, _, rfl⟩
  · have e := mkS_SomeNext (sgT p) k
    refine ⟨.nd true (.ins "SomeNext" ["part"]) [sgT p], ?_⟩
    have f : frz (.nd true (.ins "SomeNext" ["part"]) [sgT p]) = sgT (.someNext p) := by simp only [frz_nd, frzs, frz_sg]; rfl
    exists m_law_single, bn_law_single, wU, mkU, e, f, k, ok_ins
    exact ⟨_, _, rfl⟩
  · have e := mkS_EachNext (sgT p) k
    refine ⟨.nd true (.ins "EachNext" ["part"]) [sgT p], ?_⟩
    have f : frz (.nd true (.ins "EachNext" ["part"]) [sgT p]) = sgT (.eachNext p) := by simp only [frz_nd, frzs, frz_sg]; rfl
    exists m_law_single, bn_law_single, wU, mkU, e, f, k, ok_ins
    exact ⟨_, _, rfl⟩
  · have e := mkS_SomeAlways (sgT p) k
    refine ⟨.nd true (.ins "SomeAlways" ["part"]) [sgT p], ?_⟩
    have f : frz (.nd true (.ins "SomeAlways" ["part"]) [sgT p]) = sgT (.someAlways p) := by simp only [frz_nd, frzs, frz_sg]; rfl
    exists m_law_single, bn_law_single, wU, mkU, e, f, k, ok_ins
    exact ⟨_, _, rfl⟩
  · have e := mkS_EachAlways (sgT p) k
    refine ⟨.nd true (.ins "EachAlways" ["part"]) [sgT p], ?_⟩
    have f : frz (.nd true (.ins "EachAlways" ["part"]) [sgT p]) = sgT (.eachAlways p) := by simp only [frz_nd, frzs, frz_sg]; rfl
    exists m_law_single, bn_law_single, wU, mkU, e, f, k, ok_ins
    exact ⟨_, _, rfl⟩
  · have e := mkS_SomeEver (sgT p) k
    refine ⟨.nd true (.ins "SomeEver" ["part"]) [sgT p], ?_⟩
    have f : frz (.nd true (.ins "SomeEver" ["part"]) [sgT p]) = sgT (.someEver p) := by simp only [frz_nd, frzs, frz_sg]; rfl
    exists m_law_single, bn_law_single, wU, mkU, e, f, k, ok_ins
    exact ⟨_, _, rfl⟩
  · have e := mkS_EachEver (sgT p) k
    refine ⟨.nd true (.ins "EachEver" ["part"]) [sgT p], ?_⟩
    have f : frz (.nd true (.ins "EachEver" ["part"]) [sgT p]) = sgT (.eachEver p) := by simp only [frz_nd, frzs, frz_sg]; rfl
    exists m_law_single, bn_law_single, wU, mkU, e, f, k, ok_ins
    exact ⟨_, _, rfl⟩
theorem slT1 (a b : T) (hb : cln b = true) (ha : cln a = true) : oSlT (some 1) none (.nd false .tup [a, b]) = some (.nd false .tup [b]) := by
  show (if clns [a, b] = true ∧ ¬ (HT.sIx 2 0 (some 1) = 0 ∧ HT.sIx 2 2 none = 2) then some (T.nd false .tup (cutT [a, b] (some 1) none)) else none) = _
  have e : HT.sIx 2 0 (some 1) = 1 := HT.sIx_nat 2 0 1
  rw [z_cutTail, if_pos ⟨by simp [clns, ha, hb], by rw [e]; omega⟩]; rfl
theorem slT2 (a b c : T) (hb : cln b = true) (hc : cln c = true) (ha : cln a = true) : oSlT (some 1) none (.nd false .tup [a, b, c]) = some (.nd false .tup [b, c]) := by
  show (if clns [a, b, c] = true ∧ ¬ (HT.sIx 3 0 (some 1) = 0 ∧ HT.sIx 3 3 none = 3) then some (T.nd false .tup (cutT [a, b, c] (some 1) none)) else none) = _
  have e : HT.sIx 3 0 (some 1) = 1 := HT.sIx_nat 3 0 1
  rw [z_cutTail, if_pos ⟨by simp [clns, ha, hb, hc], by rw [e]; omega⟩]; rfl
theorem it_tup (o xs) : itemsT (.nd o .tup xs) = some (frzs xs) := rfl
theorem setL1 (a b c : T) : mSetL (.int 1) (.nd true .lst [a, b]) [c] = some (.lf .non, .nd true .lst [a, c]) := rfl
theorem made_ok : ∀ (k : Nat) (s : Sg), dep s < k → dep s ≤ 20 → mok s → ∃ P a, frz P = sgT s ∧ okT P = some P ∧ m_law_made k [trT s] = some (P, [a])
  | 0, s, h, _, _ => absurd h (Nat.not_lt_zero _)
  | k + 1, .all, h, h2, hm => by
    refine ⟨.nd true (.ins "All" []) [], ?_⟩
    have f : frz (.nd true (.ins "All" []) []) = sgT .all := by simp only [frz_nd, frzs]; rfl
    exists ms_law_made, bn_law_made, trT, f, ok_nd3, ok_ins
    exact ⟨_, rfl⟩
  | k + 1, .mark w, h, h2, hm => by
    refine ⟨.nd true (.ins "Mark" ["name"]) [tx w], ?_⟩
    have f : frz (.nd true (.ins "Mark" ["name"]) [tx w]) = sgT (.mark w) := by simp only [frz_nd, frzs, z_frzst]; rfl
    have e := mark_make w
    exists ms_law_made, bn_law_made, trT, f, e, ok_nd3, ok_ins, frz_nd, frzs_cons, frzs_nil
    exact ⟨_, rfl⟩
  | k + 1, .not p, h, h2, hm => by
    simp only [dep] at h h2
    obtain ⟨P1, a, fP, kP, mP⟩ := made_ok k p (by omega) (by omega) hm
    obtain ⟨P, b, c, q, fQ, kQ⟩ := single_ok (j := 0) (by omega) p
    refine ⟨P, ?_⟩
    have q' : m_law_single [tx [110, 111, 116], sgT p] = some (P, [b, c]) := q
    have fQ' : frz P = sgT (.not p) := fQ
    have sl := slT1 (tx [110, 111, 116]) (trT p) (cln_trT p) rfl
    have fp := frz_trT p
    have l1 : dLr (gN 2) dYes (x_law_made_1 (m_law_made k)) [2] [trT p] [] [.nd false .tup [tx [110, 111, 116], trT p], .no, .no] = some ([P1], [.nd false .tup [tx [110, 111, 116], trT p], .no, .no]) := by
      rw [dLr_y (e := [.nd false .tup [tx [110, 111, 116], trT p], .no, trT p]) (u := P1) (e2 := [.nd false .tup [tx [110, 111, 116], trT p], .no, .no]) rfl (by
        have ot := ok_trT p
        exists x_law_made_1, mP, ot) (by simp)]
      exact dLr_nil _ _ _ _ _ _
    have fl : frz (.nd true .lst [P1]) = .nd false .lst [sgT p] := by simp only [frz_nd, frzs, fP]
    have ft : frz (.nd false .tup [tx [110, 111, 116], trT p]) = .nd false .tup [tx [110, 111, 116], trT p] := by simp only [frz_nd, frzs, z_frzst, fp]
    have ot := ok_trT p
    have os := z_oksg p
    exists ms_law_made, bn_law_made, trT, sl, it_tup, frzs_cons, frzs_nil, fp, l1, q', fQ', kQ, ok_nd3, ok_ins, fl, ft, kP, ot, os, ixn0
    exact ⟨_, rfl⟩
  | k + 1, .someNext p, h, h2, hm => by
    simp only [dep] at h h2
    obtain ⟨P1, a, fP, kP, mP⟩ := made_ok k p (by omega) (by omega) hm
    obtain ⟨P, b, c, q, fQ, kQ⟩ := single_ok (j := 1) (by omega) p
    refine ⟨P, ?_⟩
    have q' : m_law_single [tx [115, 111, 109, 101, 110, 101, 120, 116], sgT p] = some (P, [b, c]) := q
    have fQ' : frz P = sgT (.someNext p) := fQ
    have sl := slT1 (tx [115, 111, 109, 101, 110, 101, 120, 116]) (trT p) (cln_trT p) rfl
    have fp := frz_trT p
    have l1 : dLr (gN 2) dYes (x_law_made_1 (m_law_made k)) [2] [trT p] [] [.nd false .tup [tx [115, 111, 109, 101, 110, 101, 120, 116], trT p], .no, .no] = some ([P1], [.nd false .tup [tx [115, 111, 109, 101, 110, 101, 120, 116], trT p], .no, .no]) := by
      rw [dLr_y (e := [.nd false .tup [tx [115, 111, 109, 101, 110, 101, 120, 116], trT p], .no, trT p]) (u := P1) (e2 := [.nd false .tup [tx [115, 111, 109, 101, 110, 101, 120, 116], trT p], .no, .no]) rfl (by
        have ot := ok_trT p
        exists x_law_made_1, mP, ot) (by simp)]
      exact dLr_nil _ _ _ _ _ _
    have fl : frz (.nd true .lst [P1]) = .nd false .lst [sgT p] := by simp only [frz_nd, frzs, fP]
    have ft : frz (.nd false .tup [tx [115, 111, 109, 101, 110, 101, 120, 116], trT p]) = .nd false .tup [tx [115, 111, 109, 101, 110, 101, 120, 116], trT p] := by simp only [frz_nd, frzs, z_frzst, fp]
    have ot := ok_trT p
    have os := z_oksg p
    exists ms_law_made, bn_law_made, trT, sl, it_tup, frzs_cons, frzs_nil, fp, l1, q', fQ', kQ, ok_nd3, ok_ins, fl, ft, kP, ot, os, ixn0
    exact ⟨_, rfl⟩
  | k + 1, .eachNext p, h, h2, hm => by
    simp only [dep] at h h2
    obtain ⟨P1, a, fP, kP, mP⟩ := made_ok k p (by omega) (by omega) hm
    obtain ⟨P, b, c, q, fQ, kQ⟩ := single_ok (j := 2) (by omega) p
    refine ⟨P, ?_⟩
    have q' : m_law_single [tx [101, 97, 99, 104, 110, 101, 120, 116], sgT p] = some (P, [b, c]) := q
    have fQ' : frz P = sgT (.eachNext p) := fQ
    have sl := slT1 (tx [101, 97, 99, 104, 110, 101, 120, 116]) (trT p) (cln_trT p) rfl
    have fp := frz_trT p
    have l1 : dLr (gN 2) dYes (x_law_made_1 (m_law_made k)) [2] [trT p] [] [.nd false .tup [tx [101, 97, 99, 104, 110, 101, 120, 116], trT p], .no, .no] = some ([P1], [.nd false .tup [tx [101, 97, 99, 104, 110, 101, 120, 116], trT p], .no, .no]) := by
      rw [dLr_y (e := [.nd false .tup [tx [101, 97, 99, 104, 110, 101, 120, 116], trT p], .no, trT p]) (u := P1) (e2 := [.nd false .tup [tx [101, 97, 99, 104, 110, 101, 120, 116], trT p], .no, .no]) rfl (by
        have ot := ok_trT p
        exists x_law_made_1, mP, ot) (by simp)]
      exact dLr_nil _ _ _ _ _ _
    have fl : frz (.nd true .lst [P1]) = .nd false .lst [sgT p] := by simp only [frz_nd, frzs, fP]
    have ft : frz (.nd false .tup [tx [101, 97, 99, 104, 110, 101, 120, 116], trT p]) = .nd false .tup [tx [101, 97, 99, 104, 110, 101, 120, 116], trT p] := by simp only [frz_nd, frzs, z_frzst, fp]
    have ot := ok_trT p
    have os := z_oksg p
    exists ms_law_made, bn_law_made, trT, sl, it_tup, frzs_cons, frzs_nil, fp, l1, q', fQ', kQ, ok_nd3, ok_ins, fl, ft, kP, ot, os, ixn0
    exact ⟨_, rfl⟩
  | k + 1, .someAlways p, h, h2, hm => by
    simp only [dep] at h h2
    obtain ⟨P1, a, fP, kP, mP⟩ := made_ok k p (by omega) (by omega) hm
    obtain ⟨P, b, c, q, fQ, kQ⟩ := single_ok (j := 3) (by omega) p
    refine ⟨P, ?_⟩
    have q' : m_law_single [tx [115, 111, 109, 101, 97, 108, 119, 97, 121, 115], sgT p] = some (P, [b, c]) := q
    have fQ' : frz P = sgT (.someAlways p) := fQ
    have sl := slT1 (tx [115, 111, 109, 101, 97, 108, 119, 97, 121, 115]) (trT p) (cln_trT p) rfl
    have fp := frz_trT p
    have l1 : dLr (gN 2) dYes (x_law_made_1 (m_law_made k)) [2] [trT p] [] [.nd false .tup [tx [115, 111, 109, 101, 97, 108, 119, 97, 121, 115], trT p], .no, .no] = some ([P1], [.nd false .tup [tx [115, 111, 109, 101, 97, 108, 119, 97, 121, 115], trT p], .no, .no]) := by
      rw [dLr_y (e := [.nd false .tup [tx [115, 111, 109, 101, 97, 108, 119, 97, 121, 115], trT p], .no, trT p]) (u := P1) (e2 := [.nd false .tup [tx [115, 111, 109, 101, 97, 108, 119, 97, 121, 115], trT p], .no, .no]) rfl (by
        have ot := ok_trT p
        exists x_law_made_1, mP, ot) (by simp)]
      exact dLr_nil _ _ _ _ _ _
    have fl : frz (.nd true .lst [P1]) = .nd false .lst [sgT p] := by simp only [frz_nd, frzs, fP]
    have ft : frz (.nd false .tup [tx [115, 111, 109, 101, 97, 108, 119, 97, 121, 115], trT p]) = .nd false .tup [tx [115, 111, 109, 101, 97, 108, 119, 97, 121, 115], trT p] := by simp only [frz_nd, frzs, z_frzst, fp]
    have ot := ok_trT p
    have os := z_oksg p
    exists ms_law_made, bn_law_made, trT, sl, it_tup, frzs_cons, frzs_nil, fp, l1, q', fQ', kQ, ok_nd3, ok_ins, fl, ft, kP, ot, os, ixn0
    exact ⟨_, rfl⟩
  | k + 1, .eachAlways p, h, h2, hm => by
    simp only [dep] at h h2
    obtain ⟨P1, a, fP, kP, mP⟩ := made_ok k p (by omega) (by omega) hm
    obtain ⟨P, b, c, q, fQ, kQ⟩ := single_ok (j := 4) (by omega) p
    refine ⟨P, ?_⟩
    have q' : m_law_single [tx [101, 97, 99, 104, 97, 108, 119, 97, 121, 115], sgT p] = some (P, [b, c]) := q
    have fQ' : frz P = sgT (.eachAlways p) := fQ
    have sl := slT1 (tx [101, 97, 99, 104, 97, 108, 119, 97, 121, 115]) (trT p) (cln_trT p) rfl
    have fp := frz_trT p
    have l1 : dLr (gN 2) dYes (x_law_made_1 (m_law_made k)) [2] [trT p] [] [.nd false .tup [tx [101, 97, 99, 104, 97, 108, 119, 97, 121, 115], trT p], .no, .no] = some ([P1], [.nd false .tup [tx [101, 97, 99, 104, 97, 108, 119, 97, 121, 115], trT p], .no, .no]) := by
      rw [dLr_y (e := [.nd false .tup [tx [101, 97, 99, 104, 97, 108, 119, 97, 121, 115], trT p], .no, trT p]) (u := P1) (e2 := [.nd false .tup [tx [101, 97, 99, 104, 97, 108, 119, 97, 121, 115], trT p], .no, .no]) rfl (by
        have ot := ok_trT p
        exists x_law_made_1, mP, ot) (by simp)]
      exact dLr_nil _ _ _ _ _ _
    have fl : frz (.nd true .lst [P1]) = .nd false .lst [sgT p] := by simp only [frz_nd, frzs, fP]
    have ft : frz (.nd false .tup [tx [101, 97, 99, 104, 97, 108, 119, 97, 121, 115], trT p]) = .nd false .tup [tx [101, 97, 99, 104, 97, 108, 119, 97, 121, 115], trT p] := by simp only [frz_nd, frzs, z_frzst, fp]
    have ot := ok_trT p
    have os := z_oksg p
    exists ms_law_made, bn_law_made, trT, sl, it_tup, frzs_cons, frzs_nil, fp, l1, q', fQ', kQ, ok_nd3, ok_ins, fl, ft, kP, ot, os, ixn0
    exact ⟨_, rfl⟩
  | k + 1, .someEver p, h, h2, hm => by
    simp only [dep] at h h2
    obtain ⟨P1, a, fP, kP, mP⟩ := made_ok k p (by omega) (by omega) hm
    obtain ⟨P, b, c, q, fQ, kQ⟩ := single_ok (j := 5) (by omega) p
    refine ⟨P, ?_⟩
    have q' : m_law_single [tx [115, 111, 109, 101, 101, 118, 101, 114], sgT p] = some (P, [b, c]) := q
    have fQ' : frz P = sgT (.someEver p) := fQ
    have sl := slT1 (tx [115, 111, 109, 101, 101, 118, 101, 114]) (trT p) (cln_trT p) rfl
    have fp := frz_trT p
    have l1 : dLr (gN 2) dYes (x_law_made_1 (m_law_made k)) [2] [trT p] [] [.nd false .tup [tx [115, 111, 109, 101, 101, 118, 101, 114], trT p], .no, .no] = some ([P1], [.nd false .tup [tx [115, 111, 109, 101, 101, 118, 101, 114], trT p], .no, .no]) := by
      rw [dLr_y (e := [.nd false .tup [tx [115, 111, 109, 101, 101, 118, 101, 114], trT p], .no, trT p]) (u := P1) (e2 := [.nd false .tup [tx [115, 111, 109, 101, 101, 118, 101, 114], trT p], .no, .no]) rfl (by
        have ot := ok_trT p
        exists x_law_made_1, mP, ot) (by simp)]
      exact dLr_nil _ _ _ _ _ _
    have fl : frz (.nd true .lst [P1]) = .nd false .lst [sgT p] := by simp only [frz_nd, frzs, fP]
    have ft : frz (.nd false .tup [tx [115, 111, 109, 101, 101, 118, 101, 114], trT p]) = .nd false .tup [tx [115, 111, 109, 101, 101, 118, 101, 114], trT p] := by simp only [frz_nd, frzs, z_frzst, fp]
    have ot := ok_trT p
    have os := z_oksg p
    exists ms_law_made, bn_law_made, trT, sl, it_tup, frzs_cons, frzs_nil, fp, l1, q', fQ', kQ, ok_nd3, ok_ins, fl, ft, kP, ot, os, ixn0
    exact ⟨_, rfl⟩
  | k + 1, .eachEver p, h, h2, hm => by
    simp only [dep] at h h2
    obtain ⟨P1, a, fP, kP, mP⟩ := made_ok k p (by omega) (by omega) hm
    obtain ⟨P, b, c, q, fQ, kQ⟩ := single_ok (j := 6) (by omega) p
    refine ⟨P, ?_⟩
    have q' : m_law_single [tx [101, 97, 99, 104, 101, 118, 101, 114], sgT p] = some (P, [b, c]) := q
    have fQ' : frz P = sgT (.eachEver p) := fQ
    have sl := slT1 (tx [101, 97, 99, 104, 101, 118, 101, 114]) (trT p) (cln_trT p) rfl
    have fp := frz_trT p
    have l1 : dLr (gN 2) dYes (x_law_made_1 (m_law_made k)) [2] [trT p] [] [.nd false .tup [tx [101, 97, 99, 104, 101, 118, 101, 114], trT p], .no, .no] = some ([P1], [.nd false .tup [tx [101, 97, 99, 104, 101, 118, 101, 114], trT p], .no, .no]) := by
      rw [dLr_y (e := [.nd false .tup [tx [101, 97, 99, 104, 101, 118, 101, 114], trT p], .no, trT p]) (u := P1) (e2 := [.nd false .tup [tx [101, 97, 99, 104, 101, 118, 101, 114], trT p], .no, .no]) rfl (by
        have ot := ok_trT p
        exists x_law_made_1, mP, ot) (by simp)]
      exact dLr_nil _ _ _ _ _ _
    have fl : frz (.nd true .lst [P1]) = .nd false .lst [sgT p] := by simp only [frz_nd, frzs, fP]
    have ft : frz (.nd false .tup [tx [101, 97, 99, 104, 101, 118, 101, 114], trT p]) = .nd false .tup [tx [101, 97, 99, 104, 101, 118, 101, 114], trT p] := by simp only [frz_nd, frzs, z_frzst, fp]
    have ot := ok_trT p
    have os := z_oksg p
    exists ms_law_made, bn_law_made, trT, sl, it_tup, frzs_cons, frzs_nil, fp, l1, q', fQ', kQ, ok_nd3, ok_ins, fl, ft, kP, ot, os, ixn0
    exact ⟨_, rfl⟩
  | k + 1, .both l r, h, h2, hm => by
    simp only [dep] at h h2
    obtain ⟨P1, a1, fP, kP, mP⟩ := made_ok k l (by omega) (by omega) hm.1
    obtain ⟨P2, a2, fR, kR, mR⟩ := made_ok k r (by omega) (by omega) hm.2
    obtain ⟨b, eb, hb⟩ := eq_tr l r hm.1 hm.2 (by omega) (by omega)
    have os1 := z_oksg l
    have os2 := z_oksg r
    have q := mkS_Both (sgT l) (sgT r) os1 os2
    refine ⟨.nd true (.ins "Both" ["left", "right"]) [sgT l, sgT r], ?_⟩
    have fQ : frz (.nd true (.ins "Both" ["left", "right"]) [sgT l, sgT r]) = sgT (.both l r) := by simp only [frz_nd, frzs, frz_sg]; rfl
    have sl := slT2 (tx [98, 111, 116, 104]) (trT l) (trT r) (cln_trT l) (cln_trT r) rfl
    have fp1 := frz_trT l
    have fp2 := frz_trT r
    have ot1 := ok_trT l
    have ot2 := ok_trT r
    have l1 : dLr (gN 2) dYes (x_law_made_1 (m_law_made k)) [2] [trT l, trT r] [] [.nd false .tup [tx [98, 111, 116, 104], trT l, trT r], .no, .no] = some ([P1, P2], [.nd false .tup [tx [98, 111, 116, 104], trT l, trT r], .no, .no]) := by
      rw [dLr_y (e := [.nd false .tup [tx [98, 111, 116, 104], trT l, trT r], .no, trT l]) (u := P1) (e2 := [.nd false .tup [tx [98, 111, 116, 104], trT l, trT r], .no, .no]) rfl (by exists x_law_made_1, mP, ot1) (by simp)]
      rw [dLr_y (t := trT r) (e := [.nd false .tup [tx [98, 111, 116, 104], trT l, trT r], .no, trT r]) (u := P2) (e2 := [.nd false .tup [tx [98, 111, 116, 104], trT l, trT r], .no, .no]) rfl (by exists x_law_made_1, mR, ot2) (by simp)]
      exact dLr_nil _ _ _ _ _ _
    have fl : frz (.nd true .lst [P1, P2]) = .nd false .lst [sgT l, sgT r] := by simp only [frz_nd, frzs, fP, fR]
    have ft : frz (.nd false .tup [tx [98, 111, 116, 104], trT l, trT r]) = .nd false .tup [tx [98, 111, 116, 104], trT l, trT r] := by simp only [frz_nd, frzs, z_frzst, fp1, fp2]
    have ty : ∀ xs, isTy "list" (.nd true .lst xs) = true := fun _ => rfl
    cases b with
    | true =>
      have e := hb rfl
      subst e
      have fl2 : frz (.nd true .lst [sgT l, sgT l]) = .nd false .lst [sgT l, sgT l] := by simp only [frz_nd, frzs, frz_sg]
      exists ms_law_made, bn_law_made, trT, sl, it_tup, frzs_cons, frzs_nil, fp1, fp2, l1, eb, q, fQ, ok_nd3, ok_ins, fl, fl2, ft, kP, kR, ot1, ot2, os1, os2, ixn0, ixn1, setL1, ty, fP, fR
      exact ⟨_, rfl⟩
    | false =>
      exists ms_law_made, bn_law_made, trT, sl, it_tup, frzs_cons, frzs_nil, fp1, fp2, l1, eb, q, fQ, ok_nd3, ok_ins, fl, ft, kP, kR, ot1, ot2, os1, os2, ixn0, ixn1, ty, fP, fR
      exact ⟨_, rfl⟩
  | k + 1, .either l r, h, h2, hm => by
    simp only [dep] at h h2
    obtain ⟨P1, a1, fP, kP, mP⟩ := made_ok k l (by omega) (by omega) hm.1
    obtain ⟨P2, a2, fR, kR, mR⟩ := made_ok k r (by omega) (by omega) hm.2
    obtain ⟨b, eb, hb⟩ := eq_tr l r hm.1 hm.2 (by omega) (by omega)
    have os1 := z_oksg l
    have os2 := z_oksg r
    have q := mkS_Either (sgT l) (sgT r) os1 os2
    refine ⟨.nd true (.ins "Either" ["left", "right"]) [sgT l, sgT r], ?_⟩
    have fQ : frz (.nd true (.ins "Either" ["left", "right"]) [sgT l, sgT r]) = sgT (.either l r) := by simp only [frz_nd, frzs, frz_sg]; rfl
    have sl := slT2 (tx [101, 105, 116, 104, 101, 114]) (trT l) (trT r) (cln_trT l) (cln_trT r) rfl
    have fp1 := frz_trT l
    have fp2 := frz_trT r
    have ot1 := ok_trT l
    have ot2 := ok_trT r
    have l1 : dLr (gN 2) dYes (x_law_made_1 (m_law_made k)) [2] [trT l, trT r] [] [.nd false .tup [tx [101, 105, 116, 104, 101, 114], trT l, trT r], .no, .no] = some ([P1, P2], [.nd false .tup [tx [101, 105, 116, 104, 101, 114], trT l, trT r], .no, .no]) := by
      rw [dLr_y (e := [.nd false .tup [tx [101, 105, 116, 104, 101, 114], trT l, trT r], .no, trT l]) (u := P1) (e2 := [.nd false .tup [tx [101, 105, 116, 104, 101, 114], trT l, trT r], .no, .no]) rfl (by exists x_law_made_1, mP, ot1) (by simp)]
      rw [dLr_y (t := trT r) (e := [.nd false .tup [tx [101, 105, 116, 104, 101, 114], trT l, trT r], .no, trT r]) (u := P2) (e2 := [.nd false .tup [tx [101, 105, 116, 104, 101, 114], trT l, trT r], .no, .no]) rfl (by exists x_law_made_1, mR, ot2) (by simp)]
      exact dLr_nil _ _ _ _ _ _
    have fl : frz (.nd true .lst [P1, P2]) = .nd false .lst [sgT l, sgT r] := by simp only [frz_nd, frzs, fP, fR]
    have ft : frz (.nd false .tup [tx [101, 105, 116, 104, 101, 114], trT l, trT r]) = .nd false .tup [tx [101, 105, 116, 104, 101, 114], trT l, trT r] := by simp only [frz_nd, frzs, z_frzst, fp1, fp2]
    have ty : ∀ xs, isTy "list" (.nd true .lst xs) = true := fun _ => rfl
    cases b with
    | true =>
      have e := hb rfl
      subst e
      have fl2 : frz (.nd true .lst [sgT l, sgT l]) = .nd false .lst [sgT l, sgT l] := by simp only [frz_nd, frzs, frz_sg]
      exists ms_law_made, bn_law_made, trT, sl, it_tup, frzs_cons, frzs_nil, fp1, fp2, l1, eb, q, fQ, ok_nd3, ok_ins, fl, fl2, ft, kP, kR, ot1, ot2, os1, os2, ixn0, ixn1, setL1, ty, fP, fR
      exact ⟨_, rfl⟩
    | false =>
      exists ms_law_made, bn_law_made, trT, sl, it_tup, frzs_cons, frzs_nil, fp1, fp2, l1, eb, q, fQ, ok_nd3, ok_ins, fl, ft, kP, kR, ot1, ot2, os1, os2, ixn0, ixn1, ty, fP, fR
      exact ⟨_, rfl⟩
  | k + 1, .someTill l r, h, h2, hm => by
    simp only [dep] at h h2
    obtain ⟨P1, a1, fP, kP, mP⟩ := made_ok k l (by omega) (by omega) hm.1
    obtain ⟨P2, a2, fR, kR, mR⟩ := made_ok k r (by omega) (by omega) hm.2
    obtain ⟨b, eb, hb⟩ := eq_tr l r hm.1 hm.2 (by omega) (by omega)
    have os1 := z_oksg l
    have os2 := z_oksg r
    have q := mkS_SomeTill (sgT l) (sgT r) os1 os2
    refine ⟨.nd true (.ins "SomeTill" ["left", "right"]) [sgT l, sgT r], ?_⟩
    have fQ : frz (.nd true (.ins "SomeTill" ["left", "right"]) [sgT l, sgT r]) = sgT (.someTill l r) := by simp only [frz_nd, frzs, frz_sg]; rfl
    have sl := slT2 (tx [115, 111, 109, 101, 116, 105, 108, 108]) (trT l) (trT r) (cln_trT l) (cln_trT r) rfl
    have fp1 := frz_trT l
    have fp2 := frz_trT r
    have ot1 := ok_trT l
    have ot2 := ok_trT r
    have l1 : dLr (gN 2) dYes (x_law_made_1 (m_law_made k)) [2] [trT l, trT r] [] [.nd false .tup [tx [115, 111, 109, 101, 116, 105, 108, 108], trT l, trT r], .no, .no] = some ([P1, P2], [.nd false .tup [tx [115, 111, 109, 101, 116, 105, 108, 108], trT l, trT r], .no, .no]) := by
      rw [dLr_y (e := [.nd false .tup [tx [115, 111, 109, 101, 116, 105, 108, 108], trT l, trT r], .no, trT l]) (u := P1) (e2 := [.nd false .tup [tx [115, 111, 109, 101, 116, 105, 108, 108], trT l, trT r], .no, .no]) rfl (by exists x_law_made_1, mP, ot1) (by simp)]
      rw [dLr_y (t := trT r) (e := [.nd false .tup [tx [115, 111, 109, 101, 116, 105, 108, 108], trT l, trT r], .no, trT r]) (u := P2) (e2 := [.nd false .tup [tx [115, 111, 109, 101, 116, 105, 108, 108], trT l, trT r], .no, .no]) rfl (by exists x_law_made_1, mR, ot2) (by simp)]
      exact dLr_nil _ _ _ _ _ _
    have fl : frz (.nd true .lst [P1, P2]) = .nd false .lst [sgT l, sgT r] := by simp only [frz_nd, frzs, fP, fR]
    have ft : frz (.nd false .tup [tx [115, 111, 109, 101, 116, 105, 108, 108], trT l, trT r]) = .nd false .tup [tx [115, 111, 109, 101, 116, 105, 108, 108], trT l, trT r] := by simp only [frz_nd, frzs, z_frzst, fp1, fp2]
    have ty : ∀ xs, isTy "list" (.nd true .lst xs) = true := fun _ => rfl
    cases b with
    | true =>
      have e := hb rfl
      subst e
      have fl2 : frz (.nd true .lst [sgT l, sgT l]) = .nd false .lst [sgT l, sgT l] := by simp only [frz_nd, frzs, frz_sg]
      exists ms_law_made, bn_law_made, trT, sl, it_tup, frzs_cons, frzs_nil, fp1, fp2, l1, eb, q, fQ, ok_nd3, ok_ins, fl, fl2, ft, kP, kR, ot1, ot2, os1, os2, ixn0, ixn1, setL1, ty, fP, fR
      exact ⟨_, rfl⟩
    | false =>
      exists ms_law_made, bn_law_made, trT, sl, it_tup, frzs_cons, frzs_nil, fp1, fp2, l1, eb, q, fQ, ok_nd3, ok_ins, fl, ft, kP, kR, ot1, ot2, os1, os2, ixn0, ixn1, ty, fP, fR
      exact ⟨_, rfl⟩
  | k + 1, .eachTill l r, h, h2, hm => by
    simp only [dep] at h h2
    obtain ⟨P1, a1, fP, kP, mP⟩ := made_ok k l (by omega) (by omega) hm.1
    obtain ⟨P2, a2, fR, kR, mR⟩ := made_ok k r (by omega) (by omega) hm.2
    obtain ⟨b, eb, hb⟩ := eq_tr l r hm.1 hm.2 (by omega) (by omega)
    have os1 := z_oksg l
    have os2 := z_oksg r
    have q := mkS_EachTill (sgT l) (sgT r) os1 os2
    refine ⟨.nd true (.ins "EachTill" ["left", "right"]) [sgT l, sgT r], ?_⟩
    have fQ : frz (.nd true (.ins "EachTill" ["left", "right"]) [sgT l, sgT r]) = sgT (.eachTill l r) := by simp only [frz_nd, frzs, frz_sg]; rfl
    have sl := slT2 (tx [101, 97, 99, 104, 116, 105, 108, 108]) (trT l) (trT r) (cln_trT l) (cln_trT r) rfl
    have fp1 := frz_trT l
    have fp2 := frz_trT r
    have ot1 := ok_trT l
    have ot2 := ok_trT r
    have l1 : dLr (gN 2) dYes (x_law_made_1 (m_law_made k)) [2] [trT l, trT r] [] [.nd false .tup [tx [101, 97, 99, 104, 116, 105, 108, 108], trT l, trT r], .no, .no] = some ([P1, P2], [.nd false .tup [tx [101, 97, 99, 104, 116, 105, 108, 108], trT l, trT r], .no, .no]) := by
      rw [dLr_y (e := [.nd false .tup [tx [101, 97, 99, 104, 116, 105, 108, 108], trT l, trT r], .no, trT l]) (u := P1) (e2 := [.nd false .tup [tx [101, 97, 99, 104, 116, 105, 108, 108], trT l, trT r], .no, .no]) rfl (by exists x_law_made_1, mP, ot1) (by simp)]
      rw [dLr_y (t := trT r) (e := [.nd false .tup [tx [101, 97, 99, 104, 116, 105, 108, 108], trT l, trT r], .no, trT r]) (u := P2) (e2 := [.nd false .tup [tx [101, 97, 99, 104, 116, 105, 108, 108], trT l, trT r], .no, .no]) rfl (by exists x_law_made_1, mR, ot2) (by simp)]
      exact dLr_nil _ _ _ _ _ _
    have fl : frz (.nd true .lst [P1, P2]) = .nd false .lst [sgT l, sgT r] := by simp only [frz_nd, frzs, fP, fR]
    have ft : frz (.nd false .tup [tx [101, 97, 99, 104, 116, 105, 108, 108], trT l, trT r]) = .nd false .tup [tx [101, 97, 99, 104, 116, 105, 108, 108], trT l, trT r] := by simp only [frz_nd, frzs, z_frzst, fp1, fp2]
    have ty : ∀ xs, isTy "list" (.nd true .lst xs) = true := fun _ => rfl
    cases b with
    | true =>
      have e := hb rfl
      subst e
      have fl2 : frz (.nd true .lst [sgT l, sgT l]) = .nd false .lst [sgT l, sgT l] := by simp only [frz_nd, frzs, frz_sg]
      exists ms_law_made, bn_law_made, trT, sl, it_tup, frzs_cons, frzs_nil, fp1, fp2, l1, eb, q, fQ, ok_nd3, ok_ins, fl, fl2, ft, kP, kR, ot1, ot2, os1, os2, ixn0, ixn1, setL1, ty, fP, fR
      exact ⟨_, rfl⟩
    | false =>
      exists ms_law_made, bn_law_made, trT, sl, it_tup, frzs_cons, frzs_nil, fp1, fp2, l1, eb, q, fQ, ok_nd3, ok_ins, fl, ft, kP, kR, ot1, ot2, os1, os2, ixn0, ixn1, ty, fP, fR
      exact ⟨_, rfl⟩
end Pm


set_option Elab.async false
set_option linter.all false
set_option maxRecDepth 100000
set_option maxHeartbeats 4000000
/-! D21: for .. in zip(x, y), x a list of clean things that is changed behind the loop; tuples of one's own; a change at a place with what is reckoned. -/
namespace Tr
open PySem PySem.Spec PyProof.Rows L2

def dForZ (i j : Nat) (dg : DG) (d : DS) : DS := fun env => match gV i env, gV j env with
  | some t0, some u0 => match itemsC t0, itemsC u0 with
    | some its, some jts => if cln u0 = true then match dFr dg d (zpT its jts) (env.set i .no) with
      | some (r, e) => match e[i]? with
        | some .no => some (r, e.set i t0)
        | _ => none
      | none => none
      else none
    | _, _ => none
  | _, _ => none
section
variable {K : PySem.W.Frag} {mg : Mg} {D : Ends} {σ σ' : L2.St} {H H' F F' : Hp} {S S' R : AS} {W1 W2 : List Nat} {env env' : List T} {r : Fl}
theorem forZ_imp {i j : Nat} {dg : DG} {d : DS} (hi : i ∉ W1 ++ W2) (h : tS K mg (W1 ++ W2) (dForZ i j dg d) D σ H) : tFor (iZip K (tCons (tVar i) (tCons (tVar j) tNil))) (tG K mg W1 dg) (tS K mg W2 d) D σ H := by
  obtain ⟨F, env, S, r, env', ok, hd, q⟩ := h
  unfold dForZ at hd
  split at hd
  · rename_i t0 u0 h0 h0'
    split at hd
    · rename_i its jts h1 h1'
      split at hd
      · rename_i hcl
        split at hd
        · rename_i r' e h2
          split at hd
          · rename_i h3
            cases hd
            obtain ⟨g1, g2⟩ := gV_some h0
            obtain ⟨v, A, B, ev, rv, dAB, hS, rest⟩ := ok.st.slot g1 g2
            obtain ⟨o, k, rfl, hc, hk⟩ := itemsC_some h1
            obtain ⟨o', k', rfl, hc', hk'⟩ := itemsC_some h1'
            obtain ⟨g1', g2'⟩ := gV_some h0'
            obtain ⟨v', A', B', ev', rw', _⟩ := ok.st.slot g1' g2'
            have rw0 := rw'.clean0 hcl
            have hB : ∀ x, B x → (∃ o, H x = some o) ∧ F x = none := fun x z => ok.st.dom x ((hS x).mpr (.inr z))
            obtain ⟨a, vs, S0, rfl, p, hs, hr⟩ := rv.stays (S := B) ok.le dAB.symm fun x z => (hB x z).2
            obtain ⟨b, ws, S1, rfl, p', hs', hr'⟩ := rw0.stays (S := B) ok.le dj_emp fun x z => (hB x z).2
            have okB : Ok K mg F H σ (env.set i .no) (Cup Emp B) := ⟨ok.le, by
              have := rest F H (some (.ref a)) .no Emp (Le.refl _) (fun y z => ⟨rfl, (hB y z).2⟩) (.no fun _ z => z) emp_dj
              rwa [set_self' ev] at this⟩
            have okB' : Ok K mg F H σ (env.set i .no) B := ⟨okB.le, okB.st.iff fun x => ⟨.inr, fun z => z.elim (fun z => z.elim) id⟩⟩
            refine ⟨.ref a, ev, .ref b, ev', a, b, vs, ws, rfl, hk _ _ _ _ _ (hr F H B .refl ok.le), hk' _ _ _ _ _ (hr' F H B .refl ok.le), ?_⟩
            have good : Good K mg (zpT its jts) (Itz K a b) F H B := good_zip (p.clean0 hc) (p'.clean0 hc') (fun F2 H2 S2 s l => hk _ _ _ _ _ (hr F2 H2 S2 s l)) fun F2 H2 S2 s l => hk' _ _ _ _ _ (hr' F2 H2 S2 s l)
            refine for_core good okB' h2 fun F' H' S' R σ' st ok' of dj => ?_
            have e' : σ'[i]? = some (some (.ref a)) := (of.at_ i hi).trans ev
            have rv' := rv.keep st dAB.symm
            have djA : Dj (Cup S' R) A := st.dj (fun x z => (rv.dom x z).1) dAB.symm
            obtain ⟨s, A2, B2, k1, k2, k3, k4, rest2⟩ := ok'.st.split h3
            rw [e'] at k1
            cases k1
            have hn := rest2 F' H' (some (.ref a)) (.nd o k its) A (Le.refl _) (fun y z => ⟨rfl, (ok'.st.dom y ((k4 y).mpr (.inr z))).2⟩) rv' fun y z u => djA y (.inl ((k4 y).mpr (.inr u))) z
            rw [set_self' e'] at hn
            refine q F' H' (Cup A B2) R σ' ?_ ⟨ok'.le, hn⟩ of fun y z u => z.elim (fun z => djA y (.inr u) z) fun z => dj y ((k4 y).mpr (.inr z)) u
            have b1 := st.frameL A
            exact (b1.big fun y z => (hS y).mpr z).weak fun y z => z.elim (fun z => z.elim .inl fun z => .inr (.inl ((k4 y).mpr (.inr z)))) fun z => .inr (.inr z)
          · cases hd
        · cases hd
      · cases hd
    · cases hd
  · cases hd
theorem ss_forZ {X : Cx} {elts : List Expr} {kk : Nat} {tpos : Pos} {x y : Str} {i j : Nat} {px py p pos2 : Pos} {body : List Stmt} {dg : DG} {d : DS} {pos : Pos} (hi : i ∉ W1 ++ W2) (hp : PassesOwn (model X.prog X.w) X.A X.env X.xe) (hc : X.calm = true) (hgl : Gl X "zip") (hm : X.mg "zip" = none) (hg : SG X (.Tuple elts kk tpos) W1 dg) (hb : SSs X body W2 d)
    (hN : X.N[i]? = some x := by rfl) (hvis : Vis X.env.scope x := by first | exact Or.inl rfl | exact Or.inr (Or.inl rfl) | exact Or.inr (Or.inr rfl)) (hd : (x == ("__debug__" : Str)) = false := by decide) (hcd : (x == ("__classdict__" : Str)) = false := by decide)
    (hN' : X.N[j]? = some y := by rfl) (hvis' : Vis X.env.scope y := by first | exact Or.inl rfl | exact Or.inr (Or.inl rfl) | exact Or.inr (Or.inr rfl)) (hd' : (y == ("__debug__" : Str)) = false := by decide) (hcd' : (y == ("__classdict__" : Str)) = false := by decide)
    (hs1 : starEach [.Name x px, .Name y py] X.env = (false, eval (.Name x px) X.env) :: starEach [.Name y py] X.env := by rfl) (hs2 : starEach [.Name y py] X.env = (false, eval (.Name y py) X.env) :: starEach [] X.env := by rfl) (hpl : (backTo p (starEach [.Name y py] X.env)).any (·.1) = false := by rfl)
    (hs : ∀ z, foldedSetIterable (.Call (.Name "zip" pos2) [.Name x px, .Name y py] [] p) X.env z = pure z := by intro _; rfl) : SS X (.For (.Tuple elts kk tpos) (.Call (.Name "zip" pos2) [.Name x px, .Name y py] [] p) body [] pos) (W1 ++ W2) (dForZ i j dg d) :=
  psw (ps_for hp hc (pi_zip hgl hm (pa_cons (pe_var hN hvis hd hcd) (pa_cons (pe_var hN' hvis' hd' hcd') pa_nil hs2) hs1) hs1 hpl) hg hb hs) fun _ _ _ => forZ_imp hi
end
/-! ### a slot frozen ahead of a statement -/
def fzS (i : Nat) (d : DS) : DS := fun env => match env[i]? with
  | some t => d (env.set i (frz t))
  | none => none
theorem fzS_imp {K : PySem.W.Frag} {mg : Mg} {D : Ends} {σ : L2.St} {H : Hp} {W : List Nat} {i : Nat} {d : DS} (h : tS K mg W (fzS i d) D σ H) : tS K mg W d D σ H := by
  obtain ⟨F, env, S, r, env', ok, hd, c⟩ := h
  unfold fzS at hd
  split at hd
  · rename_i t ht
    obtain ⟨F', S', st, ok'⟩ := freeze_ok ok ht
    exact ⟨F', _, S', r, env', ok', hd, c.step (R := Emp) (st.weak fun _ z => z.elim id fun z => z.elim) .refl⟩
  · cases hd
theorem SS.fzS {X : Cx} {st : Stmt} {W : List Nat} {d : DS} (i : Nat) (h : SS X st W d) : SS X st W (Tr.fzS i d) := psw h fun _ _ _ => fzS_imp
/-! ### tuples of one's own -/
def dTupO (da : DA) : DE := fun env => (da env).bind fun p => if p.1.length ≤ sizeLine then some (.nd true .tup p.1, p.2) else none
section
variable {X : Cx} {pos : Pos} {es : List Expr} {da : DA} {bs : List (Option Nat)}
theorem se_tupO {k : Nat} (ha : SA X es bs da) : SE X (.Tuple es k pos) (dTupO da) := pew (pe_tup ha) fun σ H Q h => by
  obtain ⟨F, env, S, t, e, ok, hd, q⟩ := h
  obtain ⟨⟨ts, e1⟩, h1, h2⟩ := Option.bind_eq_some_iff.mp hd
  split at h2
  · rename_i hl
    cases h2
    refine ⟨F, env, S, ts, _, ok, h1, fun vs F1 H1 S1 R st ok1 r dj bo => ⟨by rw [r.length (S := Emp)]; exact hl, fun p hp => ?_⟩⟩
    have fp : F1 p = none := ok1.le.nn hp
    have hpS : ∀ y, S1 y → y ≠ p := fun y z e => by obtain ⟨⟨o, e'⟩, _⟩ := ok1.st.dom y z; rw [e, hp] at e'; cases e'
    have hpR : ∀ y, R y → y ≠ p := fun y z e => by obtain ⟨⟨o, e'⟩, _⟩ := r.dom y z; rw [e, hp] at e'; cases e'
    have st2 : Stp F1 H1 Emp F1 (upd H1 p (.tup vs)) (fun y => y = p) := ⟨Le.refl _, fun a o e _ => by rw [upd_ne (ne_of_none e hp)]; exact e, fun _ _ e => .inl e, fun a e => .inr (by rw [e]; exact hp)⟩
    have le2 : Le F1 (upd H1 p (.tup vs)) := fun a o e => st2.kp a o (ok1.le a o e) fun z => z
    refine q (.ref p) F1 (upd H1 p (.tup vs)) S1 (Cup (fun y => y = p) R) ?_ (ok1.keep st2 emp_dj le2) (.own upd_same fp rfl (r.keep st2 emp_dj) (fun z => hpR p z rfl) fun _ => Iff.rfl) fun y a b => b.elim (hpS y a) (dj y a)
    have b1 := (st2.frame (Cup S1 R)).big (R := Cup S1 R) fun y z => z.elim (fun z => z.elim) id
    exact (st.trans b1).weak fun y z => z.elim (fun z => .inr (.inl z)) fun z => z.elim .inl fun z => .inr (.inr z)
  · cases h2
end
/-! ### a change at a place, what is handed in reckoned with all frozen -/
def dMutPB (ty : String) (dp : DP) (op : T → List T → Option (T × T)) (da : DA) : DE := fun env => (dp env).bind fun p => (da (frzs env)).bind fun u => if isTy ty p.1 = true ∧ pureTs u.1 = true then (op p.1 u.1).map fun q => (q.1, p.2 q.2) else none
section
variable {K : PySem.W.Frag} {mg : Mg} {F H : Hp} {σ : L2.St} {S : AS}
theorem foc_mutR {r : V → List V → Hp → VK → Prop} {op : T → List T → Option (T × T)} {vs : List V} {ts : List T} {t t' res : T} {put : T → List T} {v : V} {Q : VK} {R : AS} (ho : OpM K mg r op) (le : Le F H) (f : Foc K mg F H σ S v t put) (rs : Reps K mg F H vs ts R) (djR : Dj S R) (hop : op t ts = some (res, t'))
    (q : ∀ w F' H' S' R', Stp F H (Cup S R) F' H' (Cup S' R') → Ok K mg F' H' σ (put t') S' → Rep K mg F' H' w res R' → Dj S' R' → Q w H') (dom : ∀ x, S x → (∃ o, H x = some o) ∧ F x = none) : r v vs H Q := by
  obtain ⟨A, B, rx, d, hS, rest⟩ := f
  refine ho F H v t A vs ts R res t' Q le rx rs (fun x a b => djR x ((hS x).mpr (.inl a)) b) hop fun w H' A' Rv stm le' rx' rw' dj' => ?_
  have djB : Dj (Cup A R) B := fun y a b => a.elim (fun a => d y a b) fun a => djR y ((hS y).mpr (.inr b)) a
  have kB := stm.keeps (R := B) (fun y z => dom y ((hS y).mpr (.inr z))) djB
  have djB' : Dj (Cup A' Rv) B := stm.dj (fun y z => (dom y ((hS y).mpr (.inr z))).1) djB
  have hn := rest H' t' A' (fun x z => (kB x z).1) rx' fun y a b => djB' y (.inl a) b
  refine q w F H' (Cup A' B) Rv ?_ ⟨le', hn⟩ rw' fun y a b => a.elim (fun a => dj' y a b) fun a => djB' y (.inr b) a
  have b1 := stm.frame B
  have b2 : Stp F H (Cup S R) F H' (Cup (Cup A' Rv) B) := b1.big fun y z => z.elim (fun z => z.elim (fun z => .inl ((hS y).mpr (.inl z))) .inr) fun z => .inl ((hS y).mpr (.inr z))
  exact b2.weak fun y z => z.elim (fun z => z.elim (fun z => .inl (.inl z)) .inr) fun z => .inl (.inr z)
theorem mutPB_imp {ty : String} {dp : DP} {r : V → List V → Hp → VK → Prop} {op : T → List T → Option (T × T)} {da : DA} {bs : List (Option Nat)} {Q : VK} (ho : OpM K mg r op) (h : tE K mg (dMutPB ty dp op da) σ H Q) : tBM K ty r (tP K mg dp) (tA K mg bs da) σ H Q := by
  obtain ⟨F, env, S, res, e, ok, hd, q⟩ := h
  obtain ⟨⟨t, put⟩, h1, h2⟩ := Option.bind_eq_some_iff.mp hd
  obtain ⟨⟨ts, e1⟩, h3, h4⟩ := Option.bind_eq_some_iff.mp h2
  split at h4
  · rename_i hi
    obtain ⟨⟨r', t'⟩, h5, h6⟩ := Option.map_eq_some_iff.mp h4
    cases h6
    refine ⟨F, env, S, t, put, ok, h1, fun v f => ⟨?_, ?_⟩⟩
    · obtain ⟨A, B, rx, _⟩ := f
      exact isTy_ok ok.le rx hi.1
    · have ff := frF_le (A := S) ok.le
      refine ⟨frF F H S, frzs env, Emp, ts, e1, ⟨ff.2, ok.st.freeze ff.1 fun x z => frF_in z⟩, h3, fun vs F2 H2 S2 R st2 ok2 rs dj bo => ?_⟩
      have kp : ∀ a o, H a = some o → H2 a = some o := fun a o z => st2.kp a o z fun z => z
      have nw : ∀ a, R a → H a = none := fun a z => (st2.no a (.inr z)).elim (fun z => z.elim) id
      have same : ∀ x, S x → H2 x = H x := fun x z => by obtain ⟨⟨o, e1⟩, _⟩ := ok.st.dom x z; exact (kp x o e1).trans e1.symm
      have rs' := rs.unfreeze (ff.1.trans st2.ff) hi.2
      have dS : Dj S R := fun x z y => by obtain ⟨⟨o, e1⟩, _⟩ := ok.st.dom x z; rw [nw x y] at e1; cases e1
      have le2 : Le F H2 := fun a o z => kp a o (ok.le a o z)
      have f2 : Foc K mg F H2 σ S v t put := by
        obtain ⟨A, B, rx, d, hS, rest⟩ := f
        refine ⟨A, B, rx.frame (Le.refl _) fun x z => ⟨same x ((hS x).mpr (.inl z)), (rx.dom x z).2⟩, d, hS, fun H' t' A' k r' dj' => rest H' t' A' (fun x z => (k x z).trans (same x ((hS x).mpr (.inr z)))) r' dj'⟩
      refine foc_mutR ho le2 f2 rs' dS h5 (fun w F' H' S' R' st ok' rw' dj' => q w F' H' S' R' ?_ ok' rw' dj') fun x z => ?_
      · have s1 : Stp F H S F H2 (Cup S R) := ⟨Le.refl _, fun a o z _ => kp a o z, fun _ _ z => .inl z, fun a z => z.elim .inl fun z => .inr (nw a z)⟩
        exact s1.trans st
      · obtain ⟨⟨o, e1⟩, e3⟩ := ok.st.dom x z
        exact ⟨⟨o, kp x o e1⟩, e3⟩
  · cases h4
end
section
variable {X : Cx} {e o : Expr} {es : List Expr} {name : Str} {ty id : String} {apos cpos : Pos} {r : V → List V → Hp → VK → Prop} {op : T → List T → Option (T × T)} {dp : DP} {da : DA} {bs : List (Option Nat)}
theorem se_mutPB (pa : PlainAttrs ty) (slot : Slot ty name id) (hty : typeOf (.builtin id) = pure (.type "method_descriptor")) (hm : MtR X id r) (ho : OpM X.K X.mg r op) (hp : SP X o dp) (ha : SA X (e :: es) bs da)
    (hbase : attributeBase o name X.env (eval o X.env) = eval o X.env := by rfl)
    (hfew : ((backTo cpos (starEach (e :: es) X.env)).all (fun y => !y.1) && (backToKw cpos (keywordEach [] X.env)).all (fun y => y.1.isSome) && decide ((e :: es).length + ([] : List Keyword).length + (if ([] : List Keyword).isEmpty then 0 else 1) < 30)) = true := by rfl)
    (hline : (apos.endLine == cpos.line) = true := by rfl) (hs : starEach (e :: es) X.env = (false, eval e X.env) :: starEach es X.env := by rfl) (hplain : (backTo cpos (starEach es X.env)).any (·.1) = false := by rfl) :
    SE X (.Call (.Attribute o name apos) (e :: es) [] cpos) (dMutPB ty dp op da) := pew (pe_bm pa slot hty hm hp ha hbase hfew hline hs hplain) fun _ _ _ h => mutPB_imp ho h
end
end Tr


set_option Elab.async false
set_option linter.all false
set_option maxRecDepth 100000
set_option maxHeartbeats 4000000
/-! D22: a dict walked by its keys, locked meanwhile. -/
namespace Tr
open PySem PySem.Spec PyProof.Rows L2

def itemsK : T → Option (List T)
  | .nd false (.dL ks) _ => some (ks.map fun k => .lf (kV k))
  | _ => none
theorem sc_kV (k : Key) : sc (kV k) = true := by cases k <;> rfl
theorem si_keys {X : Cx} {tg l : Expr} {d : DE} (hl : SE X l d) : SI X tg l (dIt itemsK d) := piw (pi_keys hl) fun σ H Rk ⟨F, env, S, its, e, ok, hd, q⟩ => by
  obtain ⟨t, h1, h2⟩ := dIt_some hd
  unfold itemsK at h2
  split at h2
  · rename_i ks xs
    cases h2
    refine ⟨F, env, S, _, e, ok, h1, fun v F1 H1 S1 R1 st ok1 r dj => ?_⟩
    cases r with
    | @frz a _ o vs _ _ hF hc rp =>
      obtain ⟨hl, od, rfl⟩ := hc
      refine ⟨a, od, rfl, .inl ⟨_, ok1.le _ _ hF, q _ F1 H1 S1 (st.weak fun _ z => .inl z) ok1 fun i F2 H2 S2 st2 le => ⟨fun t h => ?_, fun h => ?_⟩⟩⟩
      · rw [List.getElem?_map] at h
        obtain ⟨k, h3, rfl⟩ := Option.map_eq_some_iff.mp h
        have hi : i < ks.length := (List.getElem?_eq_some_iff.mp h3).1
        refine ⟨⟨le _ _ (st2.ff _ _ hF), by rw [List.length_zip]; omega⟩, fun x H3 y => ?_⟩
        obtain ⟨e1, k', v', e2, e3⟩ := y
        subst e1 e3
        have h4 := List.getElem?_zip_eq_some.mp e2
        have : k = k' := by have := h3.symm.trans h4.1; exact Option.some.inj this
        subst this
        exact ⟨F2, .refl, le, .lf (sc_kV k) fun _ z => z⟩
      · refine ⟨le _ _ (st2.ff _ _ hF), ?_⟩
        have : ks.length ≤ i := by simpa using h
        rw [List.length_zip]; omega
  · cases h2
/-- the dict in slot i is locked, all else frozen; the answer is wholly one's own -/
def lkK (i : Nat) (d : DE) : DE := fun env => match env[i]? with
  | some (.nd true (.dK ks) xs) => match d ((frzs env).set i (.nd false (.dL ks) (frzs xs))) with
    | some (t, _) => if pureT t = true then some (t, env) else none
    | none => none
  | _ => none
section
variable {K : PySem.W.Frag} {mg : Mg} {F H : Hp} {σ : L2.St}
theorem frzs_set : ∀ (env : List T) (i : Nat) (t : T), (frzs env).set i (frz t) = frzs (env.set i t)
  | [], _, _ => by simp [frzs]
  | _ :: _, 0, _ => by simp [frzs]
  | x :: xs, i + 1, t => by rw [frzs, List.set_cons_succ, List.set_cons_succ, frzs, frzs_set xs i t]
theorem lkK_imp {i : Nat} {d : DE} {Q : VK} (h : tE K mg (lkK i d) σ H Q) : tLockE (tE K mg d) σ H Q := by
  obtain ⟨F, env, S, t, e, ok, hd, q⟩ := h
  unfold lkK at hd
  split at hd
  · rename_i ks xs he
    split at hd
    · rename_i t' e2 h2
      split at hd
      · rename_i hp
        cases hd
        obtain ⟨s, A, B, e1, r1, dAB, hS, rest⟩ := ok.st.split he
        cases s with
        | none => obtain ⟨z, _⟩ := r1; cases z
        | some v =>
          obtain ⟨a, o, vs, S0, rfl, ha, hf, ⟨hl, rfl⟩, rp, na, hA⟩ := Rep.own_inv r1
          have aS : S a := (hS a).mpr (.inl ((hA a).mpr (.inl rfl)))
          refine ⟨a, _, ha, trivial, fun od => ?_⟩
          -- all frozen, the dict locked
          let F' : Hp := fun x => if x = a then some (.frz od (.dK (ks.zip vs))) else frF F H S x
          let H' : Hp := upd H a (.frz od (.dK (ks.zip vs)))
          have Fa : F' a = some (.frz od (.dK (ks.zip vs))) := if_pos rfl
          have Fn : ∀ x, x ≠ a → F' x = frF F H S x := fun x z => if_neg z
          have Hn : ∀ x, x ≠ a → H' x = H x := fun x z => upd_ne z
          have leF : Le F F' := fun x o z => by
            have : x ≠ a := fun y => by rw [y, hf] at z; cases z
            rw [Fn x this]; exact (frF_le ok.le).1 x o z
          have le' : Le F' H' := fun x o z => by
            by_cases hx : x = a
            · subst hx; rw [Fa] at z; cases z; exact upd_same
            · rw [Fn x hx] at z; rw [Hn x hx]; exact (frF_le ok.le).2 x o z
          have inS : ∀ x, S x → x ≠ a → F' x = H' x := fun x z n => by rw [Fn x n, Hn x n]; exact frF_in z
          have nB : ∀ x, B x → x ≠ a := fun x z y => dAB a ((hA a).mpr (.inl rfl)) (y ▸ z)
          have n0 : ∀ x, S0 x → x ≠ a := fun x z y => na (y ▸ z)
          have rd : Rep K mg F' H' (.ref a) (.nd false (.dL ks) (frzs xs)) Emp := by
            refine .frz Fa ⟨hl, od, rfl⟩ (Reps.freeze (H := H) leF rp (fun x z => ?_) fun _ z => z)
            rw [inS x ((hS x).mpr (.inl ((hA x).mpr (.inr z)))) (n0 x z)]; exact Hn x (n0 x z)
          have ok' : Ok K mg F' H' σ ((frzs env).set i (.nd false (.dL ks) (frzs xs))) Emp := by
            refine ⟨le', ?_⟩
            -- the slot emptied, all else frozen, then the lock put in
            have st1 : StR K mg F H σ (env.set i .no) B := by
              have := rest F H (some (.ref a)) .no Emp (Le.refl _) (fun y z => ⟨rfl, (ok.st.dom y ((hS y).mpr (.inr z))).2⟩) (.no fun _ z => z) emp_dj
              rw [set_self' e1] at this
              exact this.iff fun x => ⟨.inr, fun z => z.elim (fun z => z.elim) id⟩
            have st2 : StR K mg F' H σ (frzs (env.set i .no)) Emp := st1.freeze leF fun x z => by rw [inS x ((hS x).mpr (.inr z)) (nB x z)]; exact Hn x (nB x z)
            have st3 : StR K mg F' H' σ (frzs (env.set i .no)) Emp := st2.frame (Le.refl _) fun x z => z.elim
            have hi : i < env.length := (List.getElem?_eq_some_iff.mp he).1
            have e3 : (frzs (env.set i .no))[i]? = some .no := by
              rw [frzs_map, List.getElem?_map, List.getElem?_set_self hi]; rfl
            obtain ⟨s2, A2, B2, k1, k2, k3, k4, rest2⟩ := st3.split e3
            rw [e1] at k1
            cases k1
            have := rest2 F' H' (some (.ref a)) (.nd false (.dL ks) (frzs xs)) Emp (Le.refl _) (fun y z => ((k4 y).mpr (.inr z)).elim) rd emp_dj
            rw [set_self' e1] at this
            have e4 : (frzs (env.set i .no)).set i (.nd false (.dL ks) (frzs xs)) = (frzs env).set i (.nd false (.dL ks) (frzs xs)) := by
              rw [← frzs_set, List.set_set]
            rw [e4] at this
            exact this.iff fun x => ⟨fun z => z.elim, fun z => z.elim id fun z => (k4 x).mpr (.inr z)⟩
          refine ⟨F', _, Emp, _, e2, ok', h2, fun w F2 H2 S2 R st2 ok2 r dj => ⟨st2.kp a _ upd_same fun z => z, ?_⟩⟩
          have kp : ∀ x o, x ≠ a → H x = some o → H2 x = some o := fun x o n z => st2.kp x o ((Hn x n).trans z) fun z => z
          have nw : ∀ x, R x → H x = none ∧ x ≠ a := fun x z => by
            have h0 : H' x = none := (st2.no x (.inr z)).elim (fun z => z.elim) id
            have : x ≠ a := fun y => by subst y; have : H' x = some _ := upd_same; rw [this] at h0; cases h0
            rw [Hn x this] at h0; exact ⟨h0, this⟩
          have kp3 : ∀ x o, H x = some o → upd H2 a (.dK (ks.zip vs)) x = some o := fun x o z => by
            by_cases hx : x = a
            · subst hx; rw [upd_same, ← ha]; exact z
            · rw [upd_ne hx]; exact kp x o hx z
          have r2 : Rep K mg F (upd H2 a (.dK (ks.zip vs))) w _ R := (r.unfreeze (leF.trans st2.ff) hp).frame (Le.refl _) fun x z => ⟨upd_ne (nw x z).2, by
            cases y : F x with
            | none => rfl
            | some o =>
              have h1 := ok.le x o y
              rw [(nw x z).1] at h1; cases h1⟩
          refine q w F _ S R ⟨Le.refl _, fun x o z _ => kp3 x o z, fun _ _ z => .inl z, fun x z => z.elim .inl fun z => .inr (nw x z).1⟩ ⟨fun x o z => kp3 x o (ok.le x o z), ok.st.frame (Le.refl _) fun x z => ?_⟩ r2 fun x z y => ?_
          · obtain ⟨⟨o, e1⟩, e3⟩ := ok.st.dom x z
            exact ⟨(kp3 x o e1).trans e1.symm, e3⟩
          · obtain ⟨⟨o, e1⟩, e3⟩ := ok.st.dom x z
            rw [(nw x y).1] at e1
            cases e1
      · cases hd
    · cases hd
  · cases hd
end
theorem SE.lkK {X : Cx} {e : Expr} {d : DE} (i : Nat) (h : SE X e d) : SE X e (Tr.lkK i d) := pew (pe_lock h) fun _ _ _ => lkK_imp
end Tr


set_option Elab.async false
set_option linter.all false
set_option autoImplicit false
set_option maxRecDepth 100000
set_option maxHeartbeats 4000000
/-! EV6: what D19 to D22 bring, reckoned; texts joined. -/
namespace Tr
open PySem PySem.Spec PyProof.Rows L2 Pm
/-! zip -/
def fZip (p : List T × List T) : Option (List T × List T) := (itemsZ p.1).bind (fIt' p.2)
--ev
theorem dZip_ev (da env) : dZip da env = (da env).bind fZip := by
  unfold dZip fZip
  cases da env with
  | none => rfl
  | some p => simp only [Option.bind_some]; cases itemsZ p.1 <;> rfl
--ev
theorem fZip_ev (o o' xs ys e) : fZip ([.nd o .lst xs, .nd o' .lst ys], e) = some (zpT (frzs xs) (frzs ys), e) := rfl
theorem zpT_map {α : Type} (f g : α → T) : ∀ xs : List α, zpT (xs.map f) (xs.map g) = xs.map fun x => .nd false .tup [f x, g x]
  | [] => rfl
  | x :: xs => by simp only [List.map_cons, zpT, zpT_map f g xs]
def zipC (t0 u0 : T) : Option (List T) := match itemsC t0, itemsC u0 with
  | some a, some b => if cln u0 = true then some (zpT a b) else none
  | _, _ => none
def fForZ3 (i : Nat) (t0 : T) (p : Fl × List T) : Option (Fl × List T) := match p.2[i]? with
  | some .no => some (p.1, p.2.set i t0)
  | _ => none
def fForZ2 (i : Nat) (dg : DG) (d : DS) (env : List T) (t0 : T) (its : List T) : Option (Fl × List T) := (dFr dg d its (env.set i .no)).bind (fForZ3 i t0)
def fForZ1 (i : Nat) (dg : DG) (d : DS) (env : List T) (t0 : T) (u0 : T) : Option (Fl × List T) := (zipC t0 u0).bind (fForZ2 i dg d env t0)
def fForZ (i j : Nat) (dg : DG) (d : DS) (env : List T) (t0 : T) : Option (Fl × List T) := (gV j env).bind (fForZ1 i dg d env t0)
--ev
theorem fForZ_ev (i j dg d env t0) : fForZ i j dg d env t0 = (gV j env).bind (fForZ1 i dg d env t0) := rfl
--ev
theorem fForZ1_ev (i dg d env t0 u0) : fForZ1 i dg d env t0 u0 = (zipC t0 u0).bind (fForZ2 i dg d env t0) := rfl
--ev
theorem fForZ2_ev (i dg d env t0 its) : fForZ2 i dg d env t0 its = (dFr dg d its (env.set i .no)).bind (fForZ3 i t0) := rfl
theorem fForZ3_ev (i t0 r e) (h : e[i]? = some .no) : fForZ3 i t0 (r, e) = some (r, e.set i t0) := by unfold fForZ3; simp only [h]
--ev
theorem dForZ_ev (i j dg d env) : dForZ i j dg d env = (gV i env).bind (fForZ i j dg d env) := by
  unfold dForZ fForZ fForZ1 fForZ2 fForZ3 zipC
  cases gV i env with
  | none => rfl
  | some t0 =>
    simp only [Option.bind_some]
    cases gV j env with
    | none => rfl
    | some u0 =>
      simp only [Option.bind_some]
      cases itemsC t0 with
      | none => rfl
      | some a =>
        cases itemsC u0 with
        | none => rfl
        | some b =>
          simp only
          split
          · simp only [Option.bind_some]
            cases dFr dg d (zpT a b) (env.set i .no) with
            | none => rfl
            | some p => rfl
          · rfl
def fFzS (i : Nat) (d : DS) (env : List T) (t : T) : Option (Fl × List T) := d (env.set i (frz t))
--ev
theorem fFzS_ev (i d env t) : fFzS i d env t = d (env.set i (frz t)) := rfl
--ev
theorem fzS_ev (i d env) : fzS i d env = env[i]?.bind (fFzS i d env) := by unfold fzS; cases env[i]? <;> rfl
/-! reversed(range(n)) -/
def rvT (n : Nat) : List T := (rgI n).reverse.map lfI
theorem rv_eq (n : Nat) : ((List.range n).map fun (k : Nat) => lfI ((n : Int) - 1 - k)) = rvT n := by
  unfold rvT rgI
  refine List.ext_getElem (by simp) fun i h1 h2 => ?_
  have hi : i < n := by simpa using h1
  simp only [List.getElem_map, List.getElem_range, List.getElem_reverse, List.length_map, List.length_range]
  congr 1
  omega
def fRevR : T × List T → Option (List T × List T)
  | (.lf (.int j), e) => if -(2 ^ 61) ≤ j ∧ j < 2 ^ 61 then some ((List.range j.toNat).map fun (k : Nat) => lfI (j - 1 - k), e) else none
  | _ => none
theorem fRevR_ev (j e) : fRevR (.lf (.int j), e) = if -(2 ^ 61) ≤ j ∧ j < 2 ^ 61 then some ((List.range j.toNat).map fun (k : Nat) => lfI (j - 1 - k), e) else none := rfl
--ev
theorem fRevR_nat (n : Nat) (e) (h : n ≤ 1000) : fRevR (.lf (.int (n : Int)), e) = some (rvT n, e) := by
  rw [fRevR_ev, if_pos (by omega), Int.toNat_natCast, rv_eq]
--ev
theorem dRevR_ev (d env) : dRevR d env = (d env).bind fRevR := by
  unfold dRevR; split <;> rename_i h
  · rw [h]; rfl
  · cases hd : d env with
    | none => rfl
    | some p =>
      obtain ⟨t, e⟩ := p; rw [Option.bind_some]; unfold fRevR; split
      · rename_i hp; cases hp; exact (h _ _ hd).elim
      · rfl
/-! d.get -/
def f3V2 (o : T → T → T → Option T) (c : DV) (env : List T) (x y : T) : Option T := (c env).bind (o x y)
def f3V1 (o : T → T → T → Option T) (b c : DV) (env : List T) (x : T) : Option T := (b env).bind (f3V2 o c env x)
--ev
theorem f3V2_ev (o c env x y) : f3V2 o c env x y = (c env).bind (o x y) := rfl
--ev
theorem f3V1_ev (o b c env x) : f3V1 o b c env x = (b env).bind (f3V2 o c env x) := rfl
--ev
theorem o3V_ev (o a b c env) : o3V o a b c env = (a env).bind (f3V1 o b c env) := rfl
def fGetE2 (env : List T) (x y : T) : Option (T × List T) := (oGet x y (.nd true .lst [])).bind (fP env)
def fGetE1 (b : DV) (env : List T) (x : T) : Option (T × List T) := (b env).bind (fGetE2 env x)
--ev
theorem fGetE2_ev (env x y) : fGetE2 env x y = (oGet x y (.nd true .lst [])).bind (fP env) := rfl
--ev
theorem fGetE1_ev (b env x) : fGetE1 b env x = (b env).bind (fGetE2 env x) := rfl
--ev
theorem dGetE_ev (a b env) : dGetE a b env = (a env).bind (fGetE1 b env) := by
  unfold dGetE fGetE1 fGetE2
  cases a env with
  | none => rfl
  | some x =>
    simp only [Option.bind_some]
    cases b env with
    | none => rfl
    | some y => simp only [Option.bind_some]; cases oGet x y (.nd true .lst []) <;> rfl
/-! slices, displays -/
--ev
theorem z_sllo (o xs i) : oSlLo (li o xs) (.lf (.int i)) = some (li true (cutT xs (some i) none)) := z_slli o xs (some i) none
def fDisp (ks : List Key) (p : List T × List T) : Option (T × List T) := if nodupK ks = true ∧ ks.length = p.1.length ∧ ks.length ≤ 15 then some (.nd true (.dK ks) p.1, p.2) else none
--ev
theorem dDisp_ev (ks da env) : dDisp ks da env = (da env).bind (fDisp ks) := rfl
theorem fDisp_ev (ks ts e) (h : nodupK ks = true) (h2 : ks.length = ts.length) (h3 : ks.length ≤ 15) : fDisp ks (ts, e) = some (.nd true (.dK ks) ts, e) := if_pos ⟨h, h2, h3⟩
/-! stores at places -/
def fPutP4 (put : T → List T) (r : T × T) : Option (Fl × List T) := some (.nx, put r.2)
def fPutP3 (mk : V → T → List T → Option (T × T)) (t u : T) (put : T → List T) : T → Option (Fl × List T)
  | .lf k => if cln t = true then (mk k u [t]).bind (fPutP4 put) else none
  | _ => none
def fPutP2 (mk : V → T → List T → Option (T × T)) (dk : DV) (t : T) (e : List T) (p : T × (T → List T)) : Option (Fl × List T) := (dk e).bind (fPutP3 mk t p.1 p.2)
def fPutP1 (dp : DP) (mk : V → T → List T → Option (T × T)) (dk : DV) (p : T × List T) : Option (Fl × List T) := (dp p.2).bind (fPutP2 mk dk p.1 p.2)
--ev
theorem fPutP4_ev (put x y) : fPutP4 put (x, y) = some (.nx, put y) := rfl
--ev
theorem fPutP3_ev (mk t u put k) : fPutP3 mk t u put (.lf k) = if cln t = true then (mk k u [t]).bind (fPutP4 put) else none := rfl
--ev
theorem fPutP2_ev (mk dk t e u put) : fPutP2 mk dk t e (u, put) = (dk e).bind (fPutP3 mk t u put) := rfl
--ev
theorem fPutP1_ev (dp mk dk t e) : fPutP1 dp mk dk (t, e) = (dp e).bind (fPutP2 mk dk t e) := rfl
--ev
theorem dPutP_ev (dp mk dv dk env) : dPutP dp mk dv dk env = (dv env).bind (fPutP1 dp mk dk) := by
  unfold dPutP
  cases dv env with
  | none => rfl
  | some p =>
    obtain ⟨t, e⟩ := p
    simp only [Option.bind_some]
    unfold fPutP1
    cases dp e with
    | none => rfl
    | some q =>
      obtain ⟨u, put⟩ := q
      simp only [Option.bind_some]
      unfold fPutP2
      cases dk e with
      | none => rfl
      | some z =>
        cases z with
        | lf k =>
          show (if cln t = true then (mk k u [t]).map fun r => (Fl.nx, put r.2) else none) = (if cln t = true then (mk k u [t]).bind (fPutP4 put) else none)
          split
          · cases mk k u [t] <;> rfl
          · rfl
        | no => rfl
        | nd _ _ _ => rfl
def fDpV (i : Nat) (env : List T) (t : T) : Option (T × (T → List T)) := some (t, fun t' => env.set i t')
--ev
theorem dpV_ev (i env) : dpV i env = (gV i env).bind (fDpV i env) := by unfold dpV fDpV; cases gV i env <;> rfl
--ev
theorem fDpV_ev (i env t) : fDpV i env t = some (t, fun t' => env.set i t') := rfl
/-! joined texts -/
theorem strsOf_tx : ∀ ws : List (List Nat), strsOf (ws.map tx) = some (ws.map fun w => (⟨w.toArray⟩ : Str))
  | [] => rfl
  | w :: ws => by
    show (strsOf (ws.map tx)).map _ = _
    rw [strsOf_tx ws]; rfl
theorem joinL_nil : ∀ ws : List (List Nat), TL.joinL [] ws = ws.flatten
  | [] => rfl
  | [p] => by simp [TL.joinL]
  | p :: q :: r => by
    show p ++ ([] ++ TL.joinL [] (q :: r)) = _
    rw [joinL_nil (q :: r)]; simp
theorem join_nil (ws : List (List Nat)) : Txt.join ⟨#[]⟩ (ws.map fun w => (⟨w.toArray⟩ : Str)) = ⟨ws.flatten.toArray⟩ := by
  have h := TL.tl_join (⟨#[]⟩ : Str) (ws.map fun w => (⟨w.toArray⟩ : Str))
  rw [← TL.join_eq] at h
  have e1 : (ws.map fun w => (⟨w.toArray⟩ : Str)).map TL.tl = ws := by
    rw [List.map_map]
    conv => rhs; rw [← List.map_id ws]
    refine List.map_congr_left fun w _ => ?_
    show (⟨w.toArray⟩ : Str).cps.toList = w
    simp
  rw [e1] at h
  have e2 : TL.tl (⟨#[]⟩ : Str) = [] := rfl
  rw [e2, joinL_nil] at h
  generalize Txt.join ⟨#[]⟩ (ws.map fun w => (⟨w.toArray⟩ : Str)) = s at *
  obtain ⟨c⟩ := s
  have : c.toList = ws.flatten := h
  rw [← this]
def fJoin2 (a : List Nat) (p : T × List T) : Option (T × List T) := (oJoin ⟨a.toArray⟩ p.1).bind (fP p.2)
def fJoin1 (de : DE) (env : List T) : T → Option (T × List T)
  | .lf (.str a) => (de env).bind (fJoin2 a.cps.toList)
  | _ => none
--ev
theorem fJoin2_ev (a t e) : fJoin2 a (t, e) = (oJoin ⟨a.toArray⟩ t).bind (fP e) := rfl
--ev
theorem fJoin1_ev (de env l) : fJoin1 de env (tx l) = (de env).bind (fJoin2 l) := by
  show (de env).bind (fJoin2 l.toArray.toList) = _
  rw [List.toList_toArray]
--ev
theorem dJoin_ev (vo de env) : dJoin vo de env = (vo env).bind (fJoin1 de env) := by
  unfold dJoin
  cases h : vo env with
  | none => rfl
  | some t =>
    cases t with
    | no => rfl
    | nd _ _ _ => rfl
    | lf v =>
      cases v with
      | str a =>
        show (de env).bind _ = (de env).bind (fJoin2 a.cps.toList)
        cases de env with
        | none => rfl
        | some p => simp only [Option.bind_some, fJoin2, Array.toArray_toList]; cases oJoin a p.1 <;> rfl
      | _ => rfl
theorem z_join (o : Bool) (ws : List (List Nat)) (h : (ws.map List.length).sum ≤ 1000) : oJoin ⟨([] : List Nat).toArray⟩ (.nd o .lst (ws.map tx)) = some (tx ws.flatten) := by
  have e0 : (⟨([] : List Nat).toArray⟩ : Str) = ⟨#[]⟩ := rfl
  rw [e0]
  unfold oJoin
  simp only [isSq, if_true, strsOf_tx, Option.bind_some]
  rw [join_nil]
  have e : ((ws.map fun w => (⟨w.toArray⟩ : Str)).map (·.length)) = ws.map List.length := by
    rw [List.map_map]
    exact List.map_congr_left fun w _ => str_len w
  have z : (⟨#[]⟩ : Str).length = 0 := rfl
  rw [e, z, if_pos (by omega)]
  rfl
/-! tuples of one's own, locked dicts -/
def fTupO (p : List T × List T) : Option (T × List T) := if p.1.length ≤ sizeLine then some (.nd true .tup p.1, p.2) else none
--ev
theorem fTupO_ev (ts e) (h : ts.length ≤ 1000) : fTupO (ts, e) = some (.nd true .tup ts, e) := if_pos (Nat.le_of_lt (small h))
--ev
theorem dTupO_ev (da env) : dTupO da env = (da env).bind fTupO := rfl
def fLkK1 (env : List T) (p : T × List T) : Option (T × List T) := if pureT p.1 = true then some (p.1, env) else none
def fLkK (i : Nat) (d : DE) (env : List T) : T → Option (T × List T)
  | .nd true (.dK ks) xs => (d ((frzs env).set i (.nd false (.dL ks) (frzs xs)))).bind (fLkK1 env)
  | _ => none
--ev
theorem fLkK1_ev (env t e) : fLkK1 env (t, e) = if pureT t = true then some (t, env) else none := rfl
theorem fLkK_ev (i d env ks xs) : fLkK i d env (.nd true (.dK ks) xs) = (d ((frzs env).set i (.nd false (.dL ks) (frzs xs)))).bind (fLkK1 env) := rfl
--ev
theorem lkK_ev (i d env) : lkK i d env = env[i]?.bind (fLkK i d env) := by
  unfold lkK
  cases env[i]? with
  | none => rfl
  | some t =>
    cases t with
    | no => rfl
    | lf _ => rfl
    | nd o k xs =>
      cases o with
      | false => rfl
      | true =>
        cases k with
        | dK ks =>
          show (match d ((frzs env).set i (.nd false (.dL ks) (frzs xs))) with
            | some (t, _) => if pureT t = true then some (t, env) else none
            | none => none) = (d ((frzs env).set i (.nd false (.dL ks) (frzs xs)))).bind (fLkK1 env)
          cases d ((frzs env).set i (.nd false (.dL ks) (frzs xs))) with
          | none => rfl
          | some p => rfl
        | _ => rfl
end Tr


set_option Elab.async false
set_option linter.all false
set_option autoImplicit false
set_option maxRecDepth 100000
set_option maxHeartbeats 4000000
/-! WS: the words of sayings (Saying.words). (printed by mkws.py) -/
namespace Pm
open PySem PySem.Spec PyProof.Rows L2 Tr Wk
local macro_rules | `(tactic| exists $es,*) => do { let ls ← es.getElems.mapM fun e => `(Lean.Parser.Tactic.simpLemma| $e:term); `(tactic| simp -implicitDefEqProofs (disch := (first | assumption | omega | decide | (simp only [List.length_cons, List.length_nil, List.length_append, List.length_map, Tr.rgI_len]; omega) | (simp only [List.length_cons, List.length_nil, List.length_append, List.length_map, Int.toNat_natCast] at *; omega))) only [Tr.okT_lf, Tr.okT_nd, Tr.okT_li, Tr.okT_ll, Tr.okT_dk, Tr.okT_mks, Tr.okT_mk1, Tr.okT_mch, Tr.okT_scr, Tr.okT_tp, Tr.okO_some, Tr.gV_ev, Tr.gC_ev, Tr.gG_ev, Tr.fM_ev, Tr.fS_ev, Tr.gM_ev, Tr.gS_ev, Tr.fP_ev, Tr.fQ_ev, Tr.vr_ev, Tr.fRe_ev, Tr.re_ev, Tr.fO1_ev, Tr.o1V_ev, Tr.o1_ev, Tr.fO2V_ev, Tr.o2V_ev, Tr.fO2v'_ev, Tr.fO2v_ev, Tr.o2v_ev, Tr.fO2o'_ev, Tr.fO2o_ev, Tr.o2o_ev, Tr.fO2c'_ev, Tr.fO2c_ev, Tr.o2c_ev, Tr.fO2n''_ev, Tr.fO2n'_ev, Tr.fO2n_ev, Tr.o2n_ev, Tr.fAnd_ev, Tr.fOr_ev, Tr.dAnd_ev, Tr.dOr_ev, Tr.ite_BB, Tr.ite_decF, Tr.ite_Tdec, Tr.z_cast, Tr.z_ndec, Tr.ite_TF, Tr.ite_FT, Tr.bind_ite, Tr.aNil_ev, Tr.fCons'_ev, Tr.fCons_ev, Tr.aCons_ev, Tr.fCall'_ev, Tr.fCall_ev, Tr.dCall_ev, Tr.wb_nil, Tr.wb_none, Tr.fWb_ev, Tr.wb_some, Tr.fMeth'_ev, Tr.fMeth_ev, Tr.dMeth_ev, Tr.fMake'_ev, Tr.fMake_ev, Tr.dMake_ev, Tr.fSeq_nx, Tr.fSeq_rt, Tr.fSeq_bk, Tr.fSeq_ct, Tr.dSeq_ev, Tr.fIf_ev, Tr.dIf_ev, Tr.fSet_ev, Tr.dSet_ev, Tr.fRet_ev, Tr.dRet_ev, Tr.fEx_ev, Tr.dEx_ev, Tr.dRetN_ev, Tr.dNx_ev, Tr.dBk_ev, Tr.dCt_ev, Tr.dFail_ev, Tr.fPut''_ev, Tr.fPut'_ev, Tr.fPut1_ev, Tr.fPut_ev, Tr.dPut_ev, Tr.fMut3_ev, Tr.fMut2_ev, Tr.fMut1_ev, Tr.fMut_ev, Tr.dMut_ev, Tr.fLst_ev, Tr.fTup_ev, Tr.dLst_ev, Tr.dTup_ev, Tr.dDic_ev, Tr.fBw_ev, Tr.bw_ev, Tr.fFz_ev, Tr.fz_ev, Tr.fAug''_ev, Tr.fAug'_ev, Tr.fAug_ev, Tr.dAug_ev, Tr.z_ex, Tr.z_exT, Tr.fRng_nat, Tr.dRng_ev, Tr.fIt'_ev, Tr.fIt_ev, Tr.dIt_ev, Tr.fFor_ev, Tr.dFor_ev, Tr.gN_ev, Tr.fG_ev, Tr.gT2_ev, Tr.gT2_mk1, Tr.dFr_nil, Tr.turn_ev, Tr.fFr_nx, Tr.fFr_ct, Tr.fFr_bk, Tr.fFr_rt, Tr.dFr_cons, Tr.fLc'_ev, Tr.fLc_ev, Tr.dLc_ev, Tr.dLr_nil, Tr.wipeT_nil, Tr.wipeT_cons, Tr.backT_nil, Tr.backT_cons, Tr.cleanAt_nil, Tr.cleanAt_cons, Tr.fFun_rt, Tr.fFun_nx, Tr.dFun_ev, Tr.outs_cons, Tr.outs_nil, Tr.frzs_nil, Tr.frzs_cons, Tr.z_frz1, Tr.z_frz2, Tr.z_frz3, Tr.z_frz4, Tr.z_frz5, Tr.z_frz6, Tr.z_frz7, Tr.z_frz8, Tr.z_frz9, Tr.z_frz10, Tr.z_frz11, Tr.z_cln1, Tr.z_cln2, Tr.z_cln3, Tr.z_cln4, Tr.z_cln5, Tr.z_cln6, Tr.z_cln7, Tr.z_cln8, Tr.z_cln9, Tr.z_cln10, Tr.z_clns1, Tr.z_clns2, Tr.z_clns3, Tr.z_pure1, Tr.z_pure2, Tr.z_pure3, Tr.z_pure4, Tr.z_pure5, Tr.z_pure6, Tr.z_pure7, Tr.z_lfI, Tr.z_li, Tr.z_add, Tr.z_sub, Tr.z_mulr, Tr.z_mod, Tr.z_div, Tr.z_lt, Tr.z_le, Tr.z_gt, Tr.z_ge, Tr.z_eq, Tr.z_ne, Tr.z_neg, Tr.z_eqli, Tr.z_neli, Tr.z_eqnil, Tr.z_nenil, Tr.z_inli, Tr.z_ninli, Tr.z_indk, Tr.z_nindk, Tr.z_ll, Tr.z_mks, Tr.z_nil, Tr.z_appll, Tr.z_int1, Tr.z_int2, Tr.z_len1, Tr.z_len2, Tr.z_len3, Tr.z_len4, Tr.z_len5, Tr.z_len6, Tr.z_len7, Tr.z_not, Tr.z_isi1, Tr.z_isi2, Tr.z_isi3, Tr.z_isi4, Tr.z_isi5, Tr.z_isi6, Tr.z_list1, Tr.z_sort1, Tr.z_sort2, Tr.z_app1, Tr.z_app2, Tr.z_pop1, Tr.z_clr1, Tr.z_clr2, Tr.z_rev1, Tr.z_ext1, Tr.z_cat1, Tr.z_it1, Tr.z_it2, Tr.z_it3, Tr.z_it4, Tr.z_ty1, Tr.z_ty2, Tr.z_ty3, Tr.z_ty4, Tr.z_fst, Tr.z_fma, Tr.z_ffa, Tr.z_ins1, Tr.z_ins2, Tr.z_ins3, Tr.z_ins4, Tr.z_ins5, Tr.z_ixli, Tr.z_ixll, Tr.z_ixlast, Tr.z_setdk, Tr.fDic1_ev, Tr.fDic1'_ev, Tr.dDic1_ev, Tr.fLRg_nat, Tr.dLRg_ev, Tr.z_len8, Tr.z_bind_some, Tr.z_get0, Tr.z_gets, Tr.z_getD0, Tr.z_getDs, Tr.z_set0, Tr.z_sets, Tr.z_app, Tr.z_nil_app, Tr.z_app_nil, Tr.z_map0, Tr.z_mapc, Tr.z_rep0, Tr.z_reps, Tr.z_lenc, Tr.z_lenn, Tr.z_c0, Tr.z_c1, Tr.z_c2, Tr.z_c3, Tr.z_okoV, Tr.z_okrk, Tr.z_okrl, Tr.z_frzoV, Tr.z_clnoV, Tr.z_pureoV, Tr.z_frzrk, Tr.z_clnrk, Tr.z_frzrl, Tr.z_clnrl, Tr.z_ixrl, Tr.z_lenrl, Tr.z_isirl, Tr.z_tyrl, Tr.z_clrrl, Tr.z_oVs, Tr.z_oVn, Tr.z_rks, Tr.z_rkn, Tr.z_ixt0, Tr.z_ixt1, Tr.z_isN1, Tr.z_isN2, Tr.z_isN3, Tr.z_notN1, Tr.z_notN2, Tr.z_notN3, Tr.z_isN4, Tr.z_notN4, Tr.z_isN5, Tr.z_notN5, Tr.fCh3_ev, Tr.fCh2_ev, Tr.fCh1_ev, Tr.z_ch, Tr.z_okdls, Tr.z_frzdls, Tr.z_clndls, Tr.z_ixdls, Tr.z_indls, Tr.z_okdds, Tr.z_frzdds, Tr.z_clndds, Tr.z_ixdds, Tr.fAsg'_ev, Tr.fAsg_ev, Tr.dAsg_ev, Tr.fBwS_ev, Tr.bwS_ev, Tr.fPt_ev, Tr.ptT_no, Tr.ptT_so, Tr.fSl2_ev, Tr.fSl1_ev, Tr.fSl_ev, Tr.dSl_ev, Tr.z_slli, Tr.z_cutTail, Tr.z_cutInit, Tr.z_okst, Tr.z_frzst, Tr.z_clnst, Tr.z_purest, Tr.z_addst, Tr.z_lenst, Tr.z_inst1, Tr.z_ninst1, Tr.z_ixst, Tr.eqL_self, Tr.eqL_nn, Tr.eqL_nc, Tr.eqL_cn, Tr.eqL_cc, Tr.z_eqst, Tr.z_nest, Tr.z_insl, Tr.z_ninsl, Tr.z_sq1, Tr.z_sq2, Tr.z_sq3, Tr.z_itst, Tr.z_isist, Tr.z_slst, Tr.z_cutOne, Tr.lit_all, Tr.lit_not, Tr.lit_both, Tr.lit_either, Tr.lit_somenext, Tr.lit_eachnext, Tr.lit_sometill, Tr.lit_eachtill, Tr.lit_someever, Tr.lit_eachever, Tr.lit_somealways, Tr.lit_eachalways, Tr.lit_mark, Tr.lit_loop, Tr.lit_rank, Tr.lit_walk, Tr.lit_shut, Tr.lit_out, Tr.lit_here, Tr.lit_dead, Tr.lit_plain, Tr.lit_step, Tr.lit_none, Tr.lit_fair, Tr.lit_answer, Tr.lit_p, Tr.lit_wet, Tr.lit_darkness, Tr.lit_x, Tr.lit_q, Tr.lit_empty, Tr.lit_in, Tr.lit_letters, Tr.z_kept, Tr.z_catX12, Tr.z_catT12, Tr.z_ixt2, Tr.z_frzsg, Tr.z_clnsg, Tr.z_oksg, Tr.z_oktl, Tr.z_frztl, Tr.z_clntl, Tr.z_insT_told, Tr.z_insT_joint, Tr.z_insT_over_walks, Tr.z_insT_contrary, Tr.z_insT_good, Tr.z_insT_some_next, Tr.z_insT_some_till, Tr.z_insT_each_till, Tr.z_fldT_machine, Tr.z_fldT_every, Tr.z_fldT_live, Tr.fEls_s, Tr.fEls_n, Tr.elsE_ev, Tr.fOO_s, Tr.fOO_n, Tr.oOr_ev, Tr.fMO_s, Tr.fMO_n, Tr.mOr_ev, Tr.oIs1_nd, Tr.dNew_ev, Tr.fFzk_ev, Tr.fzk_ev, Tr.fDfz_ev, Tr.dfz_ev, Tr.z_eqbl, Tr.z_nebl, Tr.z_beqtt, Tr.z_beqff, Tr.z_beqtf, Tr.z_beqft, Tr.z_isNll, Tr.z_isNli, Tr.z_catnd, Tr.dZip_ev, Tr.fZip_ev, Tr.fForZ_ev, Tr.fForZ1_ev, Tr.fForZ2_ev, Tr.dForZ_ev, Tr.fFzS_ev, Tr.fzS_ev, Tr.fRevR_nat, Tr.dRevR_ev, Tr.f3V2_ev, Tr.f3V1_ev, Tr.o3V_ev, Tr.fGetE2_ev, Tr.fGetE1_ev, Tr.dGetE_ev, Tr.z_sllo, Tr.dDisp_ev, Tr.fPutP4_ev, Tr.fPutP3_ev, Tr.fPutP2_ev, Tr.fPutP1_ev, Tr.dPutP_ev, Tr.dpV_ev, Tr.fDpV_ev, Tr.fJoin2_ev, Tr.fJoin1_ev, Tr.dJoin_ev, Tr.fTupO_ev, Tr.dTupO_ev, Tr.fLkK1_ev, Tr.lkK_ev, ↓reduceIte, ite_true, ite_false, Nat.reduceAdd, Nat.reduceSub, Nat.reduceLT, Nat.reduceLeDiff, Nat.zero_add, Nat.lt_add_one, Nat.zero_lt_succ, decide_true, decide_false, decide_eq_true_eq, decide_eq_false_iff_not, Bool.not_eq_true, Bool.not_eq_false, Bool.not_true, Bool.not_false, Bool.not_eq_true', Bool.and_true, Bool.true_and, Bool.and_self, Bool.and_eq_true, Bool.or_eq_true, not_true_eq_false, not_false_eq_true, eq_self, and_self, and_true, true_and, false_and, and_false, or_true, true_or, or_false, false_or, reduceCtorEq, Bool.false_eq_true, Int.toNat_natCast, Int.reduceToNat, Int.reduceEq, Int.reduceLT, Int.reduceLE, Int.reduceNeg, Int.reduceAdd, Int.reduceSub, Int.reduceMul, List.length_map, Bool.not_not, Bool.not_eq_eq_eq_not, Decidable.not_not, Nat.reduceEqDiff, Bool.false_and, Bool.and_false, Option.isSome_some, Option.isSome_none, Option.isNone_some, Option.isNone_none, $ls,*]) }

def wds : Sg → List (List Nat)
  | .all => [[97, 108, 108]]
  | .mark w => [w]
  | .not p => [110, 111, 116] :: wds p
  | .someNext p => [115, 111, 109, 101, 110, 101, 120, 116] :: wds p
  | .eachNext p => [101, 97, 99, 104, 110, 101, 120, 116] :: wds p
  | .someAlways p => [115, 111, 109, 101, 97, 108, 119, 97, 121, 115] :: wds p
  | .eachAlways p => [101, 97, 99, 104, 97, 108, 119, 97, 121, 115] :: wds p
  | .someEver p => [115, 111, 109, 101, 101, 118, 101, 114] :: wds p
  | .eachEver p => [101, 97, 99, 104, 101, 118, 101, 114] :: wds p
  | .both l r => [98, 111, 116, 104] :: (wds l ++ wds r)
  | .either l r => [101, 105, 116, 104, 101, 114] :: (wds l ++ wds r)
  | .someTill l r => [115, 111, 109, 101, 116, 105, 108, 108] :: (wds l ++ wds r)
  | .eachTill l r => [101, 97, 99, 104, 116, 105, 108, 108] :: (wds l ++ wds r)
theorem wds_len : ∀ s : Sg, (wds s).length = sz s
  | .all | .mark _ => rfl
  | .not p => by have := wds_len p; simp only [wds, sz, List.length_cons]; omega
  | .someNext p => by have := wds_len p; simp only [wds, sz, List.length_cons]; omega
  | .eachNext p => by have := wds_len p; simp only [wds, sz, List.length_cons]; omega
  | .someAlways p => by have := wds_len p; simp only [wds, sz, List.length_cons]; omega
  | .eachAlways p => by have := wds_len p; simp only [wds, sz, List.length_cons]; omega
  | .someEver p => by have := wds_len p; simp only [wds, sz, List.length_cons]; omega
  | .eachEver p => by have := wds_len p; simp only [wds, sz, List.length_cons]; omega
  | .both l r => by have := wds_len l; have := wds_len r; simp only [wds, sz, List.length_cons, List.length_append]; omega
  | .either l r => by have := wds_len l; have := wds_len r; simp only [wds, sz, List.length_cons, List.length_append]; omega
  | .someTill l r => by have := wds_len l; have := wds_len r; simp only [wds, sz, List.length_cons, List.length_append]; omega
  | .eachTill l r => by have := wds_len l; have := wds_len r; simp only [wds, sz, List.length_cons, List.length_append]; omega
theorem wds_ok : ∀ s : Sg, mok s → ∀ w ∈ wds s, Okc w = true
  | .all, _, w, h => by rw [show w = _ by simpa [wds] using h]; decide
  | .mark v, hm, w, h => by rw [show w = v by simpa [wds] using h]; exact hm
  | .not p, hm, w, h => by
    rcases List.mem_cons.mp h with rfl | h
    · decide
    · exact wds_ok p hm w h
  | .someNext p, hm, w, h => by
    rcases List.mem_cons.mp h with rfl | h
    · decide
    · exact wds_ok p hm w h
  | .eachNext p, hm, w, h => by
    rcases List.mem_cons.mp h with rfl | h
    · decide
    · exact wds_ok p hm w h
  | .someAlways p, hm, w, h => by
    rcases List.mem_cons.mp h with rfl | h
    · decide
    · exact wds_ok p hm w h
  | .eachAlways p, hm, w, h => by
    rcases List.mem_cons.mp h with rfl | h
    · decide
    · exact wds_ok p hm w h
  | .someEver p, hm, w, h => by
    rcases List.mem_cons.mp h with rfl | h
    · decide
    · exact wds_ok p hm w h
  | .eachEver p, hm, w, h => by
    rcases List.mem_cons.mp h with rfl | h
    · decide
    · exact wds_ok p hm w h
  | .both l r, hm, w, h => by
    rcases List.mem_cons.mp h with rfl | h
    · decide
    · exact (List.mem_append.mp h).elim (wds_ok l hm.1 w) (wds_ok r hm.2 w)
  | .either l r, hm, w, h => by
    rcases List.mem_cons.mp h with rfl | h
    · decide
    · exact (List.mem_append.mp h).elim (wds_ok l hm.1 w) (wds_ok r hm.2 w)
  | .someTill l r, hm, w, h => by
    rcases List.mem_cons.mp h with rfl | h
    · decide
    · exact (List.mem_append.mp h).elim (wds_ok l hm.1 w) (wds_ok r hm.2 w)
  | .eachTill l r, hm, w, h => by
    rcases List.mem_cons.mp h with rfl | h
    · decide
    · exact (List.mem_append.mp h).elim (wds_ok l hm.1 w) (wds_ok r hm.2 w)
theorem ty_NL (o ws) : isTy "list" (NL o ws) = true := rfl
theorem it_NL (o ws) : itemsL (NL o ws) = some (ws.map tx) := by
  show some (frzs (ws.map tx)) = _
  rw [frzs_map, List.map_map]
  exact congrArg some (List.map_congr_left fun x _ => z_frzst x)
theorem cln_NL (ws) : cln (NL false ws) = true := by rw [← frz_NL true]; exact cln_frz _
theorem pure_NL (ws) : pureT (NL true ws) = true := by
  unfold NL
  rw [pureT, pureTs_of]
  · rfl
  · intro t ht
    obtain ⟨x, _, rfl⟩ := List.mem_map.mp ht
    exact pure_lf _
theorem clns_tx (ws : List (List Nat)) : clns (ws.map tx) = true := by
  have := cln_NL ws
  unfold NL at this
  rwa [cln_nd] at this
theorem ext_NL (a b : List (List Nat)) (o) (h : a.length + b.length ≤ 1000) : mExtend (NL true a) [NL o b] = some (.lf .non, NL true (a ++ b)) := by
  have := small h
  show (if (a.map tx).length + (b.map tx).length ≤ sizeLine then some (T.lf .non, T.nd true .lst (a.map tx ++ b.map tx)) else none) = _
  rw [if_pos (by simp; omega), ← List.map_append]; rfl
theorem cat_NL (a b : List (List Nat)) (o o') (h : a.length + b.length ≤ 1000) : oCat (NL o a) (NL o' b) = some (NL true (a ++ b)) := by
  have := small h
  show (if clns (a.map tx) = true ∧ clns (b.map tx) = true ∧ (a.map tx).length + (b.map tx).length ≤ sizeLine then some (T.nd true .lst (a.map tx ++ b.map tx)) else none) = _
  rw [if_pos ⟨clns_tx a, clns_tx b, by simp; omega⟩, ← List.map_append]; rfl
theorem nl1 (o a) : (.nd o .lst [tx a] : T) = NL o [a] := rfl
theorem isi_NL (o ws) : oIsi "list" (NL o ws) = some (.lf (.bl true)) := isi_list o _
theorem wsh_all : sgT .all = .nd false (.ins "All" []) [] := rfl
theorem wm_all : m_All_word [sgT .all] = some (tx [97, 108, 108], [sgT .all]) := by
  exists m_All_word, bn_All_word
theorem w1_all (mr : FT) (a b : T) : d_Saying_words_1 mr [sgT .all, a, b] = some (tx [97, 108, 108], [sgT .all, a, b]) := by
  have hc := wm_all
  rw [wsh_all] at hc ⊢
  exists d_Saying_words_1, isIns_nd, List.all_nil, List.all_cons, hc, ne_All_Both, ne_All_EachAlways, ne_All_EachEver, ne_All_EachNext, ne_All_EachTill, ne_All_Either, ne_All_Mark, ne_All_Not, ne_All_SomeAlways, ne_All_SomeEver, ne_All_SomeNext, ne_All_SomeTill
theorem wi_all : m_Saying_inside [sgT .all] = some (li true [], [sgT .all]) := by
  exists m_Saying_inside, bn_Saying_inside
theorem w3_all (mr : FT) (a b : T) : d_Saying_words_3 mr [sgT .all, a, b] = some (li true [], [.no, a, b]) := by
  have hc := wi_all
  rw [wsh_all] at hc ⊢
  exists d_Saying_words_3, isIns_nd, List.all_nil, List.all_cons, hc, ne_All_Both, ne_All_EachAlways, ne_All_EachEver, ne_All_EachNext, ne_All_EachTill, ne_All_Either, ne_All_Mark, ne_All_Not, ne_All_SomeAlways, ne_All_SomeEver, ne_All_SomeNext, ne_All_SomeTill
theorem w2_all (mr : FT) (a b t x : T) (h : mr [sgT .all] = some (t, [x])) : d_Saying_words_2 mr [a, b, sgT .all] = some (t, [a, b, .no]) := by
  rw [wsh_all] at h ⊢
  exists d_Saying_words_2, isIns_nd, List.all_nil, List.all_cons, h, ne_All_Both, ne_All_EachAlways, ne_All_EachEver, ne_All_EachNext, ne_All_EachTill, ne_All_Either, ne_All_Mark, ne_All_Not, ne_All_SomeAlways, ne_All_SomeEver, ne_All_SomeNext, ne_All_SomeTill
theorem wsh_both (l r : Sg) : sgT (.both l r) = .nd false (.ins "Both" ["left", "right"]) [sgT l, sgT r] := rfl
theorem wm_both (l r : Sg) : m_Both_word [sgT (.both l r)] = some (tx [98, 111, 116, 104], [sgT (.both l r)]) := by
  exists m_Both_word, bn_Both_word
theorem w1_both (mr : FT) (l r : Sg) (a b : T) : d_Saying_words_1 mr [sgT (.both l r), a, b] = some (tx [98, 111, 116, 104], [sgT (.both l r), a, b]) := by
  have hc := wm_both l r
  rw [wsh_both] at hc ⊢
  exists d_Saying_words_1, isIns_nd, List.all_nil, List.all_cons, hc, ne_Both_All, ne_Both_EachAlways, ne_Both_EachEver, ne_Both_EachNext, ne_Both_EachTill, ne_Both_Either, ne_Both_Mark, ne_Both_Not, ne_Both_SomeAlways, ne_Both_SomeEver, ne_Both_SomeNext, ne_Both_SomeTill, ne_left_word, ne_right_word
theorem wla_both (l r : Sg) : oA_left (sgT (.both l r)) = some (sgT l) := by
  exists oA_left, sgT, oFld_nd, getF_cons, ne_left_right, ne_Both_All, ne_Both_EachAlways, ne_Both_EachEver, ne_Both_EachNext, ne_Both_EachTill, ne_Both_Either, ne_Both_Mark, ne_Both_Not, ne_Both_SomeAlways, ne_Both_SomeEver, ne_Both_SomeNext, ne_Both_SomeTill
theorem wra_both (l r : Sg) : oA_right (sgT (.both l r)) = some (sgT r) := by
  exists oA_right, sgT, oFld_nd, getF_cons, ne_left_right, ne_Both_All, ne_Both_EachAlways, ne_Both_EachEver, ne_Both_EachNext, ne_Both_EachTill, ne_Both_Either, ne_Both_Mark, ne_Both_Not, ne_Both_SomeAlways, ne_Both_SomeEver, ne_Both_SomeNext, ne_Both_SomeTill
theorem wi_both (l r : Sg) : m_Double_inside [sgT (.both l r)] = some (.nd true .lst [sgT l, sgT r], [sgT (.both l r)]) := by
  exists m_Double_inside, bn_Double_inside, wla_both, wra_both
theorem w3_both (mr : FT) (l r : Sg) (a b : T) : d_Saying_words_3 mr [sgT (.both l r), a, b] = some (.nd true .lst [sgT l, sgT r], [.no, a, b]) := by
  have hc := wi_both l r
  rw [wsh_both] at hc ⊢
  exists d_Saying_words_3, isIns_nd, List.all_nil, List.all_cons, hc, ne_Both_All, ne_Both_EachAlways, ne_Both_EachEver, ne_Both_EachNext, ne_Both_EachTill, ne_Both_Either, ne_Both_Mark, ne_Both_Not, ne_Both_SomeAlways, ne_Both_SomeEver, ne_Both_SomeNext, ne_Both_SomeTill, ne_left_inside, ne_right_inside
theorem w2_both (mr : FT) (l r : Sg) (a b t x : T) (h : mr [sgT (.both l r)] = some (t, [x])) : d_Saying_words_2 mr [a, b, sgT (.both l r)] = some (t, [a, b, .no]) := by
  rw [wsh_both] at h ⊢
  exists d_Saying_words_2, isIns_nd, List.all_nil, List.all_cons, h, ne_Both_All, ne_Both_EachAlways, ne_Both_EachEver, ne_Both_EachNext, ne_Both_EachTill, ne_Both_Either, ne_Both_Mark, ne_Both_Not, ne_Both_SomeAlways, ne_Both_SomeEver, ne_Both_SomeNext, ne_Both_SomeTill, ne_left_words, ne_right_words
theorem wsh_eachAlways (p : Sg) : sgT (.eachAlways p) = .nd false (.ins "EachAlways" ["part"]) [sgT p] := rfl
theorem wm_eachAlways (p : Sg) : m_EachAlways_word [sgT (.eachAlways p)] = some (tx [101, 97, 99, 104, 97, 108, 119, 97, 121, 115], [sgT (.eachAlways p)]) := by
  exists m_EachAlways_word, bn_EachAlways_word
theorem w1_eachAlways (mr : FT) (p : Sg) (a b : T) : d_Saying_words_1 mr [sgT (.eachAlways p), a, b] = some (tx [101, 97, 99, 104, 97, 108, 119, 97, 121, 115], [sgT (.eachAlways p), a, b]) := by
  have hc := wm_eachAlways p
  rw [wsh_eachAlways] at hc ⊢
  exists d_Saying_words_1, isIns_nd, List.all_nil, List.all_cons, hc, ne_EachAlways_All, ne_EachAlways_Both, ne_EachAlways_EachEver, ne_EachAlways_EachNext, ne_EachAlways_EachTill, ne_EachAlways_Either, ne_EachAlways_Mark, ne_EachAlways_Not, ne_EachAlways_SomeAlways, ne_EachAlways_SomeEver, ne_EachAlways_SomeNext, ne_EachAlways_SomeTill, ne_part_word
theorem wp_eachAlways (p : Sg) : oA_part (sgT (.eachAlways p)) = some (sgT p) := by
  exists oA_part, sgT, oFld_nd, getF_cons, ne_EachAlways_All, ne_EachAlways_Both, ne_EachAlways_EachEver, ne_EachAlways_EachNext, ne_EachAlways_EachTill, ne_EachAlways_Either, ne_EachAlways_Mark, ne_EachAlways_Not, ne_EachAlways_SomeAlways, ne_EachAlways_SomeEver, ne_EachAlways_SomeNext, ne_EachAlways_SomeTill
theorem wi_eachAlways (p : Sg) : m_Single_inside [sgT (.eachAlways p)] = some (.nd true .lst [sgT p], [sgT (.eachAlways p)]) := by
  exists m_Single_inside, bn_Single_inside, wp_eachAlways
theorem w3_eachAlways (mr : FT) (p : Sg) (a b : T) : d_Saying_words_3 mr [sgT (.eachAlways p), a, b] = some (.nd true .lst [sgT p], [.no, a, b]) := by
  have hc := wi_eachAlways p
  rw [wsh_eachAlways] at hc ⊢
  exists d_Saying_words_3, isIns_nd, List.all_nil, List.all_cons, hc, ne_EachAlways_All, ne_EachAlways_Both, ne_EachAlways_EachEver, ne_EachAlways_EachNext, ne_EachAlways_EachTill, ne_EachAlways_Either, ne_EachAlways_Mark, ne_EachAlways_Not, ne_EachAlways_SomeAlways, ne_EachAlways_SomeEver, ne_EachAlways_SomeNext, ne_EachAlways_SomeTill, ne_part_inside
theorem w2_eachAlways (mr : FT) (p : Sg) (a b t x : T) (h : mr [sgT (.eachAlways p)] = some (t, [x])) : d_Saying_words_2 mr [a, b, sgT (.eachAlways p)] = some (t, [a, b, .no]) := by
  rw [wsh_eachAlways] at h ⊢
  exists d_Saying_words_2, isIns_nd, List.all_nil, List.all_cons, h, ne_EachAlways_All, ne_EachAlways_Both, ne_EachAlways_EachEver, ne_EachAlways_EachNext, ne_EachAlways_EachTill, ne_EachAlways_Either, ne_EachAlways_Mark, ne_EachAlways_Not, ne_EachAlways_SomeAlways, ne_EachAlways_SomeEver, ne_EachAlways_SomeNext, ne_EachAlways_SomeTill, ne_part_words
theorem wsh_eachEver (p : Sg) : sgT (.eachEver p) = .nd false (.ins "EachEver" ["part"]) [sgT p] := rfl
theorem wm_eachEver (p : Sg) : m_EachEver_word [sgT (.eachEver p)] = some (tx [101, 97, 99, 104, 101, 118, 101, 114], [sgT (.eachEver p)]) := by
  exists m_EachEver_word, bn_EachEver_word
theorem w1_eachEver (mr : FT) (p : Sg) (a b : T) : d_Saying_words_1 mr [sgT (.eachEver p), a, b] = some (tx [101, 97, 99, 104, 101, 118, 101, 114], [sgT (.eachEver p), a, b]) := by
  have hc := wm_eachEver p
  rw [wsh_eachEver] at hc ⊢
  exists d_Saying_words_1, isIns_nd, List.all_nil, List.all_cons, hc, ne_EachEver_All, ne_EachEver_Both, ne_EachEver_EachAlways, ne_EachEver_EachNext, ne_EachEver_EachTill, ne_EachEver_Either, ne_EachEver_Mark, ne_EachEver_Not, ne_EachEver_SomeAlways, ne_EachEver_SomeEver, ne_EachEver_SomeNext, ne_EachEver_SomeTill, ne_part_word
theorem wp_eachEver (p : Sg) : oA_part (sgT (.eachEver p)) = some (sgT p) := by
  exists oA_part, sgT, oFld_nd, getF_cons, ne_EachEver_All, ne_EachEver_Both, ne_EachEver_EachAlways, ne_EachEver_EachNext, ne_EachEver_EachTill, ne_EachEver_Either, ne_EachEver_Mark, ne_EachEver_Not, ne_EachEver_SomeAlways, ne_EachEver_SomeEver, ne_EachEver_SomeNext, ne_EachEver_SomeTill
theorem wi_eachEver (p : Sg) : m_Single_inside [sgT (.eachEver p)] = some (.nd true .lst [sgT p], [sgT (.eachEver p)]) := by
  exists m_Single_inside, bn_Single_inside, wp_eachEver
theorem w3_eachEver (mr : FT) (p : Sg) (a b : T) : d_Saying_words_3 mr [sgT (.eachEver p), a, b] = some (.nd true .lst [sgT p], [.no, a, b]) := by
  have hc := wi_eachEver p
  rw [wsh_eachEver] at hc ⊢
  exists d_Saying_words_3, isIns_nd, List.all_nil, List.all_cons, hc, ne_EachEver_All, ne_EachEver_Both, ne_EachEver_EachAlways, ne_EachEver_EachNext, ne_EachEver_EachTill, ne_EachEver_Either, ne_EachEver_Mark, ne_EachEver_Not, ne_EachEver_SomeAlways, ne_EachEver_SomeEver, ne_EachEver_SomeNext, ne_EachEver_SomeTill, ne_part_inside
theorem w2_eachEver (mr : FT) (p : Sg) (a b t x : T) (h : mr [sgT (.eachEver p)] = some (t, [x])) : d_Saying_words_2 mr [a, b, sgT (.eachEver p)] = some (t, [a, b, .no]) := by
  rw [wsh_eachEver] at h ⊢
  exists d_Saying_words_2, isIns_nd, List.all_nil, List.all_cons, h, ne_EachEver_All, ne_EachEver_Both, ne_EachEver_EachAlways, ne_EachEver_EachNext, ne_EachEver_EachTill, ne_EachEver_Either, ne_EachEver_Mark, ne_EachEver_Not, ne_EachEver_SomeAlways, ne_EachEver_SomeEver, ne_EachEver_SomeNext, ne_EachEver_SomeTill, ne_part_words
theorem wsh_eachNext (p : Sg) : sgT (.eachNext p) = .nd false (.ins "EachNext" ["part"]) [sgT p] := rfl
theorem wm_eachNext (p : Sg) : m_EachNext_word [sgT (.eachNext p)] = some (tx [101, 97, 99, 104, 110, 101, 120, 116], [sgT (.eachNext p)]) := by
  exists m_EachNext_word, bn_EachNext_word
theorem w1_eachNext (mr : FT) (p : Sg) (a b : T) : d_Saying_words_1 mr [sgT (.eachNext p), a, b] = some (tx [101, 97, 99, 104, 110, 101, 120, 116], [sgT (.eachNext p), a, b]) := by
  have hc := wm_eachNext p
  rw [wsh_eachNext] at hc ⊢
  exists d_Saying_words_1, isIns_nd, List.all_nil, List.all_cons, hc, ne_EachNext_All, ne_EachNext_Both, ne_EachNext_EachAlways, ne_EachNext_EachEver, ne_EachNext_EachTill, ne_EachNext_Either, ne_EachNext_Mark, ne_EachNext_Not, ne_EachNext_SomeAlways, ne_EachNext_SomeEver, ne_EachNext_SomeNext, ne_EachNext_SomeTill, ne_part_word
theorem wp_eachNext (p : Sg) : oA_part (sgT (.eachNext p)) = some (sgT p) := by
  exists oA_part, sgT, oFld_nd, getF_cons, ne_EachNext_All, ne_EachNext_Both, ne_EachNext_EachAlways, ne_EachNext_EachEver, ne_EachNext_EachTill, ne_EachNext_Either, ne_EachNext_Mark, ne_EachNext_Not, ne_EachNext_SomeAlways, ne_EachNext_SomeEver, ne_EachNext_SomeNext, ne_EachNext_SomeTill
theorem wi_eachNext (p : Sg) : m_Single_inside [sgT (.eachNext p)] = some (.nd true .lst [sgT p], [sgT (.eachNext p)]) := by
  exists m_Single_inside, bn_Single_inside, wp_eachNext
theorem w3_eachNext (mr : FT) (p : Sg) (a b : T) : d_Saying_words_3 mr [sgT (.eachNext p), a, b] = some (.nd true .lst [sgT p], [.no, a, b]) := by
  have hc := wi_eachNext p
  rw [wsh_eachNext] at hc ⊢
  exists d_Saying_words_3, isIns_nd, List.all_nil, List.all_cons, hc, ne_EachNext_All, ne_EachNext_Both, ne_EachNext_EachAlways, ne_EachNext_EachEver, ne_EachNext_EachTill, ne_EachNext_Either, ne_EachNext_Mark, ne_EachNext_Not, ne_EachNext_SomeAlways, ne_EachNext_SomeEver, ne_EachNext_SomeNext, ne_EachNext_SomeTill, ne_part_inside
theorem w2_eachNext (mr : FT) (p : Sg) (a b t x : T) (h : mr [sgT (.eachNext p)] = some (t, [x])) : d_Saying_words_2 mr [a, b, sgT (.eachNext p)] = some (t, [a, b, .no]) := by
  rw [wsh_eachNext] at h ⊢
  exists d_Saying_words_2, isIns_nd, List.all_nil, List.all_cons, h, ne_EachNext_All, ne_EachNext_Both, ne_EachNext_EachAlways, ne_EachNext_EachEver, ne_EachNext_EachTill, ne_EachNext_Either, ne_EachNext_Mark, ne_EachNext_Not, ne_EachNext_SomeAlways, ne_EachNext_SomeEver, ne_EachNext_SomeNext, ne_EachNext_SomeTill, ne_part_words
theorem wsh_eachTill (l r : Sg) : sgT (.eachTill l r) = .nd false (.ins "EachTill" ["left", "right"]) [sgT l, sgT r] := rfl
theorem wm_eachTill (l r : Sg) : m_EachTill_word [sgT (.eachTill l r)] = some (tx [101, 97, 99, 104, 116, 105, 108, 108], [sgT (.eachTill l r)]) := by
  exists m_EachTill_word, bn_EachTill_word
theorem w1_eachTill (mr : FT) (l r : Sg) (a b : T) : d_Saying_words_1 mr [sgT (.eachTill l r), a, b] = some (tx [101, 97, 99, 104, 116, 105, 108, 108], [sgT (.eachTill l r), a, b]) := by
  have hc := wm_eachTill l r
  rw [wsh_eachTill] at hc ⊢
  exists d_Saying_words_1, isIns_nd, List.all_nil, List.all_cons, hc, ne_EachTill_All, ne_EachTill_Both, ne_EachTill_EachAlways, ne_EachTill_EachEver, ne_EachTill_EachNext, ne_EachTill_Either, ne_EachTill_Mark, ne_EachTill_Not, ne_EachTill_SomeAlways, ne_EachTill_SomeEver, ne_EachTill_SomeNext, ne_EachTill_SomeTill, ne_left_word, ne_right_word
theorem wla_eachTill (l r : Sg) : oA_left (sgT (.eachTill l r)) = some (sgT l) := by
  exists oA_left, sgT, oFld_nd, getF_cons, ne_left_right, ne_EachTill_All, ne_EachTill_Both, ne_EachTill_EachAlways, ne_EachTill_EachEver, ne_EachTill_EachNext, ne_EachTill_Either, ne_EachTill_Mark, ne_EachTill_Not, ne_EachTill_SomeAlways, ne_EachTill_SomeEver, ne_EachTill_SomeNext, ne_EachTill_SomeTill
theorem wra_eachTill (l r : Sg) : oA_right (sgT (.eachTill l r)) = some (sgT r) := by
  exists oA_right, sgT, oFld_nd, getF_cons, ne_left_right, ne_EachTill_All, ne_EachTill_Both, ne_EachTill_EachAlways, ne_EachTill_EachEver, ne_EachTill_EachNext, ne_EachTill_Either, ne_EachTill_Mark, ne_EachTill_Not, ne_EachTill_SomeAlways, ne_EachTill_SomeEver, ne_EachTill_SomeNext, ne_EachTill_SomeTill
theorem wi_eachTill (l r : Sg) : m_Double_inside [sgT (.eachTill l r)] = some (.nd true .lst [sgT l, sgT r], [sgT (.eachTill l r)]) := by
  exists m_Double_inside, bn_Double_inside, wla_eachTill, wra_eachTill
theorem w3_eachTill (mr : FT) (l r : Sg) (a b : T) : d_Saying_words_3 mr [sgT (.eachTill l r), a, b] = some (.nd true .lst [sgT l, sgT r], [.no, a, b]) := by
  have hc := wi_eachTill l r
  rw [wsh_eachTill] at hc ⊢
  exists d_Saying_words_3, isIns_nd, List.all_nil, List.all_cons, hc, ne_EachTill_All, ne_EachTill_Both, ne_EachTill_EachAlways, ne_EachTill_EachEver, ne_EachTill_EachNext, ne_EachTill_Either, ne_EachTill_Mark, ne_EachTill_Not, ne_EachTill_SomeAlways, ne_EachTill_SomeEver, ne_EachTill_SomeNext, ne_EachTill_SomeTill, ne_left_inside, ne_right_inside
theorem w2_eachTill (mr : FT) (l r : Sg) (a b t x : T) (h : mr [sgT (.eachTill l r)] = some (t, [x])) : d_Saying_words_2 mr [a, b, sgT (.eachTill l r)] = some (t, [a, b, .no]) := by
  rw [wsh_eachTill] at h ⊢
  exists d_Saying_words_2, isIns_nd, List.all_nil, List.all_cons, h, ne_EachTill_All, ne_EachTill_Both, ne_EachTill_EachAlways, ne_EachTill_EachEver, ne_EachTill_EachNext, ne_EachTill_Either, ne_EachTill_Mark, ne_EachTill_Not, ne_EachTill_SomeAlways, ne_EachTill_SomeEver, ne_EachTill_SomeNext, ne_EachTill_SomeTill, ne_left_words, ne_right_words
theorem wsh_either (l r : Sg) : sgT (.either l r) = .nd false (.ins "Either" ["left", "right"]) [sgT l, sgT r] := rfl
theorem wm_either (l r : Sg) : m_Either_word [sgT (.either l r)] = some (tx [101, 105, 116, 104, 101, 114], [sgT (.either l r)]) := by
  exists m_Either_word, bn_Either_word
theorem w1_either (mr : FT) (l r : Sg) (a b : T) : d_Saying_words_1 mr [sgT (.either l r), a, b] = some (tx [101, 105, 116, 104, 101, 114], [sgT (.either l r), a, b]) := by
  have hc := wm_either l r
  rw [wsh_either] at hc ⊢
  exists d_Saying_words_1, isIns_nd, List.all_nil, List.all_cons, hc, ne_Either_All, ne_Either_Both, ne_Either_EachAlways, ne_Either_EachEver, ne_Either_EachNext, ne_Either_EachTill, ne_Either_Mark, ne_Either_Not, ne_Either_SomeAlways, ne_Either_SomeEver, ne_Either_SomeNext, ne_Either_SomeTill, ne_left_word, ne_right_word
theorem wla_either (l r : Sg) : oA_left (sgT (.either l r)) = some (sgT l) := by
  exists oA_left, sgT, oFld_nd, getF_cons, ne_left_right, ne_Either_All, ne_Either_Both, ne_Either_EachAlways, ne_Either_EachEver, ne_Either_EachNext, ne_Either_EachTill, ne_Either_Mark, ne_Either_Not, ne_Either_SomeAlways, ne_Either_SomeEver, ne_Either_SomeNext, ne_Either_SomeTill
theorem wra_either (l r : Sg) : oA_right (sgT (.either l r)) = some (sgT r) := by
  exists oA_right, sgT, oFld_nd, getF_cons, ne_left_right, ne_Either_All, ne_Either_Both, ne_Either_EachAlways, ne_Either_EachEver, ne_Either_EachNext, ne_Either_EachTill, ne_Either_Mark, ne_Either_Not, ne_Either_SomeAlways, ne_Either_SomeEver, ne_Either_SomeNext, ne_Either_SomeTill
theorem wi_either (l r : Sg) : m_Double_inside [sgT (.either l r)] = some (.nd true .lst [sgT l, sgT r], [sgT (.either l r)]) := by
  exists m_Double_inside, bn_Double_inside, wla_either, wra_either
theorem w3_either (mr : FT) (l r : Sg) (a b : T) : d_Saying_words_3 mr [sgT (.either l r), a, b] = some (.nd true .lst [sgT l, sgT r], [.no, a, b]) := by
  have hc := wi_either l r
  rw [wsh_either] at hc ⊢
  exists d_Saying_words_3, isIns_nd, List.all_nil, List.all_cons, hc, ne_Either_All, ne_Either_Both, ne_Either_EachAlways, ne_Either_EachEver, ne_Either_EachNext, ne_Either_EachTill, ne_Either_Mark, ne_Either_Not, ne_Either_SomeAlways, ne_Either_SomeEver, ne_Either_SomeNext, ne_Either_SomeTill, ne_left_inside, ne_right_inside
theorem w2_either (mr : FT) (l r : Sg) (a b t x : T) (h : mr [sgT (.either l r)] = some (t, [x])) : d_Saying_words_2 mr [a, b, sgT (.either l r)] = some (t, [a, b, .no]) := by
  rw [wsh_either] at h ⊢
  exists d_Saying_words_2, isIns_nd, List.all_nil, List.all_cons, h, ne_Either_All, ne_Either_Both, ne_Either_EachAlways, ne_Either_EachEver, ne_Either_EachNext, ne_Either_EachTill, ne_Either_Mark, ne_Either_Not, ne_Either_SomeAlways, ne_Either_SomeEver, ne_Either_SomeNext, ne_Either_SomeTill, ne_left_words, ne_right_words
theorem wsh_mark (w : List Nat) : sgT (.mark w) = .nd false (.ins "Mark" ["name"]) [tx w] := rfl
theorem wf_mark (w : List Nat) : oFld "Mark" "name" (sgT (.mark w)) = some (tx w) := by
  rw [wsh_mark]
  exists oFld_nd, getF_cons
theorem wm_mark (w : List Nat) : m_Mark_word [sgT (.mark w)] = some (tx w, [sgT (.mark w)]) := by
  exists m_Mark_word, bn_Mark_word, wf_mark
theorem w1_mark (mr : FT) (w : List Nat) (a b : T) : d_Saying_words_1 mr [sgT (.mark w), a, b] = some (tx w, [sgT (.mark w), a, b]) := by
  have hc := wm_mark w
  rw [wsh_mark] at hc ⊢
  exists d_Saying_words_1, isIns_nd, List.all_nil, List.all_cons, hc, ne_Mark_All, ne_Mark_Both, ne_Mark_EachAlways, ne_Mark_EachEver, ne_Mark_EachNext, ne_Mark_EachTill, ne_Mark_Either, ne_Mark_Not, ne_Mark_SomeAlways, ne_Mark_SomeEver, ne_Mark_SomeNext, ne_Mark_SomeTill, ne_name_word
theorem wi_mark (w : List Nat) : m_Saying_inside [sgT (.mark w)] = some (li true [], [sgT (.mark w)]) := by
  exists m_Saying_inside, bn_Saying_inside
theorem w3_mark (mr : FT) (w : List Nat) (a b : T) : d_Saying_words_3 mr [sgT (.mark w), a, b] = some (li true [], [.no, a, b]) := by
  have hc := wi_mark w
  rw [wsh_mark] at hc ⊢
  exists d_Saying_words_3, isIns_nd, List.all_nil, List.all_cons, hc, ne_Mark_All, ne_Mark_Both, ne_Mark_EachAlways, ne_Mark_EachEver, ne_Mark_EachNext, ne_Mark_EachTill, ne_Mark_Either, ne_Mark_Not, ne_Mark_SomeAlways, ne_Mark_SomeEver, ne_Mark_SomeNext, ne_Mark_SomeTill, ne_name_inside
theorem w2_mark (mr : FT) (w : List Nat) (a b t x : T) (h : mr [sgT (.mark w)] = some (t, [x])) : d_Saying_words_2 mr [a, b, sgT (.mark w)] = some (t, [a, b, .no]) := by
  rw [wsh_mark] at h ⊢
  exists d_Saying_words_2, isIns_nd, List.all_nil, List.all_cons, h, ne_Mark_All, ne_Mark_Both, ne_Mark_EachAlways, ne_Mark_EachEver, ne_Mark_EachNext, ne_Mark_EachTill, ne_Mark_Either, ne_Mark_Not, ne_Mark_SomeAlways, ne_Mark_SomeEver, ne_Mark_SomeNext, ne_Mark_SomeTill, ne_name_words
theorem wsh_not (p : Sg) : sgT (.not p) = .nd false (.ins "Not" ["part"]) [sgT p] := rfl
theorem wm_not (p : Sg) : m_Not_word [sgT (.not p)] = some (tx [110, 111, 116], [sgT (.not p)]) := by
  exists m_Not_word, bn_Not_word
theorem w1_not (mr : FT) (p : Sg) (a b : T) : d_Saying_words_1 mr [sgT (.not p), a, b] = some (tx [110, 111, 116], [sgT (.not p), a, b]) := by
  have hc := wm_not p
  rw [wsh_not] at hc ⊢
  exists d_Saying_words_1, isIns_nd, List.all_nil, List.all_cons, hc, ne_Not_All, ne_Not_Both, ne_Not_EachAlways, ne_Not_EachEver, ne_Not_EachNext, ne_Not_EachTill, ne_Not_Either, ne_Not_Mark, ne_Not_SomeAlways, ne_Not_SomeEver, ne_Not_SomeNext, ne_Not_SomeTill, ne_part_word
theorem wp_not (p : Sg) : oA_part (sgT (.not p)) = some (sgT p) := by
  exists oA_part, sgT, oFld_nd, getF_cons, ne_Not_All, ne_Not_Both, ne_Not_EachAlways, ne_Not_EachEver, ne_Not_EachNext, ne_Not_EachTill, ne_Not_Either, ne_Not_Mark, ne_Not_SomeAlways, ne_Not_SomeEver, ne_Not_SomeNext, ne_Not_SomeTill
theorem wi_not (p : Sg) : m_Single_inside [sgT (.not p)] = some (.nd true .lst [sgT p], [sgT (.not p)]) := by
  exists m_Single_inside, bn_Single_inside, wp_not
theorem w3_not (mr : FT) (p : Sg) (a b : T) : d_Saying_words_3 mr [sgT (.not p), a, b] = some (.nd true .lst [sgT p], [.no, a, b]) := by
  have hc := wi_not p
  rw [wsh_not] at hc ⊢
  exists d_Saying_words_3, isIns_nd, List.all_nil, List.all_cons, hc, ne_Not_All, ne_Not_Both, ne_Not_EachAlways, ne_Not_EachEver, ne_Not_EachNext, ne_Not_EachTill, ne_Not_Either, ne_Not_Mark, ne_Not_SomeAlways, ne_Not_SomeEver, ne_Not_SomeNext, ne_Not_SomeTill, ne_part_inside
theorem w2_not (mr : FT) (p : Sg) (a b t x : T) (h : mr [sgT (.not p)] = some (t, [x])) : d_Saying_words_2 mr [a, b, sgT (.not p)] = some (t, [a, b, .no]) := by
  rw [wsh_not] at h ⊢
  exists d_Saying_words_2, isIns_nd, List.all_nil, List.all_cons, h, ne_Not_All, ne_Not_Both, ne_Not_EachAlways, ne_Not_EachEver, ne_Not_EachNext, ne_Not_EachTill, ne_Not_Either, ne_Not_Mark, ne_Not_SomeAlways, ne_Not_SomeEver, ne_Not_SomeNext, ne_Not_SomeTill, ne_part_words
theorem wsh_someAlways (p : Sg) : sgT (.someAlways p) = .nd false (.ins "SomeAlways" ["part"]) [sgT p] := rfl
theorem wm_someAlways (p : Sg) : m_SomeAlways_word [sgT (.someAlways p)] = some (tx [115, 111, 109, 101, 97, 108, 119, 97, 121, 115], [sgT (.someAlways p)]) := by
  exists m_SomeAlways_word, bn_SomeAlways_word
theorem w1_someAlways (mr : FT) (p : Sg) (a b : T) : d_Saying_words_1 mr [sgT (.someAlways p), a, b] = some (tx [115, 111, 109, 101, 97, 108, 119, 97, 121, 115], [sgT (.someAlways p), a, b]) := by
  have hc := wm_someAlways p
  rw [wsh_someAlways] at hc ⊢
  exists d_Saying_words_1, isIns_nd, List.all_nil, List.all_cons, hc, ne_SomeAlways_All, ne_SomeAlways_Both, ne_SomeAlways_EachAlways, ne_SomeAlways_EachEver, ne_SomeAlways_EachNext, ne_SomeAlways_EachTill, ne_SomeAlways_Either, ne_SomeAlways_Mark, ne_SomeAlways_Not, ne_SomeAlways_SomeEver, ne_SomeAlways_SomeNext, ne_SomeAlways_SomeTill, ne_part_word
theorem wp_someAlways (p : Sg) : oA_part (sgT (.someAlways p)) = some (sgT p) := by
  exists oA_part, sgT, oFld_nd, getF_cons, ne_SomeAlways_All, ne_SomeAlways_Both, ne_SomeAlways_EachAlways, ne_SomeAlways_EachEver, ne_SomeAlways_EachNext, ne_SomeAlways_EachTill, ne_SomeAlways_Either, ne_SomeAlways_Mark, ne_SomeAlways_Not, ne_SomeAlways_SomeEver, ne_SomeAlways_SomeNext, ne_SomeAlways_SomeTill
theorem wi_someAlways (p : Sg) : m_Single_inside [sgT (.someAlways p)] = some (.nd true .lst [sgT p], [sgT (.someAlways p)]) := by
  exists m_Single_inside, bn_Single_inside, wp_someAlways
theorem w3_someAlways (mr : FT) (p : Sg) (a b : T) : d_Saying_words_3 mr [sgT (.someAlways p), a, b] = some (.nd true .lst [sgT p], [.no, a, b]) := by
  have hc := wi_someAlways p
  rw [wsh_someAlways] at hc ⊢
  exists d_Saying_words_3, isIns_nd, List.all_nil, List.all_cons, hc, ne_SomeAlways_All, ne_SomeAlways_Both, ne_SomeAlways_EachAlways, ne_SomeAlways_EachEver, ne_SomeAlways_EachNext, ne_SomeAlways_EachTill, ne_SomeAlways_Either, ne_SomeAlways_Mark, ne_SomeAlways_Not, ne_SomeAlways_SomeEver, ne_SomeAlways_SomeNext, ne_SomeAlways_SomeTill, ne_part_inside
theorem w2_someAlways (mr : FT) (p : Sg) (a b t x : T) (h : mr [sgT (.someAlways p)] = some (t, [x])) : d_Saying_words_2 mr [a, b, sgT (.someAlways p)] = some (t, [a, b, .no]) := by
  rw [wsh_someAlways] at h ⊢
  exists d_Saying_words_2, isIns_nd, List.all_nil, List.all_cons, h, ne_SomeAlways_All, ne_SomeAlways_Both, ne_SomeAlways_EachAlways, ne_SomeAlways_EachEver, ne_SomeAlways_EachNext, ne_SomeAlways_EachTill, ne_SomeAlways_Either, ne_SomeAlways_Mark, ne_SomeAlways_Not, ne_SomeAlways_SomeEver, ne_SomeAlways_SomeNext, ne_SomeAlways_SomeTill, ne_part_words
theorem wsh_someEver (p : Sg) : sgT (.someEver p) = .nd false (.ins "SomeEver" ["part"]) [sgT p] := rfl
theorem wm_someEver (p : Sg) : m_SomeEver_word [sgT (.someEver p)] = some (tx [115, 111, 109, 101, 101, 118, 101, 114], [sgT (.someEver p)]) := by
  exists m_SomeEver_word, bn_SomeEver_word
theorem w1_someEver (mr : FT) (p : Sg) (a b : T) : d_Saying_words_1 mr [sgT (.someEver p), a, b] = some (tx [115, 111, 109, 101, 101, 118, 101, 114], [sgT (.someEver p), a, b]) := by
  have hc := wm_someEver p
  rw [wsh_someEver] at hc ⊢
  exists d_Saying_words_1, isIns_nd, List.all_nil, List.all_cons, hc, ne_SomeEver_All, ne_SomeEver_Both, ne_SomeEver_EachAlways, ne_SomeEver_EachEver, ne_SomeEver_EachNext, ne_SomeEver_EachTill, ne_SomeEver_Either, ne_SomeEver_Mark, ne_SomeEver_Not, ne_SomeEver_SomeAlways, ne_SomeEver_SomeNext, ne_SomeEver_SomeTill, ne_part_word
theorem wp_someEver (p : Sg) : oA_part (sgT (.someEver p)) = some (sgT p) := by
  exists oA_part, sgT, oFld_nd, getF_cons, ne_SomeEver_All, ne_SomeEver_Both, ne_SomeEver_EachAlways, ne_SomeEver_EachEver, ne_SomeEver_EachNext, ne_SomeEver_EachTill, ne_SomeEver_Either, ne_SomeEver_Mark, ne_SomeEver_Not, ne_SomeEver_SomeAlways, ne_SomeEver_SomeNext, ne_SomeEver_SomeTill
theorem wi_someEver (p : Sg) : m_Single_inside [sgT (.someEver p)] = some (.nd true .lst [sgT p], [sgT (.someEver p)]) := by
  exists m_Single_inside, bn_Single_inside, wp_someEver
theorem w3_someEver (mr : FT) (p : Sg) (a b : T) : d_Saying_words_3 mr [sgT (.someEver p), a, b] = some (.nd true .lst [sgT p], [.no, a, b]) := by
  have hc := wi_someEver p
  rw [wsh_someEver] at hc ⊢
  exists d_Saying_words_3, isIns_nd, List.all_nil, List.all_cons, hc, ne_SomeEver_All, ne_SomeEver_Both, ne_SomeEver_EachAlways, ne_SomeEver_EachEver, ne_SomeEver_EachNext, ne_SomeEver_EachTill, ne_SomeEver_Either, ne_SomeEver_Mark, ne_SomeEver_Not, ne_SomeEver_SomeAlways, ne_SomeEver_SomeNext, ne_SomeEver_SomeTill, ne_part_inside
theorem w2_someEver (mr : FT) (p : Sg) (a b t x : T) (h : mr [sgT (.someEver p)] = some (t, [x])) : d_Saying_words_2 mr [a, b, sgT (.someEver p)] = some (t, [a, b, .no]) := by
  rw [wsh_someEver] at h ⊢
  exists d_Saying_words_2, isIns_nd, List.all_nil, List.all_cons, h, ne_SomeEver_All, ne_SomeEver_Both, ne_SomeEver_EachAlways, ne_SomeEver_EachEver, ne_SomeEver_EachNext, ne_SomeEver_EachTill, ne_SomeEver_Either, ne_SomeEver_Mark, ne_SomeEver_Not, ne_SomeEver_SomeAlways, ne_SomeEver_SomeNext, ne_SomeEver_SomeTill, ne_part_words
theorem wsh_someNext (p : Sg) : sgT (.someNext p) = .nd false (.ins "SomeNext" ["part"]) [sgT p] := rfl
theorem wm_someNext (p : Sg) : m_SomeNext_word [sgT (.someNext p)] = some (tx [115, 111, 109, 101, 110, 101, 120, 116], [sgT (.someNext p)]) := by
  exists m_SomeNext_word, bn_SomeNext_word
theorem w1_someNext (mr : FT) (p : Sg) (a b : T) : d_Saying_words_1 mr [sgT (.someNext p), a, b] = some (tx [115, 111, 109, 101, 110, 101, 120, 116], [sgT (.someNext p), a, b]) := by
  have hc := wm_someNext p
  rw [wsh_someNext] at hc ⊢
  exists d_Saying_words_1, isIns_nd, List.all_nil, List.all_cons, hc, ne_SomeNext_All, ne_SomeNext_Both, ne_SomeNext_EachAlways, ne_SomeNext_EachEver, ne_SomeNext_EachNext, ne_SomeNext_EachTill, ne_SomeNext_Either, ne_SomeNext_Mark, ne_SomeNext_Not, ne_SomeNext_SomeAlways, ne_SomeNext_SomeEver, ne_SomeNext_SomeTill, ne_part_word
theorem wp_someNext (p : Sg) : oA_part (sgT (.someNext p)) = some (sgT p) := by
  exists oA_part, sgT, oFld_nd, getF_cons, ne_SomeNext_All, ne_SomeNext_Both, ne_SomeNext_EachAlways, ne_SomeNext_EachEver, ne_SomeNext_EachNext, ne_SomeNext_EachTill, ne_SomeNext_Either, ne_SomeNext_Mark, ne_SomeNext_Not, ne_SomeNext_SomeAlways, ne_SomeNext_SomeEver, ne_SomeNext_SomeTill
theorem wi_someNext (p : Sg) : m_Single_inside [sgT (.someNext p)] = some (.nd true .lst [sgT p], [sgT (.someNext p)]) := by
  exists m_Single_inside, bn_Single_inside, wp_someNext
theorem w3_someNext (mr : FT) (p : Sg) (a b : T) : d_Saying_words_3 mr [sgT (.someNext p), a, b] = some (.nd true .lst [sgT p], [.no, a, b]) := by
  have hc := wi_someNext p
  rw [wsh_someNext] at hc ⊢
  exists d_Saying_words_3, isIns_nd, List.all_nil, List.all_cons, hc, ne_SomeNext_All, ne_SomeNext_Both, ne_SomeNext_EachAlways, ne_SomeNext_EachEver, ne_SomeNext_EachNext, ne_SomeNext_EachTill, ne_SomeNext_Either, ne_SomeNext_Mark, ne_SomeNext_Not, ne_SomeNext_SomeAlways, ne_SomeNext_SomeEver, ne_SomeNext_SomeTill, ne_part_inside
theorem w2_someNext (mr : FT) (p : Sg) (a b t x : T) (h : mr [sgT (.someNext p)] = some (t, [x])) : d_Saying_words_2 mr [a, b, sgT (.someNext p)] = some (t, [a, b, .no]) := by
  rw [wsh_someNext] at h ⊢
  exists d_Saying_words_2, isIns_nd, List.all_nil, List.all_cons, h, ne_SomeNext_All, ne_SomeNext_Both, ne_SomeNext_EachAlways, ne_SomeNext_EachEver, ne_SomeNext_EachNext, ne_SomeNext_EachTill, ne_SomeNext_Either, ne_SomeNext_Mark, ne_SomeNext_Not, ne_SomeNext_SomeAlways, ne_SomeNext_SomeEver, ne_SomeNext_SomeTill, ne_part_words
theorem wsh_someTill (l r : Sg) : sgT (.someTill l r) = .nd false (.ins "SomeTill" ["left", "right"]) [sgT l, sgT r] := rfl
theorem wm_someTill (l r : Sg) : m_SomeTill_word [sgT (.someTill l r)] = some (tx [115, 111, 109, 101, 116, 105, 108, 108], [sgT (.someTill l r)]) := by
  exists m_SomeTill_word, bn_SomeTill_word
theorem w1_someTill (mr : FT) (l r : Sg) (a b : T) : d_Saying_words_1 mr [sgT (.someTill l r), a, b] = some (tx [115, 111, 109, 101, 116, 105, 108, 108], [sgT (.someTill l r), a, b]) := by
  have hc := wm_someTill l r
  rw [wsh_someTill] at hc ⊢
  exists d_Saying_words_1, isIns_nd, List.all_nil, List.all_cons, hc, ne_SomeTill_All, ne_SomeTill_Both, ne_SomeTill_EachAlways, ne_SomeTill_EachEver, ne_SomeTill_EachNext, ne_SomeTill_EachTill, ne_SomeTill_Either, ne_SomeTill_Mark, ne_SomeTill_Not, ne_SomeTill_SomeAlways, ne_SomeTill_SomeEver, ne_SomeTill_SomeNext, ne_left_word, ne_right_word
theorem wla_someTill (l r : Sg) : oA_left (sgT (.someTill l r)) = some (sgT l) := by
  exists oA_left, sgT, oFld_nd, getF_cons, ne_left_right, ne_SomeTill_All, ne_SomeTill_Both, ne_SomeTill_EachAlways, ne_SomeTill_EachEver, ne_SomeTill_EachNext, ne_SomeTill_EachTill, ne_SomeTill_Either, ne_SomeTill_Mark, ne_SomeTill_Not, ne_SomeTill_SomeAlways, ne_SomeTill_SomeEver, ne_SomeTill_SomeNext
theorem wra_someTill (l r : Sg) : oA_right (sgT (.someTill l r)) = some (sgT r) := by
  exists oA_right, sgT, oFld_nd, getF_cons, ne_left_right, ne_SomeTill_All, ne_SomeTill_Both, ne_SomeTill_EachAlways, ne_SomeTill_EachEver, ne_SomeTill_EachNext, ne_SomeTill_EachTill, ne_SomeTill_Either, ne_SomeTill_Mark, ne_SomeTill_Not, ne_SomeTill_SomeAlways, ne_SomeTill_SomeEver, ne_SomeTill_SomeNext
theorem wi_someTill (l r : Sg) : m_Double_inside [sgT (.someTill l r)] = some (.nd true .lst [sgT l, sgT r], [sgT (.someTill l r)]) := by
  exists m_Double_inside, bn_Double_inside, wla_someTill, wra_someTill
theorem w3_someTill (mr : FT) (l r : Sg) (a b : T) : d_Saying_words_3 mr [sgT (.someTill l r), a, b] = some (.nd true .lst [sgT l, sgT r], [.no, a, b]) := by
  have hc := wi_someTill l r
  rw [wsh_someTill] at hc ⊢
  exists d_Saying_words_3, isIns_nd, List.all_nil, List.all_cons, hc, ne_SomeTill_All, ne_SomeTill_Both, ne_SomeTill_EachAlways, ne_SomeTill_EachEver, ne_SomeTill_EachNext, ne_SomeTill_EachTill, ne_SomeTill_Either, ne_SomeTill_Mark, ne_SomeTill_Not, ne_SomeTill_SomeAlways, ne_SomeTill_SomeEver, ne_SomeTill_SomeNext, ne_left_inside, ne_right_inside
theorem w2_someTill (mr : FT) (l r : Sg) (a b t x : T) (h : mr [sgT (.someTill l r)] = some (t, [x])) : d_Saying_words_2 mr [a, b, sgT (.someTill l r)] = some (t, [a, b, .no]) := by
  rw [wsh_someTill] at h ⊢
  exists d_Saying_words_2, isIns_nd, List.all_nil, List.all_cons, h, ne_SomeTill_All, ne_SomeTill_Both, ne_SomeTill_EachAlways, ne_SomeTill_EachEver, ne_SomeTill_EachNext, ne_SomeTill_EachTill, ne_SomeTill_Either, ne_SomeTill_Mark, ne_SomeTill_Not, ne_SomeTill_SomeAlways, ne_SomeTill_SomeEver, ne_SomeTill_SomeNext, ne_left_words, ne_right_words
theorem w2 (mr : FT) (a b t x : T) : ∀ s : Sg, mr [sgT s] = some (t, [x]) → d_Saying_words_2 mr [a, b, sgT s] = some (t, [a, b, .no])
  | .all, h => w2_all mr a b t x h
  | .both l r, h => w2_both mr l r a b t x h
  | .eachAlways p, h => w2_eachAlways mr p a b t x h
  | .eachEver p, h => w2_eachEver mr p a b t x h
  | .eachNext p, h => w2_eachNext mr p a b t x h
  | .eachTill l r, h => w2_eachTill mr l r a b t x h
  | .either l r, h => w2_either mr l r a b t x h
  | .mark w, h => w2_mark mr w a b t x h
  | .not p, h => w2_not mr p a b t x h
  | .someAlways p, h => w2_someAlways mr p a b t x h
  | .someEver p, h => w2_someEver mr p a b t x h
  | .someNext p, h => w2_someNext mr p a b t x h
  | .someTill l r, h => w2_someTill mr l r a b t x h
theorem words_ok : ∀ (k : Nat) (s : Sg), dep s < k → sz s ≤ 900 → m_Saying_words k [sgT s] = some (NL true (wds s), [.no])
  | 0, s, h, _ => absurd h (Nat.not_lt_zero _)
  | k + 1, .all, h, hz => by
    have h1 := w1_all (m_Saying_words k) .no .no
    have h3 := fun A => w3_all (m_Saying_words k) A .no
    exists ms_Saying_words, bn_Saying_words, h1, h3, nl1, ok_NL, List.map_nil
    rfl
  | k + 1, .both l r, h, hz => by
    simp only [sz, dep] at hz h
    have h1 := w1_both (m_Saying_words k) l r .no .no
    have h3 := fun A => w3_both (m_Saying_words k) l r A .no
    have q1 := fun A => w2 (m_Saying_words k) .no A _ _ l (words_ok k l (by omega) (by omega))
    have q2 := fun A => w2 (m_Saying_words k) .no A _ _ r (words_ok k r (by omega) (by omega))
    have ll := wds_len l
    have lr := wds_len r
    have ex1 := ext_NL [[98, 111, 116, 104]] (wds l) true (by simp only [List.length_cons, List.length_nil]; omega)
    have ex2 := ext_NL ([[98, 111, 116, 104]] ++ wds l) (wds r) true (by simp only [List.length_append, List.length_cons, List.length_nil]; omega)
    rw [show ([[98, 111, 116, 104]] ++ wds l : List (List Nat)) = [98, 111, 116, 104] :: wds l from rfl] at ex1 ex2
    have fl := frz_sg l
    have fr := frz_sg r
    exists ms_Saying_words, bn_Saying_words, h1, h3, nl1, ok_NL, ty_NL, it_nd, frzs_cons, frzs_nil, fl, fr, l_Saying_words_1, q1, q2, ex1, ex2
    rfl
  | k + 1, .eachAlways p, h, hz => by
    simp only [sz, dep] at hz h
    have h1 := w1_eachAlways (m_Saying_words k) p .no .no
    have h3 := fun A => w3_eachAlways (m_Saying_words k) p A .no
    have q := fun A => w2 (m_Saying_words k) .no A _ _ p (words_ok k p (by omega) (by omega))
    have lp := wds_len p
    have ex := ext_NL [[101, 97, 99, 104, 97, 108, 119, 97, 121, 115]] (wds p) true (by simp only [List.length_cons, List.length_nil]; omega)
    have fp := frz_sg p
    exists ms_Saying_words, bn_Saying_words, h1, h3, nl1, ok_NL, ty_NL, it_nd, frzs_cons, frzs_nil, fp, l_Saying_words_1, q, ex
    rfl
  | k + 1, .eachEver p, h, hz => by
    simp only [sz, dep] at hz h
    have h1 := w1_eachEver (m_Saying_words k) p .no .no
    have h3 := fun A => w3_eachEver (m_Saying_words k) p A .no
    have q := fun A => w2 (m_Saying_words k) .no A _ _ p (words_ok k p (by omega) (by omega))
    have lp := wds_len p
    have ex := ext_NL [[101, 97, 99, 104, 101, 118, 101, 114]] (wds p) true (by simp only [List.length_cons, List.length_nil]; omega)
    have fp := frz_sg p
    exists ms_Saying_words, bn_Saying_words, h1, h3, nl1, ok_NL, ty_NL, it_nd, frzs_cons, frzs_nil, fp, l_Saying_words_1, q, ex
    rfl
  | k + 1, .eachNext p, h, hz => by
    simp only [sz, dep] at hz h
    have h1 := w1_eachNext (m_Saying_words k) p .no .no
    have h3 := fun A => w3_eachNext (m_Saying_words k) p A .no
    have q := fun A => w2 (m_Saying_words k) .no A _ _ p (words_ok k p (by omega) (by omega))
    have lp := wds_len p
    have ex := ext_NL [[101, 97, 99, 104, 110, 101, 120, 116]] (wds p) true (by simp only [List.length_cons, List.length_nil]; omega)
    have fp := frz_sg p
    exists ms_Saying_words, bn_Saying_words, h1, h3, nl1, ok_NL, ty_NL, it_nd, frzs_cons, frzs_nil, fp, l_Saying_words_1, q, ex
    rfl
  | k + 1, .eachTill l r, h, hz => by
    simp only [sz, dep] at hz h
    have h1 := w1_eachTill (m_Saying_words k) l r .no .no
    have h3 := fun A => w3_eachTill (m_Saying_words k) l r A .no
    have q1 := fun A => w2 (m_Saying_words k) .no A _ _ l (words_ok k l (by omega) (by omega))
    have q2 := fun A => w2 (m_Saying_words k) .no A _ _ r (words_ok k r (by omega) (by omega))
    have ll := wds_len l
    have lr := wds_len r
    have ex1 := ext_NL [[101, 97, 99, 104, 116, 105, 108, 108]] (wds l) true (by simp only [List.length_cons, List.length_nil]; omega)
    have ex2 := ext_NL ([[101, 97, 99, 104, 116, 105, 108, 108]] ++ wds l) (wds r) true (by simp only [List.length_append, List.length_cons, List.length_nil]; omega)
    rw [show ([[101, 97, 99, 104, 116, 105, 108, 108]] ++ wds l : List (List Nat)) = [101, 97, 99, 104, 116, 105, 108, 108] :: wds l from rfl] at ex1 ex2
    have fl := frz_sg l
    have fr := frz_sg r
    exists ms_Saying_words, bn_Saying_words, h1, h3, nl1, ok_NL, ty_NL, it_nd, frzs_cons, frzs_nil, fl, fr, l_Saying_words_1, q1, q2, ex1, ex2
    rfl
  | k + 1, .either l r, h, hz => by
    simp only [sz, dep] at hz h
    have h1 := w1_either (m_Saying_words k) l r .no .no
    have h3 := fun A => w3_either (m_Saying_words k) l r A .no
    have q1 := fun A => w2 (m_Saying_words k) .no A _ _ l (words_ok k l (by omega) (by omega))
    have q2 := fun A => w2 (m_Saying_words k) .no A _ _ r (words_ok k r (by omega) (by omega))
    have ll := wds_len l
    have lr := wds_len r
    have ex1 := ext_NL [[101, 105, 116, 104, 101, 114]] (wds l) true (by simp only [List.length_cons, List.length_nil]; omega)
    have ex2 := ext_NL ([[101, 105, 116, 104, 101, 114]] ++ wds l) (wds r) true (by simp only [List.length_append, List.length_cons, List.length_nil]; omega)
    rw [show ([[101, 105, 116, 104, 101, 114]] ++ wds l : List (List Nat)) = [101, 105, 116, 104, 101, 114] :: wds l from rfl] at ex1 ex2
    have fl := frz_sg l
    have fr := frz_sg r
    exists ms_Saying_words, bn_Saying_words, h1, h3, nl1, ok_NL, ty_NL, it_nd, frzs_cons, frzs_nil, fl, fr, l_Saying_words_1, q1, q2, ex1, ex2
    rfl
  | k + 1, .mark w, h, hz => by
    have h1 := w1_mark (m_Saying_words k) w .no .no
    have h3 := fun A => w3_mark (m_Saying_words k) w A .no
    exists ms_Saying_words, bn_Saying_words, h1, h3, nl1, ok_NL, List.map_nil
    rfl
  | k + 1, .not p, h, hz => by
    simp only [sz, dep] at hz h
    have h1 := w1_not (m_Saying_words k) p .no .no
    have h3 := fun A => w3_not (m_Saying_words k) p A .no
    have q := fun A => w2 (m_Saying_words k) .no A _ _ p (words_ok k p (by omega) (by omega))
    have lp := wds_len p
    have ex := ext_NL [[110, 111, 116]] (wds p) true (by simp only [List.length_cons, List.length_nil]; omega)
    have fp := frz_sg p
    exists ms_Saying_words, bn_Saying_words, h1, h3, nl1, ok_NL, ty_NL, it_nd, frzs_cons, frzs_nil, fp, l_Saying_words_1, q, ex
    rfl
  | k + 1, .someAlways p, h, hz => by
    simp only [sz, dep] at hz h
    have h1 := w1_someAlways (m_Saying_words k) p .no .no
    have h3 := fun A => w3_someAlways (m_Saying_words k) p A .no
    have q := fun A => w2 (m_Saying_words k) .no A _ _ p (words_ok k p (by omega) (by omega))
    have lp := wds_len p
    have ex := ext_NL [[115, 111, 109, 101, 97, 108, 119, 97, 121, 115]] (wds p) true (by simp only [List.length_cons, List.length_nil]; omega)
    have fp := frz_sg p
    exists ms_Saying_words, bn_Saying_words, h1, h3, nl1, ok_NL, ty_NL, it_nd, frzs_cons, frzs_nil, fp, l_Saying_words_1, q, ex
    rfl
  | k + 1, .someEver p, h, hz => by
    simp only [sz, dep] at hz h
    have h1 := w1_someEver (m_Saying_words k) p .no .no
    have h3 := fun A => w3_someEver (m_Saying_words k) p A .no
    have q := fun A => w2 (m_Saying_words k) .no A _ _ p (words_ok k p (by omega) (by omega))
    have lp := wds_len p
    have ex := ext_NL [[115, 111, 109, 101, 101, 118, 101, 114]] (wds p) true (by simp only [List.length_cons, List.length_nil]; omega)
    have fp := frz_sg p
    exists ms_Saying_words, bn_Saying_words, h1, h3, nl1, ok_NL, ty_NL, it_nd, frzs_cons, frzs_nil, fp, l_Saying_words_1, q, ex
    rfl
  | k + 1, .someNext p, h, hz => by
    simp only [sz, dep] at hz h
    have h1 := w1_someNext (m_Saying_words k) p .no .no
    have h3 := fun A => w3_someNext (m_Saying_words k) p A .no
    have q := fun A => w2 (m_Saying_words k) .no A _ _ p (words_ok k p (by omega) (by omega))
    have lp := wds_len p
    have ex := ext_NL [[115, 111, 109, 101, 110, 101, 120, 116]] (wds p) true (by simp only [List.length_cons, List.length_nil]; omega)
    have fp := frz_sg p
    exists ms_Saying_words, bn_Saying_words, h1, h3, nl1, ok_NL, ty_NL, it_nd, frzs_cons, frzs_nil, fp, l_Saying_words_1, q, ex
    rfl
  | k + 1, .someTill l r, h, hz => by
    simp only [sz, dep] at hz h
    have h1 := w1_someTill (m_Saying_words k) l r .no .no
    have h3 := fun A => w3_someTill (m_Saying_words k) l r A .no
    have q1 := fun A => w2 (m_Saying_words k) .no A _ _ l (words_ok k l (by omega) (by omega))
    have q2 := fun A => w2 (m_Saying_words k) .no A _ _ r (words_ok k r (by omega) (by omega))
    have ll := wds_len l
    have lr := wds_len r
    have ex1 := ext_NL [[115, 111, 109, 101, 116, 105, 108, 108]] (wds l) true (by simp only [List.length_cons, List.length_nil]; omega)
    have ex2 := ext_NL ([[115, 111, 109, 101, 116, 105, 108, 108]] ++ wds l) (wds r) true (by simp only [List.length_append, List.length_cons, List.length_nil]; omega)
    rw [show ([[115, 111, 109, 101, 116, 105, 108, 108]] ++ wds l : List (List Nat)) = [115, 111, 109, 101, 116, 105, 108, 108] :: wds l from rfl] at ex1 ex2
    have fl := frz_sg l
    have fr := frz_sg r
    exists ms_Saying_words, bn_Saying_words, h1, h3, nl1, ok_NL, ty_NL, it_nd, frzs_cons, frzs_nil, fl, fr, l_Saying_words_1, q1, q2, ex1, ex2
    rfl
end Pm


set_option Elab.async false
set_option linter.all false
set_option autoImplicit false
set_option maxRecDepth 100000
set_option maxHeartbeats 4000000
/-! DJ: names drawn with one place that differs (_law_name). -/
namespace Pm
open PySem PySem.Spec PyProof.Rows L2 Tr Wk
local macro_rules | `(tactic| exists $es,*) => do { let ls ← es.getElems.mapM fun e => `(Lean.Parser.Tactic.simpLemma| $e:term); `(tactic| simp -implicitDefEqProofs (disch := (first | assumption | omega | decide | (simp only [List.length_cons, List.length_nil, List.length_append, List.length_map, Tr.rgI_len]; omega) | (simp only [List.length_cons, List.length_nil, List.length_append, List.length_map, Int.toNat_natCast] at *; omega))) only [Tr.okT_lf, Tr.okT_nd, Tr.okT_li, Tr.okT_ll, Tr.okT_dk, Tr.okT_mks, Tr.okT_mk1, Tr.okT_mch, Tr.okT_scr, Tr.okT_tp, Tr.okO_some, Tr.gV_ev, Tr.gC_ev, Tr.gG_ev, Tr.fM_ev, Tr.fS_ev, Tr.gM_ev, Tr.gS_ev, Tr.fP_ev, Tr.fQ_ev, Tr.vr_ev, Tr.fRe_ev, Tr.re_ev, Tr.fO1_ev, Tr.o1V_ev, Tr.o1_ev, Tr.fO2V_ev, Tr.o2V_ev, Tr.fO2v'_ev, Tr.fO2v_ev, Tr.o2v_ev, Tr.fO2o'_ev, Tr.fO2o_ev, Tr.o2o_ev, Tr.fO2c'_ev, Tr.fO2c_ev, Tr.o2c_ev, Tr.fO2n''_ev, Tr.fO2n'_ev, Tr.fO2n_ev, Tr.o2n_ev, Tr.fAnd_ev, Tr.fOr_ev, Tr.dAnd_ev, Tr.dOr_ev, Tr.ite_BB, Tr.ite_decF, Tr.ite_Tdec, Tr.z_cast, Tr.z_ndec, Tr.ite_TF, Tr.ite_FT, Tr.bind_ite, Tr.aNil_ev, Tr.fCons'_ev, Tr.fCons_ev, Tr.aCons_ev, Tr.fCall'_ev, Tr.fCall_ev, Tr.dCall_ev, Tr.wb_nil, Tr.wb_none, Tr.fWb_ev, Tr.wb_some, Tr.fMeth'_ev, Tr.fMeth_ev, Tr.dMeth_ev, Tr.fMake'_ev, Tr.fMake_ev, Tr.dMake_ev, Tr.fSeq_nx, Tr.fSeq_rt, Tr.fSeq_bk, Tr.fSeq_ct, Tr.dSeq_ev, Tr.fIf_ev, Tr.dIf_ev, Tr.fSet_ev, Tr.dSet_ev, Tr.fRet_ev, Tr.dRet_ev, Tr.fEx_ev, Tr.dEx_ev, Tr.dRetN_ev, Tr.dNx_ev, Tr.dBk_ev, Tr.dCt_ev, Tr.dFail_ev, Tr.fPut''_ev, Tr.fPut'_ev, Tr.fPut1_ev, Tr.fPut_ev, Tr.dPut_ev, Tr.fMut3_ev, Tr.fMut2_ev, Tr.fMut1_ev, Tr.fMut_ev, Tr.dMut_ev, Tr.fLst_ev, Tr.fTup_ev, Tr.dLst_ev, Tr.dTup_ev, Tr.dDic_ev, Tr.fBw_ev, Tr.bw_ev, Tr.fFz_ev, Tr.fz_ev, Tr.fAug''_ev, Tr.fAug'_ev, Tr.fAug_ev, Tr.dAug_ev, Tr.z_ex, Tr.z_exT, Tr.fRng_nat, Tr.dRng_ev, Tr.fIt'_ev, Tr.fIt_ev, Tr.dIt_ev, Tr.fFor_ev, Tr.dFor_ev, Tr.gN_ev, Tr.fG_ev, Tr.gT2_ev, Tr.gT2_mk1, Tr.dFr_nil, Tr.turn_ev, Tr.fFr_nx, Tr.fFr_ct, Tr.fFr_bk, Tr.fFr_rt, Tr.dFr_cons, Tr.fLc'_ev, Tr.fLc_ev, Tr.dLc_ev, Tr.dLr_nil, Tr.wipeT_nil, Tr.wipeT_cons, Tr.backT_nil, Tr.backT_cons, Tr.cleanAt_nil, Tr.cleanAt_cons, Tr.fFun_rt, Tr.fFun_nx, Tr.dFun_ev, Tr.outs_cons, Tr.outs_nil, Tr.frzs_nil, Tr.frzs_cons, Tr.z_frz1, Tr.z_frz2, Tr.z_frz3, Tr.z_frz4, Tr.z_frz5, Tr.z_frz6, Tr.z_frz7, Tr.z_frz8, Tr.z_frz9, Tr.z_frz10, Tr.z_frz11, Tr.z_cln1, Tr.z_cln2, Tr.z_cln3, Tr.z_cln4, Tr.z_cln5, Tr.z_cln6, Tr.z_cln7, Tr.z_cln8, Tr.z_cln9, Tr.z_cln10, Tr.z_clns1, Tr.z_clns2, Tr.z_clns3, Tr.z_pure1, Tr.z_pure2, Tr.z_pure3, Tr.z_pure4, Tr.z_pure5, Tr.z_pure6, Tr.z_pure7, Tr.z_lfI, Tr.z_li, Tr.z_add, Tr.z_sub, Tr.z_mulr, Tr.z_mod, Tr.z_div, Tr.z_lt, Tr.z_le, Tr.z_gt, Tr.z_ge, Tr.z_eq, Tr.z_ne, Tr.z_neg, Tr.z_eqli, Tr.z_neli, Tr.z_eqnil, Tr.z_nenil, Tr.z_inli, Tr.z_ninli, Tr.z_indk, Tr.z_nindk, Tr.z_ll, Tr.z_mks, Tr.z_nil, Tr.z_appll, Tr.z_int1, Tr.z_int2, Tr.z_len1, Tr.z_len2, Tr.z_len3, Tr.z_len4, Tr.z_len5, Tr.z_len6, Tr.z_len7, Tr.z_not, Tr.z_isi1, Tr.z_isi2, Tr.z_isi3, Tr.z_isi4, Tr.z_isi5, Tr.z_isi6, Tr.z_list1, Tr.z_sort1, Tr.z_sort2, Tr.z_app1, Tr.z_app2, Tr.z_pop1, Tr.z_clr1, Tr.z_clr2, Tr.z_rev1, Tr.z_ext1, Tr.z_cat1, Tr.z_it1, Tr.z_it2, Tr.z_it3, Tr.z_it4, Tr.z_ty1, Tr.z_ty2, Tr.z_ty3, Tr.z_ty4, Tr.z_fst, Tr.z_fma, Tr.z_ffa, Tr.z_ins1, Tr.z_ins2, Tr.z_ins3, Tr.z_ins4, Tr.z_ins5, Tr.z_ixli, Tr.z_ixll, Tr.z_ixlast, Tr.z_setdk, Tr.fDic1_ev, Tr.fDic1'_ev, Tr.dDic1_ev, Tr.fLRg_nat, Tr.dLRg_ev, Tr.z_len8, Tr.z_bind_some, Tr.z_get0, Tr.z_gets, Tr.z_getD0, Tr.z_getDs, Tr.z_set0, Tr.z_sets, Tr.z_app, Tr.z_nil_app, Tr.z_app_nil, Tr.z_map0, Tr.z_mapc, Tr.z_rep0, Tr.z_reps, Tr.z_lenc, Tr.z_lenn, Tr.z_c0, Tr.z_c1, Tr.z_c2, Tr.z_c3, Tr.z_okoV, Tr.z_okrk, Tr.z_okrl, Tr.z_frzoV, Tr.z_clnoV, Tr.z_pureoV, Tr.z_frzrk, Tr.z_clnrk, Tr.z_frzrl, Tr.z_clnrl, Tr.z_ixrl, Tr.z_lenrl, Tr.z_isirl, Tr.z_tyrl, Tr.z_clrrl, Tr.z_oVs, Tr.z_oVn, Tr.z_rks, Tr.z_rkn, Tr.z_ixt0, Tr.z_ixt1, Tr.z_isN1, Tr.z_isN2, Tr.z_isN3, Tr.z_notN1, Tr.z_notN2, Tr.z_notN3, Tr.z_isN4, Tr.z_notN4, Tr.z_isN5, Tr.z_notN5, Tr.fCh3_ev, Tr.fCh2_ev, Tr.fCh1_ev, Tr.z_ch, Tr.z_okdls, Tr.z_frzdls, Tr.z_clndls, Tr.z_ixdls, Tr.z_indls, Tr.z_okdds, Tr.z_frzdds, Tr.z_clndds, Tr.z_ixdds, Tr.fAsg'_ev, Tr.fAsg_ev, Tr.dAsg_ev, Tr.fBwS_ev, Tr.bwS_ev, Tr.fPt_ev, Tr.ptT_no, Tr.ptT_so, Tr.fSl2_ev, Tr.fSl1_ev, Tr.fSl_ev, Tr.dSl_ev, Tr.z_slli, Tr.z_cutTail, Tr.z_cutInit, Tr.z_okst, Tr.z_frzst, Tr.z_clnst, Tr.z_purest, Tr.z_addst, Tr.z_lenst, Tr.z_inst1, Tr.z_ninst1, Tr.z_ixst, Tr.eqL_self, Tr.eqL_nn, Tr.eqL_nc, Tr.eqL_cn, Tr.eqL_cc, Tr.z_eqst, Tr.z_nest, Tr.z_insl, Tr.z_ninsl, Tr.z_sq1, Tr.z_sq2, Tr.z_sq3, Tr.z_itst, Tr.z_isist, Tr.z_slst, Tr.z_cutOne, Tr.lit_all, Tr.lit_not, Tr.lit_both, Tr.lit_either, Tr.lit_somenext, Tr.lit_eachnext, Tr.lit_sometill, Tr.lit_eachtill, Tr.lit_someever, Tr.lit_eachever, Tr.lit_somealways, Tr.lit_eachalways, Tr.lit_mark, Tr.lit_loop, Tr.lit_rank, Tr.lit_walk, Tr.lit_shut, Tr.lit_out, Tr.lit_here, Tr.lit_dead, Tr.lit_plain, Tr.lit_step, Tr.lit_none, Tr.lit_fair, Tr.lit_answer, Tr.lit_p, Tr.lit_wet, Tr.lit_darkness, Tr.lit_x, Tr.lit_q, Tr.lit_empty, Tr.lit_in, Tr.lit_letters, Tr.z_kept, Tr.z_catX12, Tr.z_catT12, Tr.z_ixt2, Tr.z_frzsg, Tr.z_clnsg, Tr.z_oksg, Tr.z_oktl, Tr.z_frztl, Tr.z_clntl, Tr.z_insT_told, Tr.z_insT_joint, Tr.z_insT_over_walks, Tr.z_insT_contrary, Tr.z_insT_good, Tr.z_insT_some_next, Tr.z_insT_some_till, Tr.z_insT_each_till, Tr.z_fldT_machine, Tr.z_fldT_every, Tr.z_fldT_live, Tr.fEls_s, Tr.fEls_n, Tr.elsE_ev, Tr.fOO_s, Tr.fOO_n, Tr.oOr_ev, Tr.fMO_s, Tr.fMO_n, Tr.mOr_ev, Tr.oIs1_nd, Tr.dNew_ev, Tr.fFzk_ev, Tr.fzk_ev, Tr.fDfz_ev, Tr.dfz_ev, Tr.z_eqbl, Tr.z_nebl, Tr.z_beqtt, Tr.z_beqff, Tr.z_beqtf, Tr.z_beqft, Tr.z_isNll, Tr.z_isNli, Tr.z_catnd, Tr.dZip_ev, Tr.fZip_ev, Tr.fForZ_ev, Tr.fForZ1_ev, Tr.fForZ2_ev, Tr.dForZ_ev, Tr.fFzS_ev, Tr.fzS_ev, Tr.fRevR_nat, Tr.dRevR_ev, Tr.f3V2_ev, Tr.f3V1_ev, Tr.o3V_ev, Tr.fGetE2_ev, Tr.fGetE1_ev, Tr.dGetE_ev, Tr.z_sllo, Tr.dDisp_ev, Tr.fPutP4_ev, Tr.fPutP3_ev, Tr.fPutP2_ev, Tr.fPutP1_ev, Tr.dPutP_ev, Tr.dpV_ev, Tr.fDpV_ev, Tr.fJoin2_ev, Tr.fJoin1_ev, Tr.dJoin_ev, Tr.fTupO_ev, Tr.dTupO_ev, Tr.fLkK1_ev, Tr.lkK_ev, ↓reduceIte, ite_true, ite_false, Nat.reduceAdd, Nat.reduceSub, Nat.reduceLT, Nat.reduceLeDiff, Nat.zero_add, Nat.lt_add_one, Nat.zero_lt_succ, decide_true, decide_false, decide_eq_true_eq, decide_eq_false_iff_not, Bool.not_eq_true, Bool.not_eq_false, Bool.not_true, Bool.not_false, Bool.not_eq_true', Bool.and_true, Bool.true_and, Bool.and_self, Bool.and_eq_true, Bool.or_eq_true, not_true_eq_false, not_false_eq_true, eq_self, and_self, and_true, true_and, false_and, and_false, or_true, true_or, or_false, false_or, reduceCtorEq, Bool.false_eq_true, Int.toNat_natCast, Int.reduceToNat, Int.reduceEq, Int.reduceLT, Int.reduceLE, Int.reduceNeg, Int.reduceAdd, Int.reduceSub, Int.reduceMul, List.length_map, Bool.not_not, Bool.not_eq_eq_eq_not, Decidable.not_not, Nat.reduceEqDiff, Bool.false_and, Bool.and_false, Option.isSome_some, Option.isSome_none, Option.isNone_some, Option.isNone_none, $ls,*]) }

theorem abc_at (i : Int) (h0 : 0 ≤ i) (h : i < 26) : oIx (tx ABC) (.lf (.int i)) = some (tx [ABC.getD i.toNat 0]) := z_ixst ABC i (by decide) h0 (by show i.toNat < 26; omega)
theorem abc_lt (i : Nat) (h : i < 26) : ABC.getD i 0 < 1114112 := by
  have : ∀ j < 26, ABC.getD j 0 < 1114112 := by decide
  exact this i h
theorem join_rep (o : Bool) (n : Nat) (b : Nat) (h : n ≤ 900) : oJoin ⟨([] : List Nat).toArray⟩ (.nd o .lst ((List.replicate n [b]).map tx)) = some (tx (List.replicate n b)) := by
  rw [z_join o (List.replicate n [b]) (by simp; omega)]
  congr 2
  induction n with
  | zero => rfl
  | succ n ih => rw [List.replicate_succ, List.flatten_cons, ih (by omega), List.replicate_succ]; rfl
theorem okc_rep (n b : Nat) (h : b < 1114112) : Okc (List.replicate n b) = true := by
  unfold Okc
  rw [List.all_eq_true]
  intro c hc
  rw [(List.mem_replicate.mp hc).2]
  exact decide_eq_true h
theorem okc_app {a b : List Nat} (ha : Okc a = true) (hb : Okc b = true) : Okc (a ++ b) = true := by
  unfold Okc at *
  rw [List.all_append, ha, hb]; rfl
end Pm


set_option Elab.async false
set_option linter.all false
set_option autoImplicit false
set_option maxRecDepth 100000
set_option maxHeartbeats 4000000
/-! DM0: the script turned. -/
namespace Pm
open PySem PySem.Spec PyProof.Rows L2 Tr

theorem cut_len {α : Type} (R : List α) (l u : Option Int) : (cutT R l u).length ≤ R.length := by
  unfold cutT
  rw [List.length_take, List.length_drop]
  omega
theorem sl60 (ns : List Int) : oSlL none (some 60) (scrT ns) = some (li true (ns.take 60)) := by
  have e : cutT ns none (some 60) = ns.take 60 := by
    unfold cutT
    rw [HT.sIx_none, show HT.sIx ns.length ns.length (some 60) = min 60 ns.length from HT.sIx_nat _ _ 60, Nat.sub_zero, List.drop_zero, List.take_eq_take_iff]
    omega
  show (if clns (ns.map lfI) = true then some (T.nd true .lst (cutT (ns.map lfI) none (some 60))) else none) = _
  rw [clns_ints, cutT_map, e]; rfl
theorem it_rev (o : Bool) (xs : List Int) : itemsR (li o xs) = some (xs.reverse.map lfI) := by
  unfold itemsR
  rw [items_li, Option.map_some, List.map_reverse]
end Pm


set_option Elab.async false
set_option linter.all false
set_option autoImplicit false
set_option maxRecDepth 100000
set_option maxHeartbeats 4000000
namespace Ma
open PySem PySem.Spec PyProof.Rows L2 Tr Wk Pm
local macro_rules | `(tactic| exists $es,*) => do { let ls ← es.getElems.mapM fun e => `(Lean.Parser.Tactic.simpLemma| $e:term); `(tactic| simp -implicitDefEqProofs (disch := (first | assumption | omega | decide | (simp only [List.length_cons, List.length_nil, List.length_append, List.length_map, Tr.rgI_len]; omega) | (simp only [List.length_cons, List.length_nil, List.length_append, List.length_map, Int.toNat_natCast] at *; omega))) only [Tr.okT_lf, Tr.okT_nd, Tr.okT_li, Tr.okT_ll, Tr.okT_dk, Tr.okT_mks, Tr.okT_mk1, Tr.okT_mch, Tr.okT_scr, Tr.okT_tp, Tr.okO_some, Tr.gV_ev, Tr.gC_ev, Tr.gG_ev, Tr.fM_ev, Tr.fS_ev, Tr.gM_ev, Tr.gS_ev, Tr.fP_ev, Tr.fQ_ev, Tr.vr_ev, Tr.fRe_ev, Tr.re_ev, Tr.fO1_ev, Tr.o1V_ev, Tr.o1_ev, Tr.fO2V_ev, Tr.o2V_ev, Tr.fO2v'_ev, Tr.fO2v_ev, Tr.o2v_ev, Tr.fO2o'_ev, Tr.fO2o_ev, Tr.o2o_ev, Tr.fO2c'_ev, Tr.fO2c_ev, Tr.o2c_ev, Tr.fO2n''_ev, Tr.fO2n'_ev, Tr.fO2n_ev, Tr.o2n_ev, Tr.fAnd_ev, Tr.fOr_ev, Tr.dAnd_ev, Tr.dOr_ev, Tr.ite_BB, Tr.ite_decF, Tr.ite_Tdec, Tr.z_cast, Tr.z_ndec, Tr.ite_TF, Tr.ite_FT, Tr.bind_ite, Tr.aNil_ev, Tr.fCons'_ev, Tr.fCons_ev, Tr.aCons_ev, Tr.fCall'_ev, Tr.fCall_ev, Tr.dCall_ev, Tr.wb_nil, Tr.wb_none, Tr.fWb_ev, Tr.wb_some, Tr.fMeth'_ev, Tr.fMeth_ev, Tr.dMeth_ev, Tr.fMake'_ev, Tr.fMake_ev, Tr.dMake_ev, Tr.fSeq_nx, Tr.fSeq_rt, Tr.fSeq_bk, Tr.fSeq_ct, Tr.dSeq_ev, Tr.fIf_ev, Tr.dIf_ev, Tr.fSet_ev, Tr.dSet_ev, Tr.fRet_ev, Tr.dRet_ev, Tr.fEx_ev, Tr.dEx_ev, Tr.dRetN_ev, Tr.dNx_ev, Tr.dBk_ev, Tr.dCt_ev, Tr.dFail_ev, Tr.fPut''_ev, Tr.fPut'_ev, Tr.fPut1_ev, Tr.fPut_ev, Tr.dPut_ev, Tr.fMut3_ev, Tr.fMut2_ev, Tr.fMut1_ev, Tr.fMut_ev, Tr.dMut_ev, Tr.fLst_ev, Tr.fTup_ev, Tr.dLst_ev, Tr.dTup_ev, Tr.dDic_ev, Tr.fBw_ev, Tr.bw_ev, Tr.fFz_ev, Tr.fz_ev, Tr.fAug''_ev, Tr.fAug'_ev, Tr.fAug_ev, Tr.dAug_ev, Tr.z_ex, Tr.z_exT, Tr.fRng_nat, Tr.dRng_ev, Tr.fIt'_ev, Tr.fIt_ev, Tr.dIt_ev, Tr.fFor_ev, Tr.dFor_ev, Tr.gN_ev, Tr.fG_ev, Tr.gT2_ev, Tr.gT2_mk1, Tr.dFr_nil, Tr.turn_ev, Tr.fFr_nx, Tr.fFr_ct, Tr.fFr_bk, Tr.fFr_rt, Tr.dFr_cons, Tr.fLc'_ev, Tr.fLc_ev, Tr.dLc_ev, Tr.dLr_nil, Tr.wipeT_nil, Tr.wipeT_cons, Tr.backT_nil, Tr.backT_cons, Tr.cleanAt_nil, Tr.cleanAt_cons, Tr.fFun_rt, Tr.fFun_nx, Tr.dFun_ev, Tr.outs_cons, Tr.outs_nil, Tr.frzs_nil, Tr.frzs_cons, Tr.z_frz1, Tr.z_frz2, Tr.z_frz3, Tr.z_frz4, Tr.z_frz5, Tr.z_frz6, Tr.z_frz7, Tr.z_frz8, Tr.z_frz9, Tr.z_frz10, Tr.z_frz11, Tr.z_cln1, Tr.z_cln2, Tr.z_cln3, Tr.z_cln4, Tr.z_cln5, Tr.z_cln6, Tr.z_cln7, Tr.z_cln8, Tr.z_cln9, Tr.z_cln10, Tr.z_clns1, Tr.z_clns2, Tr.z_clns3, Tr.z_pure1, Tr.z_pure2, Tr.z_pure3, Tr.z_pure4, Tr.z_pure5, Tr.z_pure6, Tr.z_pure7, Tr.z_lfI, Tr.z_li, Tr.z_add, Tr.z_sub, Tr.z_mulr, Tr.z_mod, Tr.z_div, Tr.z_lt, Tr.z_le, Tr.z_gt, Tr.z_ge, Tr.z_eq, Tr.z_ne, Tr.z_neg, Tr.z_eqli, Tr.z_neli, Tr.z_eqnil, Tr.z_nenil, Tr.z_inli, Tr.z_ninli, Tr.z_indk, Tr.z_nindk, Tr.z_ll, Tr.z_mks, Tr.z_nil, Tr.z_appll, Tr.z_int1, Tr.z_int2, Tr.z_len1, Tr.z_len2, Tr.z_len3, Tr.z_len4, Tr.z_len5, Tr.z_len6, Tr.z_len7, Tr.z_not, Tr.z_isi1, Tr.z_isi2, Tr.z_isi3, Tr.z_isi4, Tr.z_isi5, Tr.z_isi6, Tr.z_list1, Tr.z_sort1, Tr.z_sort2, Tr.z_app1, Tr.z_app2, Tr.z_pop1, Tr.z_clr1, Tr.z_clr2, Tr.z_rev1, Tr.z_ext1, Tr.z_cat1, Tr.z_it1, Tr.z_it2, Tr.z_it3, Tr.z_it4, Tr.z_ty1, Tr.z_ty2, Tr.z_ty3, Tr.z_ty4, Tr.z_fst, Tr.z_fma, Tr.z_ffa, Tr.z_ins1, Tr.z_ins2, Tr.z_ins3, Tr.z_ins4, Tr.z_ins5, Tr.z_ixli, Tr.z_ixll, Tr.z_ixlast, Tr.z_setdk, Tr.fDic1_ev, Tr.fDic1'_ev, Tr.dDic1_ev, Tr.fLRg_nat, Tr.dLRg_ev, Tr.z_len8, Tr.z_bind_some, Tr.z_get0, Tr.z_gets, Tr.z_getD0, Tr.z_getDs, Tr.z_set0, Tr.z_sets, Tr.z_app, Tr.z_nil_app, Tr.z_app_nil, Tr.z_map0, Tr.z_mapc, Tr.z_rep0, Tr.z_reps, Tr.z_lenc, Tr.z_lenn, Tr.z_c0, Tr.z_c1, Tr.z_c2, Tr.z_c3, Tr.z_okoV, Tr.z_okrk, Tr.z_okrl, Tr.z_frzoV, Tr.z_clnoV, Tr.z_pureoV, Tr.z_frzrk, Tr.z_clnrk, Tr.z_frzrl, Tr.z_clnrl, Tr.z_ixrl, Tr.z_lenrl, Tr.z_isirl, Tr.z_tyrl, Tr.z_clrrl, Tr.z_oVs, Tr.z_oVn, Tr.z_rks, Tr.z_rkn, Tr.z_ixt0, Tr.z_ixt1, Tr.z_isN1, Tr.z_isN2, Tr.z_isN3, Tr.z_notN1, Tr.z_notN2, Tr.z_notN3, Tr.z_isN4, Tr.z_notN4, Tr.z_isN5, Tr.z_notN5, Tr.fCh3_ev, Tr.fCh2_ev, Tr.fCh1_ev, Tr.z_ch, Tr.z_okdls, Tr.z_frzdls, Tr.z_clndls, Tr.z_ixdls, Tr.z_indls, Tr.z_okdds, Tr.z_frzdds, Tr.z_clndds, Tr.z_ixdds, Tr.fAsg'_ev, Tr.fAsg_ev, Tr.dAsg_ev, Tr.fBwS_ev, Tr.bwS_ev, Tr.fPt_ev, Tr.ptT_no, Tr.ptT_so, Tr.fSl2_ev, Tr.fSl1_ev, Tr.fSl_ev, Tr.dSl_ev, Tr.z_slli, Tr.z_cutTail, Tr.z_cutInit, Tr.z_okst, Tr.z_frzst, Tr.z_clnst, Tr.z_purest, Tr.z_addst, Tr.z_lenst, Tr.z_inst1, Tr.z_ninst1, Tr.z_ixst, Tr.eqL_self, Tr.eqL_nn, Tr.eqL_nc, Tr.eqL_cn, Tr.eqL_cc, Tr.z_eqst, Tr.z_nest, Tr.z_insl, Tr.z_ninsl, Tr.z_sq1, Tr.z_sq2, Tr.z_sq3, Tr.z_itst, Tr.z_isist, Tr.z_slst, Tr.z_cutOne, Tr.lit_all, Tr.lit_not, Tr.lit_both, Tr.lit_either, Tr.lit_somenext, Tr.lit_eachnext, Tr.lit_sometill, Tr.lit_eachtill, Tr.lit_someever, Tr.lit_eachever, Tr.lit_somealways, Tr.lit_eachalways, Tr.lit_mark, Tr.lit_loop, Tr.lit_rank, Tr.lit_walk, Tr.lit_shut, Tr.lit_out, Tr.lit_here, Tr.lit_dead, Tr.lit_plain, Tr.lit_step, Tr.lit_none, Tr.lit_fair, Tr.lit_answer, Tr.lit_p, Tr.lit_wet, Tr.lit_darkness, Tr.lit_x, Tr.lit_q, Tr.lit_empty, Tr.lit_in, Tr.lit_letters, Tr.z_kept, Tr.z_catX12, Tr.z_catT12, Tr.z_ixt2, Tr.z_frzsg, Tr.z_clnsg, Tr.z_oksg, Tr.z_oktl, Tr.z_frztl, Tr.z_clntl, Tr.z_insT_told, Tr.z_insT_joint, Tr.z_insT_over_walks, Tr.z_insT_contrary, Tr.z_insT_good, Tr.z_insT_some_next, Tr.z_insT_some_till, Tr.z_insT_each_till, Tr.z_fldT_machine, Tr.z_fldT_every, Tr.z_fldT_live, Tr.fEls_s, Tr.fEls_n, Tr.elsE_ev, Tr.fOO_s, Tr.fOO_n, Tr.oOr_ev, Tr.fMO_s, Tr.fMO_n, Tr.mOr_ev, Tr.oIs1_nd, Tr.dNew_ev, Tr.fFzk_ev, Tr.fzk_ev, Tr.fDfz_ev, Tr.dfz_ev, Tr.z_eqbl, Tr.z_nebl, Tr.z_beqtt, Tr.z_beqff, Tr.z_beqtf, Tr.z_beqft, Tr.z_isNll, Tr.z_isNli, Tr.z_catnd, Tr.dZip_ev, Tr.fZip_ev, Tr.fForZ_ev, Tr.fForZ1_ev, Tr.fForZ2_ev, Tr.dForZ_ev, Tr.fFzS_ev, Tr.fzS_ev, Tr.fRevR_nat, Tr.dRevR_ev, Tr.f3V2_ev, Tr.f3V1_ev, Tr.o3V_ev, Tr.fGetE2_ev, Tr.fGetE1_ev, Tr.dGetE_ev, Tr.z_sllo, Tr.dDisp_ev, Tr.fPutP4_ev, Tr.fPutP3_ev, Tr.fPutP2_ev, Tr.fPutP1_ev, Tr.dPutP_ev, Tr.dpV_ev, Tr.fDpV_ev, Tr.fJoin2_ev, Tr.fJoin1_ev, Tr.dJoin_ev, Tr.fTupO_ev, Tr.dTupO_ev, Tr.fLkK1_ev, Tr.lkK_ev, ↓reduceIte, ite_true, ite_false, Nat.reduceAdd, Nat.reduceSub, Nat.reduceLT, Nat.reduceLeDiff, Nat.zero_add, Nat.lt_add_one, Nat.zero_lt_succ, decide_true, decide_false, decide_eq_true_eq, decide_eq_false_iff_not, Bool.not_eq_true, Bool.not_eq_false, Bool.not_true, Bool.not_false, Bool.not_eq_true', Bool.and_true, Bool.true_and, Bool.and_self, Bool.and_eq_true, Bool.or_eq_true, not_true_eq_false, not_false_eq_true, eq_self, and_self, and_true, true_and, false_and, and_false, or_true, true_or, or_false, false_or, reduceCtorEq, Bool.false_eq_true, Int.toNat_natCast, Int.reduceToNat, Int.reduceEq, Int.reduceLT, Int.reduceLE, Int.reduceNeg, Int.reduceAdd, Int.reduceSub, Int.reduceMul, List.length_map, Bool.not_not, Bool.not_eq_eq_eq_not, Decidable.not_not, Nat.reduceEqDiff, Bool.false_and, Bool.and_false, Option.isSome_some, Option.isSome_none, Option.isNone_some, Option.isNone_none, $ls,*]) }

theorem slT0 (a : T) (ha : cln a = true) : oSlT (some 1) none (.nd false .tup [a]) = some (.nd false .tup []) := by
  show (if clns [a] = true ∧ ¬ (HT.sIx 1 0 (some 1) = 0 ∧ HT.sIx 1 1 none = 1) then some (T.nd false .tup (cutT [a] (some 1) none)) else none) = _
  rw [if_pos ⟨by simp [clns, ha], by decide⟩, z_cutTail]; rfl
theorem law_due_ok : ∀ (k : Nat) (s : Sg), dep s < k → mok s → sz s ≤ 900 → ∃ a, m_law_due k [trT s] = some (NL true (wds s), [a])
  | 0, s, h, _, _ => absurd h (Nat.not_lt_zero _)
  | k + 1, .all, h, hm, hz => by
    have sl := slT0 (tx [97, 108, 108]) rfl
    exists ms_law_due, bn_law_due, trT, sl, it_tup, frzs_nil, nl1, ok_NL
    exact ⟨_, rfl⟩
  | k + 1, .mark w, h, hm, hz => by
    exists ms_law_due, bn_law_due, trT, frzs_cons, frzs_nil, nl1, ok_NL
    exact ⟨_, rfl⟩
  | k + 1, .not p, h, hm, hz => by
    simp only [sz, dep] at hz h
    obtain ⟨x, q⟩ := law_due_ok k p (by omega) hm (by omega)
    have sl := slT1 (tx [110, 111, 116]) (trT p) (cln_trT p) rfl
    have fp := frz_trT p
    have op := ok_trT p
    have lp := wds_len p
    have c1 := cat_NL [[110, 111, 116]] (wds p) true true (by simp only [List.length_cons, List.length_nil]; omega)
    have ft : frz (.nd false .tup [tx [110, 111, 116], trT p]) = .nd false .tup [tx [110, 111, 116], trT p] := by simp only [frz_nd, frzs, z_frzst, fp]
    exists ms_law_due, bn_law_due, trT, sl, it_tup, frzs_cons, frzs_nil, fp, op, ft, nl1, ok_NL, l_law_due_1, q, c1, cln_NL
    exact ⟨_, rfl⟩
  | k + 1, .someNext p, h, hm, hz => by
    simp only [sz, dep] at hz h
    obtain ⟨x, q⟩ := law_due_ok k p (by omega) hm (by omega)
    have sl := slT1 (tx [115, 111, 109, 101, 110, 101, 120, 116]) (trT p) (cln_trT p) rfl
    have fp := frz_trT p
    have op := ok_trT p
    have lp := wds_len p
    have c1 := cat_NL [[115, 111, 109, 101, 110, 101, 120, 116]] (wds p) true true (by simp only [List.length_cons, List.length_nil]; omega)
    have ft : frz (.nd false .tup [tx [115, 111, 109, 101, 110, 101, 120, 116], trT p]) = .nd false .tup [tx [115, 111, 109, 101, 110, 101, 120, 116], trT p] := by simp only [frz_nd, frzs, z_frzst, fp]
    exists ms_law_due, bn_law_due, trT, sl, it_tup, frzs_cons, frzs_nil, fp, op, ft, nl1, ok_NL, l_law_due_1, q, c1, cln_NL
    exact ⟨_, rfl⟩
  | k + 1, .eachNext p, h, hm, hz => by
    simp only [sz, dep] at hz h
    obtain ⟨x, q⟩ := law_due_ok k p (by omega) hm (by omega)
    have sl := slT1 (tx [101, 97, 99, 104, 110, 101, 120, 116]) (trT p) (cln_trT p) rfl
    have fp := frz_trT p
    have op := ok_trT p
    have lp := wds_len p
    have c1 := cat_NL [[101, 97, 99, 104, 110, 101, 120, 116]] (wds p) true true (by simp only [List.length_cons, List.length_nil]; omega)
    have ft : frz (.nd false .tup [tx [101, 97, 99, 104, 110, 101, 120, 116], trT p]) = .nd false .tup [tx [101, 97, 99, 104, 110, 101, 120, 116], trT p] := by simp only [frz_nd, frzs, z_frzst, fp]
    exists ms_law_due, bn_law_due, trT, sl, it_tup, frzs_cons, frzs_nil, fp, op, ft, nl1, ok_NL, l_law_due_1, q, c1, cln_NL
    exact ⟨_, rfl⟩
  | k + 1, .someAlways p, h, hm, hz => by
    simp only [sz, dep] at hz h
    obtain ⟨x, q⟩ := law_due_ok k p (by omega) hm (by omega)
    have sl := slT1 (tx [115, 111, 109, 101, 97, 108, 119, 97, 121, 115]) (trT p) (cln_trT p) rfl
    have fp := frz_trT p
    have op := ok_trT p
    have lp := wds_len p
    have c1 := cat_NL [[115, 111, 109, 101, 97, 108, 119, 97, 121, 115]] (wds p) true true (by simp only [List.length_cons, List.length_nil]; omega)
    have ft : frz (.nd false .tup [tx [115, 111, 109, 101, 97, 108, 119, 97, 121, 115], trT p]) = .nd false .tup [tx [115, 111, 109, 101, 97, 108, 119, 97, 121, 115], trT p] := by simp only [frz_nd, frzs, z_frzst, fp]
    exists ms_law_due, bn_law_due, trT, sl, it_tup, frzs_cons, frzs_nil, fp, op, ft, nl1, ok_NL, l_law_due_1, q, c1, cln_NL
    exact ⟨_, rfl⟩
  | k + 1, .eachAlways p, h, hm, hz => by
    simp only [sz, dep] at hz h
    obtain ⟨x, q⟩ := law_due_ok k p (by omega) hm (by omega)
    have sl := slT1 (tx [101, 97, 99, 104, 97, 108, 119, 97, 121, 115]) (trT p) (cln_trT p) rfl
    have fp := frz_trT p
    have op := ok_trT p
    have lp := wds_len p
    have c1 := cat_NL [[101, 97, 99, 104, 97, 108, 119, 97, 121, 115]] (wds p) true true (by simp only [List.length_cons, List.length_nil]; omega)
    have ft : frz (.nd false .tup [tx [101, 97, 99, 104, 97, 108, 119, 97, 121, 115], trT p]) = .nd false .tup [tx [101, 97, 99, 104, 97, 108, 119, 97, 121, 115], trT p] := by simp only [frz_nd, frzs, z_frzst, fp]
    exists ms_law_due, bn_law_due, trT, sl, it_tup, frzs_cons, frzs_nil, fp, op, ft, nl1, ok_NL, l_law_due_1, q, c1, cln_NL
    exact ⟨_, rfl⟩
  | k + 1, .someEver p, h, hm, hz => by
    simp only [sz, dep] at hz h
    obtain ⟨x, q⟩ := law_due_ok k p (by omega) hm (by omega)
    have sl := slT1 (tx [115, 111, 109, 101, 101, 118, 101, 114]) (trT p) (cln_trT p) rfl
    have fp := frz_trT p
    have op := ok_trT p
    have lp := wds_len p
    have c1 := cat_NL [[115, 111, 109, 101, 101, 118, 101, 114]] (wds p) true true (by simp only [List.length_cons, List.length_nil]; omega)
    have ft : frz (.nd false .tup [tx [115, 111, 109, 101, 101, 118, 101, 114], trT p]) = .nd false .tup [tx [115, 111, 109, 101, 101, 118, 101, 114], trT p] := by simp only [frz_nd, frzs, z_frzst, fp]
    exists ms_law_due, bn_law_due, trT, sl, it_tup, frzs_cons, frzs_nil, fp, op, ft, nl1, ok_NL, l_law_due_1, q, c1, cln_NL
    exact ⟨_, rfl⟩
  | k + 1, .eachEver p, h, hm, hz => by
    simp only [sz, dep] at hz h
    obtain ⟨x, q⟩ := law_due_ok k p (by omega) hm (by omega)
    have sl := slT1 (tx [101, 97, 99, 104, 101, 118, 101, 114]) (trT p) (cln_trT p) rfl
    have fp := frz_trT p
    have op := ok_trT p
    have lp := wds_len p
    have c1 := cat_NL [[101, 97, 99, 104, 101, 118, 101, 114]] (wds p) true true (by simp only [List.length_cons, List.length_nil]; omega)
    have ft : frz (.nd false .tup [tx [101, 97, 99, 104, 101, 118, 101, 114], trT p]) = .nd false .tup [tx [101, 97, 99, 104, 101, 118, 101, 114], trT p] := by simp only [frz_nd, frzs, z_frzst, fp]
    exists ms_law_due, bn_law_due, trT, sl, it_tup, frzs_cons, frzs_nil, fp, op, ft, nl1, ok_NL, l_law_due_1, q, c1, cln_NL
    exact ⟨_, rfl⟩
  | k + 1, .both l r, h, hm, hz => by
    simp only [sz, dep] at hz h
    obtain ⟨x, q⟩ := law_due_ok k l (by omega) hm.1 (by omega)
    obtain ⟨y, q2⟩ := law_due_ok k r (by omega) hm.2 (by omega)
    have sl := slT2 (tx [98, 111, 116, 104]) (trT l) (trT r) (cln_trT l) (cln_trT r) rfl
    have f1 := frz_trT l
    have f2 := frz_trT r
    have o1 := ok_trT l
    have o2 := ok_trT r
    have ll := wds_len l
    have lr := wds_len r
    have c1 := cat_NL [[98, 111, 116, 104]] (wds l) true true (by simp only [List.length_cons, List.length_nil]; omega)
    have c2 := cat_NL ([[98, 111, 116, 104]] ++ wds l) (wds r) true true (by simp only [List.length_append, List.length_cons, List.length_nil]; omega)
    rw [show ([[98, 111, 116, 104]] ++ wds l : List (List Nat)) = [98, 111, 116, 104] :: wds l from rfl] at c1 c2
    have ft : frz (.nd false .tup [tx [98, 111, 116, 104], trT l, trT r]) = .nd false .tup [tx [98, 111, 116, 104], trT l, trT r] := by simp only [frz_nd, frzs, z_frzst, f1, f2]
    exists ms_law_due, bn_law_due, trT, sl, it_tup, frzs_cons, frzs_nil, f1, f2, o1, o2, ft, nl1, ok_NL, l_law_due_1, q, q2, c1, c2, cln_NL
    exact ⟨_, rfl⟩
  | k + 1, .either l r, h, hm, hz => by
    simp only [sz, dep] at hz h
    obtain ⟨x, q⟩ := law_due_ok k l (by omega) hm.1 (by omega)
    obtain ⟨y, q2⟩ := law_due_ok k r (by omega) hm.2 (by omega)
    have sl := slT2 (tx [101, 105, 116, 104, 101, 114]) (trT l) (trT r) (cln_trT l) (cln_trT r) rfl
    have f1 := frz_trT l
    have f2 := frz_trT r
    have o1 := ok_trT l
    have o2 := ok_trT r
    have ll := wds_len l
    have lr := wds_len r
    have c1 := cat_NL [[101, 105, 116, 104, 101, 114]] (wds l) true true (by simp only [List.length_cons, List.length_nil]; omega)
    have c2 := cat_NL ([[101, 105, 116, 104, 101, 114]] ++ wds l) (wds r) true true (by simp only [List.length_append, List.length_cons, List.length_nil]; omega)
    rw [show ([[101, 105, 116, 104, 101, 114]] ++ wds l : List (List Nat)) = [101, 105, 116, 104, 101, 114] :: wds l from rfl] at c1 c2
    have ft : frz (.nd false .tup [tx [101, 105, 116, 104, 101, 114], trT l, trT r]) = .nd false .tup [tx [101, 105, 116, 104, 101, 114], trT l, trT r] := by simp only [frz_nd, frzs, z_frzst, f1, f2]
    exists ms_law_due, bn_law_due, trT, sl, it_tup, frzs_cons, frzs_nil, f1, f2, o1, o2, ft, nl1, ok_NL, l_law_due_1, q, q2, c1, c2, cln_NL
    exact ⟨_, rfl⟩
  | k + 1, .someTill l r, h, hm, hz => by
    simp only [sz, dep] at hz h
    obtain ⟨x, q⟩ := law_due_ok k l (by omega) hm.1 (by omega)
    obtain ⟨y, q2⟩ := law_due_ok k r (by omega) hm.2 (by omega)
    have sl := slT2 (tx [115, 111, 109, 101, 116, 105, 108, 108]) (trT l) (trT r) (cln_trT l) (cln_trT r) rfl
    have f1 := frz_trT l
    have f2 := frz_trT r
    have o1 := ok_trT l
    have o2 := ok_trT r
    have ll := wds_len l
    have lr := wds_len r
    have c1 := cat_NL [[115, 111, 109, 101, 116, 105, 108, 108]] (wds l) true true (by simp only [List.length_cons, List.length_nil]; omega)
    have c2 := cat_NL ([[115, 111, 109, 101, 116, 105, 108, 108]] ++ wds l) (wds r) true true (by simp only [List.length_append, List.length_cons, List.length_nil]; omega)
    rw [show ([[115, 111, 109, 101, 116, 105, 108, 108]] ++ wds l : List (List Nat)) = [115, 111, 109, 101, 116, 105, 108, 108] :: wds l from rfl] at c1 c2
    have ft : frz (.nd false .tup [tx [115, 111, 109, 101, 116, 105, 108, 108], trT l, trT r]) = .nd false .tup [tx [115, 111, 109, 101, 116, 105, 108, 108], trT l, trT r] := by simp only [frz_nd, frzs, z_frzst, f1, f2]
    exists ms_law_due, bn_law_due, trT, sl, it_tup, frzs_cons, frzs_nil, f1, f2, o1, o2, ft, nl1, ok_NL, l_law_due_1, q, q2, c1, c2, cln_NL
    exact ⟨_, rfl⟩
  | k + 1, .eachTill l r, h, hm, hz => by
    simp only [sz, dep] at hz h
    obtain ⟨x, q⟩ := law_due_ok k l (by omega) hm.1 (by omega)
    obtain ⟨y, q2⟩ := law_due_ok k r (by omega) hm.2 (by omega)
    have sl := slT2 (tx [101, 97, 99, 104, 116, 105, 108, 108]) (trT l) (trT r) (cln_trT l) (cln_trT r) rfl
    have f1 := frz_trT l
    have f2 := frz_trT r
    have o1 := ok_trT l
    have o2 := ok_trT r
    have ll := wds_len l
    have lr := wds_len r
    have c1 := cat_NL [[101, 97, 99, 104, 116, 105, 108, 108]] (wds l) true true (by simp only [List.length_cons, List.length_nil]; omega)
    have c2 := cat_NL ([[101, 97, 99, 104, 116, 105, 108, 108]] ++ wds l) (wds r) true true (by simp only [List.length_append, List.length_cons, List.length_nil]; omega)
    rw [show ([[101, 97, 99, 104, 116, 105, 108, 108]] ++ wds l : List (List Nat)) = [101, 97, 99, 104, 116, 105, 108, 108] :: wds l from rfl] at c1 c2
    have ft : frz (.nd false .tup [tx [101, 97, 99, 104, 116, 105, 108, 108], trT l, trT r]) = .nd false .tup [tx [101, 97, 99, 104, 116, 105, 108, 108], trT l, trT r] := by simp only [frz_nd, frzs, z_frzst, f1, f2]
    exists ms_law_due, bn_law_due, trT, sl, it_tup, frzs_cons, frzs_nil, f1, f2, o1, o2, ft, nl1, ok_NL, l_law_due_1, q, q2, c1, c2, cln_NL
    exact ⟨_, rfl⟩
theorem texts_ok (o o' : Bool) (ws : List (List Nat)) (h : ∀ w ∈ ws, Okc w = true) (hl : ws.length ≤ 900) : ∃ a b, m_law_texts [NL o ws, NL o' ws] = some (.lf (.bl true), [a, b]) := by
  have ln := len_NL
  obtain ⟨e, h1, x2, x3, rfl⟩ := lp (dg := gT2 (gN 2) (gN 3)) (d := l_law_texts_1) (ws.map fun w => .nd false .tup [tx w, tx w]) (fun _ env => ∃ x2 x3, env = e_law_texts .no .no x2 x3) (e_law_texts .no .no .no .no) ⟨_, _, rfl⟩ (by
    rintro i t env hi ⟨x2, x3, rfl⟩
    rw [List.getElem?_map] at hi
    obtain ⟨w, hw, rfl⟩ := Option.map_eq_some_iff.mp hi
    have hk := h w (List.mem_of_getElem? hw)
    refine ⟨e_law_texts .no .no (tx w) (tx w), .inl ?_, _, _, rfl⟩
    exists l_law_texts_1, hk)
  have z : fZip ([NL o ws, NL o' ws], [.no, .no, .no, .no]) = some (ws.map (fun w => .nd false .tup [tx w, tx w]), [.no, .no, .no, .no]) := by
    have e1 : frzs (ws.map tx) = ws.map tx := by rw [frzs_map, List.map_map]; exact List.map_congr_left fun x _ => z_frzst x
    show some (zpT (frzs (ws.map tx)) (frzs (ws.map tx)), _) = _
    rw [e1, zpT_map]
  exists m_law_texts, bn_law_texts, ln, ok_NL, isi_NL, z, h1
  exact ⟨_, _, rfl⟩
theorem d1_ok (A B C D G H J K L P : T) (kP : okT P = some P) : ∀ s : Sg, m_Saying_words 16 [sgT s] = some (NL true (wds s), [.no]) → frz P = sgT s → d_law_1 [A, B, C, D, G, P, H, J, K, L] = some (NL true (wds s), [A, B, C, D, G, sgT s, H, J, K, L])
  | .all, h, fP => by
    rw [wsh_all] at h fP ⊢
    exists d_law_1, isIns_nd, List.all_nil, List.all_cons, h, fP, kP, ne_All_Both, ne_All_EachAlways, ne_All_EachEver, ne_All_EachNext, ne_All_EachTill, ne_All_Either, ne_All_Mark, ne_All_Not, ne_All_SomeAlways, ne_All_SomeEver, ne_All_SomeNext, ne_All_SomeTill
  | .both l r, h, fP => by
    rw [wsh_both] at h fP ⊢
    exists d_law_1, isIns_nd, List.all_nil, List.all_cons, h, fP, kP, ne_Both_All, ne_Both_EachAlways, ne_Both_EachEver, ne_Both_EachNext, ne_Both_EachTill, ne_Both_Either, ne_Both_Mark, ne_Both_Not, ne_Both_SomeAlways, ne_Both_SomeEver, ne_Both_SomeNext, ne_Both_SomeTill, ne_left_words, ne_right_words
  | .eachAlways p, h, fP => by
    rw [wsh_eachAlways] at h fP ⊢
    exists d_law_1, isIns_nd, List.all_nil, List.all_cons, h, fP, kP, ne_EachAlways_All, ne_EachAlways_Both, ne_EachAlways_EachEver, ne_EachAlways_EachNext, ne_EachAlways_EachTill, ne_EachAlways_Either, ne_EachAlways_Mark, ne_EachAlways_Not, ne_EachAlways_SomeAlways, ne_EachAlways_SomeEver, ne_EachAlways_SomeNext, ne_EachAlways_SomeTill, ne_part_words
  | .eachEver p, h, fP => by
    rw [wsh_eachEver] at h fP ⊢
    exists d_law_1, isIns_nd, List.all_nil, List.all_cons, h, fP, kP, ne_EachEver_All, ne_EachEver_Both, ne_EachEver_EachAlways, ne_EachEver_EachNext, ne_EachEver_EachTill, ne_EachEver_Either, ne_EachEver_Mark, ne_EachEver_Not, ne_EachEver_SomeAlways, ne_EachEver_SomeEver, ne_EachEver_SomeNext, ne_EachEver_SomeTill, ne_part_words
  | .eachNext p, h, fP => by
    rw [wsh_eachNext] at h fP ⊢
    exists d_law_1, isIns_nd, List.all_nil, List.all_cons, h, fP, kP, ne_EachNext_All, ne_EachNext_Both, ne_EachNext_EachAlways, ne_EachNext_EachEver, ne_EachNext_EachTill, ne_EachNext_Either, ne_EachNext_Mark, ne_EachNext_Not, ne_EachNext_SomeAlways, ne_EachNext_SomeEver, ne_EachNext_SomeNext, ne_EachNext_SomeTill, ne_part_words
  | .eachTill l r, h, fP => by
    rw [wsh_eachTill] at h fP ⊢
    exists d_law_1, isIns_nd, List.all_nil, List.all_cons, h, fP, kP, ne_EachTill_All, ne_EachTill_Both, ne_EachTill_EachAlways, ne_EachTill_EachEver, ne_EachTill_EachNext, ne_EachTill_Either, ne_EachTill_Mark, ne_EachTill_Not, ne_EachTill_SomeAlways, ne_EachTill_SomeEver, ne_EachTill_SomeNext, ne_EachTill_SomeTill, ne_left_words, ne_right_words
  | .either l r, h, fP => by
    rw [wsh_either] at h fP ⊢
    exists d_law_1, isIns_nd, List.all_nil, List.all_cons, h, fP, kP, ne_Either_All, ne_Either_Both, ne_Either_EachAlways, ne_Either_EachEver, ne_Either_EachNext, ne_Either_EachTill, ne_Either_Mark, ne_Either_Not, ne_Either_SomeAlways, ne_Either_SomeEver, ne_Either_SomeNext, ne_Either_SomeTill, ne_left_words, ne_right_words
  | .mark w, h, fP => by
    rw [wsh_mark] at h fP ⊢
    exists d_law_1, isIns_nd, List.all_nil, List.all_cons, h, fP, kP, ne_Mark_All, ne_Mark_Both, ne_Mark_EachAlways, ne_Mark_EachEver, ne_Mark_EachNext, ne_Mark_EachTill, ne_Mark_Either, ne_Mark_Not, ne_Mark_SomeAlways, ne_Mark_SomeEver, ne_Mark_SomeNext, ne_Mark_SomeTill, ne_name_words
  | .not p, h, fP => by
    rw [wsh_not] at h fP ⊢
    exists d_law_1, isIns_nd, List.all_nil, List.all_cons, h, fP, kP, ne_Not_All, ne_Not_Both, ne_Not_EachAlways, ne_Not_EachEver, ne_Not_EachNext, ne_Not_EachTill, ne_Not_Either, ne_Not_Mark, ne_Not_SomeAlways, ne_Not_SomeEver, ne_Not_SomeNext, ne_Not_SomeTill, ne_part_words
  | .someAlways p, h, fP => by
    rw [wsh_someAlways] at h fP ⊢
    exists d_law_1, isIns_nd, List.all_nil, List.all_cons, h, fP, kP, ne_SomeAlways_All, ne_SomeAlways_Both, ne_SomeAlways_EachAlways, ne_SomeAlways_EachEver, ne_SomeAlways_EachNext, ne_SomeAlways_EachTill, ne_SomeAlways_Either, ne_SomeAlways_Mark, ne_SomeAlways_Not, ne_SomeAlways_SomeEver, ne_SomeAlways_SomeNext, ne_SomeAlways_SomeTill, ne_part_words
  | .someEver p, h, fP => by
    rw [wsh_someEver] at h fP ⊢
    exists d_law_1, isIns_nd, List.all_nil, List.all_cons, h, fP, kP, ne_SomeEver_All, ne_SomeEver_Both, ne_SomeEver_EachAlways, ne_SomeEver_EachEver, ne_SomeEver_EachNext, ne_SomeEver_EachTill, ne_SomeEver_Either, ne_SomeEver_Mark, ne_SomeEver_Not, ne_SomeEver_SomeAlways, ne_SomeEver_SomeNext, ne_SomeEver_SomeTill, ne_part_words
  | .someNext p, h, fP => by
    rw [wsh_someNext] at h fP ⊢
    exists d_law_1, isIns_nd, List.all_nil, List.all_cons, h, fP, kP, ne_SomeNext_All, ne_SomeNext_Both, ne_SomeNext_EachAlways, ne_SomeNext_EachEver, ne_SomeNext_EachNext, ne_SomeNext_EachTill, ne_SomeNext_Either, ne_SomeNext_Mark, ne_SomeNext_Not, ne_SomeNext_SomeAlways, ne_SomeNext_SomeEver, ne_SomeNext_SomeTill, ne_part_words
  | .someTill l r, h, fP => by
    rw [wsh_someTill] at h fP ⊢
    exists d_law_1, isIns_nd, List.all_nil, List.all_cons, h, fP, kP, ne_SomeTill_All, ne_SomeTill_Both, ne_SomeTill_EachAlways, ne_SomeTill_EachEver, ne_SomeTill_EachNext, ne_SomeTill_EachTill, ne_SomeTill_Either, ne_SomeTill_Mark, ne_SomeTill_Not, ne_SomeTill_SomeAlways, ne_SomeTill_SomeEver, ne_SomeTill_SomeNext, ne_left_words, ne_right_words
theorem d2_ok (A B C D G H J K L : T) : ∀ s : Sg, m_Saying_words 16 [sgT s] = some (NL true (wds s), [.no]) → d_law_2 [A, B, C, D, G, sgT s, H, J, K, L] = some (NL true (wds s), [A, B, C, D, G, .no, H, J, K, L])
  | .all, h => by
    rw [wsh_all] at h ⊢
    exists d_law_2, isIns_nd, List.all_nil, List.all_cons, h, ne_All_Both, ne_All_EachAlways, ne_All_EachEver, ne_All_EachNext, ne_All_EachTill, ne_All_Either, ne_All_Mark, ne_All_Not, ne_All_SomeAlways, ne_All_SomeEver, ne_All_SomeNext, ne_All_SomeTill
  | .both l r, h => by
    rw [wsh_both] at h ⊢
    exists d_law_2, isIns_nd, List.all_nil, List.all_cons, h, ne_Both_All, ne_Both_EachAlways, ne_Both_EachEver, ne_Both_EachNext, ne_Both_EachTill, ne_Both_Either, ne_Both_Mark, ne_Both_Not, ne_Both_SomeAlways, ne_Both_SomeEver, ne_Both_SomeNext, ne_Both_SomeTill, ne_left_words, ne_right_words
  | .eachAlways p, h => by
    rw [wsh_eachAlways] at h ⊢
    exists d_law_2, isIns_nd, List.all_nil, List.all_cons, h, ne_EachAlways_All, ne_EachAlways_Both, ne_EachAlways_EachEver, ne_EachAlways_EachNext, ne_EachAlways_EachTill, ne_EachAlways_Either, ne_EachAlways_Mark, ne_EachAlways_Not, ne_EachAlways_SomeAlways, ne_EachAlways_SomeEver, ne_EachAlways_SomeNext, ne_EachAlways_SomeTill, ne_part_words
  | .eachEver p, h => by
    rw [wsh_eachEver] at h ⊢
    exists d_law_2, isIns_nd, List.all_nil, List.all_cons, h, ne_EachEver_All, ne_EachEver_Both, ne_EachEver_EachAlways, ne_EachEver_EachNext, ne_EachEver_EachTill, ne_EachEver_Either, ne_EachEver_Mark, ne_EachEver_Not, ne_EachEver_SomeAlways, ne_EachEver_SomeEver, ne_EachEver_SomeNext, ne_EachEver_SomeTill, ne_part_words
  | .eachNext p, h => by
    rw [wsh_eachNext] at h ⊢
    exists d_law_2, isIns_nd, List.all_nil, List.all_cons, h, ne_EachNext_All, ne_EachNext_Both, ne_EachNext_EachAlways, ne_EachNext_EachEver, ne_EachNext_EachTill, ne_EachNext_Either, ne_EachNext_Mark, ne_EachNext_Not, ne_EachNext_SomeAlways, ne_EachNext_SomeEver, ne_EachNext_SomeNext, ne_EachNext_SomeTill, ne_part_words
  | .eachTill l r, h => by
    rw [wsh_eachTill] at h ⊢
    exists d_law_2, isIns_nd, List.all_nil, List.all_cons, h, ne_EachTill_All, ne_EachTill_Both, ne_EachTill_EachAlways, ne_EachTill_EachEver, ne_EachTill_EachNext, ne_EachTill_Either, ne_EachTill_Mark, ne_EachTill_Not, ne_EachTill_SomeAlways, ne_EachTill_SomeEver, ne_EachTill_SomeNext, ne_EachTill_SomeTill, ne_left_words, ne_right_words
  | .either l r, h => by
    rw [wsh_either] at h ⊢
    exists d_law_2, isIns_nd, List.all_nil, List.all_cons, h, ne_Either_All, ne_Either_Both, ne_Either_EachAlways, ne_Either_EachEver, ne_Either_EachNext, ne_Either_EachTill, ne_Either_Mark, ne_Either_Not, ne_Either_SomeAlways, ne_Either_SomeEver, ne_Either_SomeNext, ne_Either_SomeTill, ne_left_words, ne_right_words
  | .mark w, h => by
    rw [wsh_mark] at h ⊢
    exists d_law_2, isIns_nd, List.all_nil, List.all_cons, h, ne_Mark_All, ne_Mark_Both, ne_Mark_EachAlways, ne_Mark_EachEver, ne_Mark_EachNext, ne_Mark_EachTill, ne_Mark_Either, ne_Mark_Not, ne_Mark_SomeAlways, ne_Mark_SomeEver, ne_Mark_SomeNext, ne_Mark_SomeTill, ne_name_words
  | .not p, h => by
    rw [wsh_not] at h ⊢
    exists d_law_2, isIns_nd, List.all_nil, List.all_cons, h, ne_Not_All, ne_Not_Both, ne_Not_EachAlways, ne_Not_EachEver, ne_Not_EachNext, ne_Not_EachTill, ne_Not_Either, ne_Not_Mark, ne_Not_SomeAlways, ne_Not_SomeEver, ne_Not_SomeNext, ne_Not_SomeTill, ne_part_words
  | .someAlways p, h => by
    rw [wsh_someAlways] at h ⊢
    exists d_law_2, isIns_nd, List.all_nil, List.all_cons, h, ne_SomeAlways_All, ne_SomeAlways_Both, ne_SomeAlways_EachAlways, ne_SomeAlways_EachEver, ne_SomeAlways_EachNext, ne_SomeAlways_EachTill, ne_SomeAlways_Either, ne_SomeAlways_Mark, ne_SomeAlways_Not, ne_SomeAlways_SomeEver, ne_SomeAlways_SomeNext, ne_SomeAlways_SomeTill, ne_part_words
  | .someEver p, h => by
    rw [wsh_someEver] at h ⊢
    exists d_law_2, isIns_nd, List.all_nil, List.all_cons, h, ne_SomeEver_All, ne_SomeEver_Both, ne_SomeEver_EachAlways, ne_SomeEver_EachEver, ne_SomeEver_EachNext, ne_SomeEver_EachTill, ne_SomeEver_Either, ne_SomeEver_Mark, ne_SomeEver_Not, ne_SomeEver_SomeAlways, ne_SomeEver_SomeNext, ne_SomeEver_SomeTill, ne_part_words
  | .someNext p, h => by
    rw [wsh_someNext] at h ⊢
    exists d_law_2, isIns_nd, List.all_nil, List.all_cons, h, ne_SomeNext_All, ne_SomeNext_Both, ne_SomeNext_EachAlways, ne_SomeNext_EachEver, ne_SomeNext_EachNext, ne_SomeNext_EachTill, ne_SomeNext_Either, ne_SomeNext_Mark, ne_SomeNext_Not, ne_SomeNext_SomeAlways, ne_SomeNext_SomeEver, ne_SomeNext_SomeTill, ne_part_words
  | .someTill l r, h => by
    rw [wsh_someTill] at h ⊢
    exists d_law_2, isIns_nd, List.all_nil, List.all_cons, h, ne_SomeTill_All, ne_SomeTill_Both, ne_SomeTill_EachAlways, ne_SomeTill_EachEver, ne_SomeTill_EachNext, ne_SomeTill_EachTill, ne_SomeTill_Either, ne_SomeTill_Mark, ne_SomeTill_Not, ne_SomeTill_SomeAlways, ne_SomeTill_SomeEver, ne_SomeTill_SomeNext, ne_left_words, ne_right_words
theorem isS : ∀ s : Sg, iC_Saying (sgT s) = some (.lf (.bl true))
  | .all => by
    rw [wsh_all]
    exists iC_Saying, ne_All_Both, ne_All_EachAlways, ne_All_EachEver, ne_All_EachNext, ne_All_EachTill, ne_All_Either, ne_All_Mark, ne_All_Not, ne_All_SomeAlways, ne_All_SomeEver, ne_All_SomeNext, ne_All_SomeTill
  | .both l r => by
    rw [wsh_both]
    exists iC_Saying, ne_Both_All, ne_Both_EachAlways, ne_Both_EachEver, ne_Both_EachNext, ne_Both_EachTill, ne_Both_Either, ne_Both_Mark, ne_Both_Not, ne_Both_SomeAlways, ne_Both_SomeEver, ne_Both_SomeNext, ne_Both_SomeTill
  | .eachAlways p => by
    rw [wsh_eachAlways]
    exists iC_Saying, ne_EachAlways_All, ne_EachAlways_Both, ne_EachAlways_EachEver, ne_EachAlways_EachNext, ne_EachAlways_EachTill, ne_EachAlways_Either, ne_EachAlways_Mark, ne_EachAlways_Not, ne_EachAlways_SomeAlways, ne_EachAlways_SomeEver, ne_EachAlways_SomeNext, ne_EachAlways_SomeTill
  | .eachEver p => by
    rw [wsh_eachEver]
    exists iC_Saying, ne_EachEver_All, ne_EachEver_Both, ne_EachEver_EachAlways, ne_EachEver_EachNext, ne_EachEver_EachTill, ne_EachEver_Either, ne_EachEver_Mark, ne_EachEver_Not, ne_EachEver_SomeAlways, ne_EachEver_SomeEver, ne_EachEver_SomeNext, ne_EachEver_SomeTill
  | .eachNext p => by
    rw [wsh_eachNext]
    exists iC_Saying, ne_EachNext_All, ne_EachNext_Both, ne_EachNext_EachAlways, ne_EachNext_EachEver, ne_EachNext_EachTill, ne_EachNext_Either, ne_EachNext_Mark, ne_EachNext_Not, ne_EachNext_SomeAlways, ne_EachNext_SomeEver, ne_EachNext_SomeNext, ne_EachNext_SomeTill
  | .eachTill l r => by
    rw [wsh_eachTill]
    exists iC_Saying, ne_EachTill_All, ne_EachTill_Both, ne_EachTill_EachAlways, ne_EachTill_EachEver, ne_EachTill_EachNext, ne_EachTill_Either, ne_EachTill_Mark, ne_EachTill_Not, ne_EachTill_SomeAlways, ne_EachTill_SomeEver, ne_EachTill_SomeNext, ne_EachTill_SomeTill
  | .either l r => by
    rw [wsh_either]
    exists iC_Saying, ne_Either_All, ne_Either_Both, ne_Either_EachAlways, ne_Either_EachEver, ne_Either_EachNext, ne_Either_EachTill, ne_Either_Mark, ne_Either_Not, ne_Either_SomeAlways, ne_Either_SomeEver, ne_Either_SomeNext, ne_Either_SomeTill
  | .mark w => by
    rw [wsh_mark]
    exists iC_Saying, ne_Mark_All, ne_Mark_Both, ne_Mark_EachAlways, ne_Mark_EachEver, ne_Mark_EachNext, ne_Mark_EachTill, ne_Mark_Either, ne_Mark_Not, ne_Mark_SomeAlways, ne_Mark_SomeEver, ne_Mark_SomeNext, ne_Mark_SomeTill
  | .not p => by
    rw [wsh_not]
    exists iC_Saying, ne_Not_All, ne_Not_Both, ne_Not_EachAlways, ne_Not_EachEver, ne_Not_EachNext, ne_Not_EachTill, ne_Not_Either, ne_Not_Mark, ne_Not_SomeAlways, ne_Not_SomeEver, ne_Not_SomeNext, ne_Not_SomeTill
  | .someAlways p => by
    rw [wsh_someAlways]
    exists iC_Saying, ne_SomeAlways_All, ne_SomeAlways_Both, ne_SomeAlways_EachAlways, ne_SomeAlways_EachEver, ne_SomeAlways_EachNext, ne_SomeAlways_EachTill, ne_SomeAlways_Either, ne_SomeAlways_Mark, ne_SomeAlways_Not, ne_SomeAlways_SomeEver, ne_SomeAlways_SomeNext, ne_SomeAlways_SomeTill
  | .someEver p => by
    rw [wsh_someEver]
    exists iC_Saying, ne_SomeEver_All, ne_SomeEver_Both, ne_SomeEver_EachAlways, ne_SomeEver_EachEver, ne_SomeEver_EachNext, ne_SomeEver_EachTill, ne_SomeEver_Either, ne_SomeEver_Mark, ne_SomeEver_Not, ne_SomeEver_SomeAlways, ne_SomeEver_SomeNext, ne_SomeEver_SomeTill
  | .someNext p => by
    rw [wsh_someNext]
    exists iC_Saying, ne_SomeNext_All, ne_SomeNext_Both, ne_SomeNext_EachAlways, ne_SomeNext_EachEver, ne_SomeNext_EachNext, ne_SomeNext_EachTill, ne_SomeNext_Either, ne_SomeNext_Mark, ne_SomeNext_Not, ne_SomeNext_SomeAlways, ne_SomeNext_SomeEver, ne_SomeNext_SomeTill
  | .someTill l r => by
    rw [wsh_someTill]
    exists iC_Saying, ne_SomeTill_All, ne_SomeTill_Both, ne_SomeTill_EachAlways, ne_SomeTill_EachEver, ne_SomeTill_EachNext, ne_SomeTill_EachTill, ne_SomeTill_Either, ne_SomeTill_Mark, ne_SomeTill_Not, ne_SomeTill_SomeAlways, ne_SomeTill_SomeEver, ne_SomeTill_SomeNext
theorem law_name_ok (k seed : Int) : ∃ w, Okc w = true ∧ m_law_name [.lf (.int k), .lf (.int seed)] = some (tx w, [.lf (.int k), .lf (.int seed)]) := by
  have kl : (.lf (.str "abcdefghijklmnopqrstuvwxyz") : T) = tx ABC := lit_letters
  have s0 := Int.emod_nonneg seed (b := 8) (by omega)
  have s1 := Int.emod_lt_of_pos seed (b := 8) (by omega)
  obtain ⟨n, hn, n1, n8⟩ : ∃ n : Nat, 1 + seed % 8 = (n : Int) ∧ 1 ≤ n ∧ n ≤ 8 := ⟨(1 + seed % 8).toNat, by omega, by omega, by omega⟩
  have np : 0 < (n : Int) := by omega
  have p0 := Int.emod_nonneg (seed / 8) (b := (n : Int)) (by omega)
  have p1 := Int.emod_lt_of_pos (seed / 8) np
  obtain ⟨p, hp, pn⟩ : ∃ p : Nat, seed / 8 % (n : Int) = (p : Int) ∧ p < n := ⟨(seed / 8 % (n : Int)).toNat, by omega, by omega⟩
  obtain ⟨q, hq⟩ : ∃ q : Nat, (n : Int) - (p : Int) - 1 = (q : Int) ∧ q ≤ 8 := ⟨n - p - 1, by omega, by omega⟩
  have b0 := Int.emod_nonneg (seed / 1664) (b := 26) (by omega)
  have b1 := Int.emod_lt_of_pos (seed / 1664) (b := 26) (by omega)
  have ab := abc_at (seed / 1664 % 26) b0 b1
  have bl := abc_lt (seed / 1664 % 26).toNat (by omega)
  have c0 := Int.emod_nonneg (seed / 64 + k) (b := 26) (by omega)
  have c1 := Int.emod_lt_of_pos (seed / 64 + k) (b := 26) (by omega)
  have ac := abc_at ((seed / 64 + k) % 26) c0 c1
  have cl := abc_lt ((seed / 64 + k) % 26).toNat (by omega)
  generalize ABC.getD (seed / 1664 % 26).toNat 0 = b at *
  generalize ABC.getD ((seed / 64 + k) % 26).toNat 0 = c at *
  have lc : ∀ (m : Nat) (X : T), m ≤ 900 → dLr (gN 7) dYes x_law_name_1 [7] (rngT m) [] [.lf (.int k), .lf (.int seed), tx ABC, .lf (.int (n : Int)), .lf (.int (p : Int)), tx [b], X, .no] = some ((List.replicate m [b]).map tx, [.lf (.int k), .lf (.int seed), tx ABC, .lf (.int (n : Int)), .lf (.int (p : Int)), tx [b], X, .no]) := fun m X hm => by
    rw [rngT_eq, lc_all _ (rgI m) lfI (fun _ => tx [b]) (by rw [rgI_len]; omega) fun x hx => ⟨[.lf (.int k), .lf (.int seed), tx ABC, .lf (.int (n : Int)), .lf (.int (p : Int)), tx [b], X, .lf (.int x)], [.lf (.int k), .lf (.int seed), tx ABC, .lf (.int (n : Int)), .lf (.int (p : Int)), tx [b], X, .lf (.int x)], rfl, (by exists x_law_name_1, ok_nd3), rfl⟩]
    congr 2
    rw [List.map_replicate, List.map_const', rgI_len]
  have e12 : x_law_name_2 = x_law_name_1 := rfl
  have l1 := lc p .no (by omega)
  have l2 := fun X => lc q X (by omega)
  have j1 := fun o => join_rep o p b (by omega)
  have j2 := fun o => join_rep o q b (by omega)
  have r1 : (List.replicate p b).length = p := by simp
  have r2 : (List.replicate q b).length = q := by simp
  have z1 : (List.replicate p b).length + [c].length ≤ 1000 := by rw [r1]; simp; omega
  have z2 : (List.replicate p b ++ [c]).length + (List.replicate q b).length ≤ 1000 := by rw [List.length_append, r1, r2]; simp; omega
  have ok : Okc (List.replicate p b ++ [c] ++ List.replicate q b) = true := okc_app (okc_app (okc_rep p b bl) (by unfold Okc; simp; omega)) (okc_rep q b bl)
  have oka : Okc [97, 108, 108] = true := by decide
  have rp : ∀ e : List T, fRng ((.lf (.int (p : Int)) : T), e) = some (rngT p, e) := fun e => fRng_int p _ (by omega)
  have rq : ∀ e : List T, fRng ((.lf (.int (q : Int)) : T), e) = some (rngT q, e) := fun e => fRng_int q _ (by omega)
  generalize List.replicate q b = Q at *
  generalize List.replicate p b = P0 at *
  cases h : eqL (P0 ++ [c] ++ Q) [97, 108, 108] with
  | true =>
    refine ⟨[108, 97, 108, 97], by decide, ?_⟩
    have lal : (.lf (.str "lala") : T) = tx [108, 97, 108, 97] := rfl
    exists m_law_name, bn_law_name, kl, hn, hp, hq.1, ab, ac, e12, l1, l2, j1, j2, rp, rq, np, h, lal
  | false =>
    refine ⟨_, ok, ?_⟩
    exists m_law_name, bn_law_name, kl, hn, hp, hq.1, ab, ac, e12, l1, l2, j1, j2, rp, rq, np, h
theorem law_true : ∀ ns : List Int, ns.length ≤ 63 → ∃ ts, m_law [scrT ns] = some (.lf (.bl true), ts) := by
  intro ns hns
  have sl : ∀ l u, oSlL l u (scrT ns) = some (li true (cutT ns l u)) := fun l u => by
    show (if clns (ns.map lfI) = true then some (T.nd true .lst (cutT (ns.map lfI) l u)) else none) = _
    rw [clns_ints, cutT_map]; rfl
  have sm : ∀ xs : List Int, oSum (li true xs) = some (.lf (.int xs.sum)) := fun xs => by
    show (intsOf (xs.map lfI)).map _ = _
    rw [intsOf_li]; rfl
  have ir := it_rev true (cutT ns (some 2) (some 80))
  have hR : (cutT ns (some 2) (some 80)).reverse.length ≤ 63 := by rw [List.length_reverse]; exact Nat.le_trans (cut_len _ _ _) hns
  generalize (cutT ns (some 2) (some 80)).reverse = R at ir hR
  have g0 : dLr (gN 8) dYes x_law_1 [8] (R.map lfI) [] [scrT ns, .no, .no, .no, .no, .no, .no, .no, .no, .no] = some (R.map lfI, [scrT ns, .no, .no, .no, .no, .no, .no, .no, .no, .no]) := by
    refine lc_all _ _ lfI lfI (by omega) fun x hx => ⟨[scrT ns, .no, .no, .no, .no, .no, .no, .no, .lf (.int x), .no], [scrT ns, .no, .no, .no, .no, .no, .no, .no, .no, .no], rfl, ?_, rfl⟩
    exists x_law_1
  generalize hsd : (ns.take 1).sum = seed
  generalize hq : (cutT ns (some 1) (some 2)).sum = q at *
  have q0 := Int.emod_nonneg q (b := 10) (by omega)
  have q1 := Int.emod_lt_of_pos q (b := 10) (by omega)
  obtain ⟨n, hn, n10⟩ : ∃ n : Nat, q % 10 = (n : Int) ∧ n < 10 := ⟨(q % 10).toNat, by omega, by omega⟩
  obtain ⟨ws, e2, g2, ⟨x9, rfl⟩, wl, wp⟩ := lc_ex (dg := gN 9) (de := x_law_2) (vs := [9]) (fun env => ∃ x : T, env = [scrT ns, li true R, .lf (.int seed), .no, .no, .no, .no, .no, .no, .no]) (fun w => Okc w = true) lfI tx (rgI n) [] [scrT ns, li true R, .lf (.int seed), .no, .no, .no, .no, .no, .no, .no] (by rw [rgI_len]; simp; omega) ⟨.no, rfl⟩ fun x hx env ⟨_, he⟩ => by
    obtain ⟨w, hw, q⟩ := law_name_ok x seed
    subst he
    refine ⟨w, hw, [scrT ns, li true R, .lf (.int seed), .no, .no, .no, .no, .no, .no, .lf (.int x)], [scrT ns, li true R, .lf (.int seed), .no, .no, .no, .no, .no, .no, .no], rfl, ?_, .no, rfl⟩
    exists x_law_2, q
  rw [← rngT_eq] at g2
  simp only [List.map_nil, List.nil_append] at g2
  rw [rgI_len] at wl
  have rn : ∀ e : List T, fRng ((.lf (.int (n : Int)) : T), e) = some (rngT n, e) := fun e => fRng_int n _ (by omega)
  obtain ⟨s, R', d1, k1, z1, _, u1, u2, gr⟩ := grown_ok ws wp (by omega) 16 7 R true (by omega) (by omega)
  have gr' : m_law_grown 16 [li true R, NL true ws, .lf (.int 7)] = _ := gr
  have nl : (.nd true .lst (ws.map tx) : T) = NL true ws := rfl
  obtain ⟨P, b1, fP, kP, mP⟩ := made_ok 16 s (by omega) (by omega) k1
  obtain ⟨b2, du⟩ := law_due_ok 16 s (by omega) k1 (by omega)
  have wo := words_ok 16 s (by omega) (by omega)
  have dl1 := fun A B C D G H J K L => d1_ok A B C D G H J K L P kP s wo fP
  have wk := wds_ok s k1
  have wn := wds_len s
  have tt := fun o o' => texts_ok o o' (wds s) wk (by omega)
  obtain ⟨c1, c2, t1⟩ := tt false false
  obtain ⟨c3, c4, t2⟩ := tt true false
  have dl2 := fun A B C D G H J K L => d2_ok A B C D G H J K L s wo
  have is := isS s
  have cl : ∀ ws, mClear (NL true ws) [] = some (.lf .non, NL true []) := fun _ => rfl
  have fP' := fP
  have z3 : ((li true (cutT ns none (some 1))) : T) = _ := rfl
  exists m_law, bn_law, sl, sm, ir, g0, hq, hsd, hn, rn, g2, nl, gr', mP, fP, kP, z_oksg, frz_trT, ok_trT, cln_trT, du, dl1, dl2, is, t1, t2, ok_NL, frz_NL, ty_NL, cln_NL, cl
  exact ⟨_, rfl⟩
end Ma


namespace Hd
open PySem PySem.Spec PyProof.Rows L2 Tr Wk
abbrev R : PySem.W.OpenRow := PySem.W.OpenLaw.row PySem.Challenge.rw_treesay_k11_words_of_sayings
def d_law_cell : He.DefD := ⟨("_law_cell", none), "_law_cell", "_law_cell", defArgs s_law_cell, defBody s_law_cell, defScope s_law_cell, [], []⟩
def d_law_grown : He.DefD := ⟨("_law_grown", none), "_law_grown", "_law_grown", defArgs s_law_grown, defBody s_law_grown, defScope s_law_grown, [], []⟩
def d_Double_init : He.DefD := ⟨("Double", some "__init__"), "__init__", "Double.__init__", defArgs s_Double_init, defBody s_Double_init, defScope s_Double_init, [], []⟩
def d_Mark_init : He.DefD := ⟨("Mark", some "__init__"), "__init__", "Mark.__init__", defArgs s_Mark_init, defBody s_Mark_init, defScope s_Mark_init, [], []⟩
def d_Single_init : He.DefD := ⟨("Single", some "__init__"), "__init__", "Single.__init__", defArgs s_Single_init, defBody s_Single_init, defScope s_Single_init, [], []⟩
def d_law_single : He.DefD := ⟨("_law_single", none), "_law_single", "_law_single", defArgs s_law_single, defBody s_law_single, defScope s_law_single, [], []⟩
def d_law_made : He.DefD := ⟨("_law_made", none), "_law_made", "_law_made", defArgs s_law_made, defBody s_law_made, defScope s_law_made, [], []⟩
def d_law_due : He.DefD := ⟨("_law_due", none), "_law_due", "_law_due", defArgs s_law_due, defBody s_law_due, defScope s_law_due, [], []⟩
def d_Saying_inside : He.DefD := ⟨("Saying", some "inside"), "inside", "Saying.inside", defArgs s_Saying_inside, defBody s_Saying_inside, defScope s_Saying_inside, [], []⟩
def d_Double_inside : He.DefD := ⟨("Double", some "inside"), "inside", "Double.inside", defArgs s_Double_inside, defBody s_Double_inside, defScope s_Double_inside, [], []⟩
def d_Single_inside : He.DefD := ⟨("Single", some "inside"), "inside", "Single.inside", defArgs s_Single_inside, defBody s_Single_inside, defScope s_Single_inside, [], []⟩
def d_All_word : He.DefD := ⟨("All", some "word"), "word", "All.word", defArgs s_All_word, defBody s_All_word, defScope s_All_word, [], []⟩
def d_Both_word : He.DefD := ⟨("Both", some "word"), "word", "Both.word", defArgs s_Both_word, defBody s_Both_word, defScope s_Both_word, [], []⟩
def d_EachAlways_word : He.DefD := ⟨("EachAlways", some "word"), "word", "EachAlways.word", defArgs s_EachAlways_word, defBody s_EachAlways_word, defScope s_EachAlways_word, [], []⟩
def d_EachEver_word : He.DefD := ⟨("EachEver", some "word"), "word", "EachEver.word", defArgs s_EachEver_word, defBody s_EachEver_word, defScope s_EachEver_word, [], []⟩
def d_EachNext_word : He.DefD := ⟨("EachNext", some "word"), "word", "EachNext.word", defArgs s_EachNext_word, defBody s_EachNext_word, defScope s_EachNext_word, [], []⟩
def d_EachTill_word : He.DefD := ⟨("EachTill", some "word"), "word", "EachTill.word", defArgs s_EachTill_word, defBody s_EachTill_word, defScope s_EachTill_word, [], []⟩
def d_Either_word : He.DefD := ⟨("Either", some "word"), "word", "Either.word", defArgs s_Either_word, defBody s_Either_word, defScope s_Either_word, [], []⟩
def d_Mark_word : He.DefD := ⟨("Mark", some "word"), "word", "Mark.word", defArgs s_Mark_word, defBody s_Mark_word, defScope s_Mark_word, [], []⟩
def d_Not_word : He.DefD := ⟨("Not", some "word"), "word", "Not.word", defArgs s_Not_word, defBody s_Not_word, defScope s_Not_word, [], []⟩
def d_SomeAlways_word : He.DefD := ⟨("SomeAlways", some "word"), "word", "SomeAlways.word", defArgs s_SomeAlways_word, defBody s_SomeAlways_word, defScope s_SomeAlways_word, [], []⟩
def d_SomeEver_word : He.DefD := ⟨("SomeEver", some "word"), "word", "SomeEver.word", defArgs s_SomeEver_word, defBody s_SomeEver_word, defScope s_SomeEver_word, [], []⟩
def d_SomeNext_word : He.DefD := ⟨("SomeNext", some "word"), "word", "SomeNext.word", defArgs s_SomeNext_word, defBody s_SomeNext_word, defScope s_SomeNext_word, [], []⟩
def d_SomeTill_word : He.DefD := ⟨("SomeTill", some "word"), "word", "SomeTill.word", defArgs s_SomeTill_word, defBody s_SomeTill_word, defScope s_SomeTill_word, [], []⟩
def d_Saying_words : He.DefD := ⟨("Saying", some "words"), "words", "Saying.words", defArgs s_Saying_words, defBody s_Saying_words, defScope s_Saying_words, [], []⟩
def d_law_texts : He.DefD := ⟨("_law_texts", none), "_law_texts", "_law_texts", defArgs s_law_texts, defBody s_law_texts, defScope s_law_texts, [], []⟩
def d_law_name : He.DefD := ⟨("_law_name", none), "_law_name", "_law_name", defArgs s_law_name, defBody s_law_name, defScope s_law_name, [], []⟩
def d_law : He.DefD := ⟨("law", none), "law", "law", defArgs s_law, defBody s_law, defScope s_law, [], []⟩
def fs0 : List Hf.FB := [Hf.fo (.glo "_law_cell"), Hf.fo (.glo "_law_grown"), Hf.fo (.glo "_law_single"), Hf.fo (.glo "_law_made"), Hf.fo (.glo "_law_due"), Hf.fo (.glo "_law_texts"), Hf.fo (.glo "_law_name"), Hf.fo (.glo "law"), Hf.fo (.glo "All"), Hf.fo (.cls "All"), Hf.fo (.glo "Both"), Hf.fo (.cls "Both"), Hf.fo (.glo "EachAlways"), Hf.fo (.cls "EachAlways"), Hf.fo (.glo "EachEver"), Hf.fo (.cls "EachEver"), Hf.fo (.glo "EachNext"), Hf.fo (.cls "EachNext"), Hf.fo (.glo "EachTill"), Hf.fo (.cls "EachTill"), Hf.fo (.glo "Either"), Hf.fo (.cls "Either"), Hf.fo (.glo "Mark"), Hf.fo (.cls "Mark")]
def fs1 : List Hf.FB := [Hf.fo (.glo "Not"), Hf.fo (.cls "Not"), Hf.fo (.glo "Saying"), Hf.fo (.cls "Saying"), Hf.fo (.glo "SomeAlways"), Hf.fo (.cls "SomeAlways"), Hf.fo (.glo "SomeEver"), Hf.fo (.cls "SomeEver"), Hf.fo (.glo "SomeNext"), Hf.fo (.cls "SomeNext"), Hf.fo (.glo "SomeTill"), Hf.fo (.cls "SomeTill"), Hf.fo (.noat "Both" "left"), Hf.fo (.noat "Both" "right"), Hf.fo (.noat "EachAlways" "part"), Hf.fo (.noat "EachEver" "part"), Hf.fo (.noat "EachNext" "part"), Hf.fo (.noat "EachTill" "left"), Hf.fo (.noat "EachTill" "right"), Hf.fo (.noat "Either" "left"), Hf.fo (.noat "Either" "right"), Hf.fo (.noat "Mark" "name"), Hf.fo (.noat "Not" "part"), Hf.fo (.noat "SomeAlways" "part")]
def fs2 : List Hf.FB := [Hf.fo (.noat "SomeEver" "part"), Hf.fo (.noat "SomeNext" "part"), Hf.fo (.noat "SomeTill" "left"), Hf.fo (.noat "SomeTill" "right"), Hf.metB "All" "inside" "Saying", Hf.metB "All" "word" "All", Hf.metB "All" "words" "Saying", Hf.metB "Both" "inside" "Double", Hf.metB "Both" "word" "Both", Hf.metB "Both" "words" "Saying", Hf.metB "EachAlways" "inside" "Single", Hf.metB "EachAlways" "word" "EachAlways", Hf.metB "EachAlways" "words" "Saying", Hf.metB "EachEver" "inside" "Single", Hf.metB "EachEver" "word" "EachEver", Hf.metB "EachEver" "words" "Saying", Hf.metB "EachNext" "inside" "Single", Hf.metB "EachNext" "word" "EachNext", Hf.metB "EachNext" "words" "Saying", Hf.metB "EachTill" "inside" "Double", Hf.metB "EachTill" "word" "EachTill", Hf.metB "EachTill" "words" "Saying", Hf.metB "Either" "inside" "Double", Hf.metB "Either" "word" "Either"]
def fs3 : List Hf.FB := [Hf.metB "Either" "words" "Saying", Hf.metB "Mark" "inside" "Saying", Hf.metB "Mark" "word" "Mark", Hf.metB "Mark" "words" "Saying", Hf.metB "Not" "inside" "Single", Hf.metB "Not" "word" "Not", Hf.metB "Not" "words" "Saying", Hf.metB "SomeAlways" "inside" "Single", Hf.metB "SomeAlways" "word" "SomeAlways", Hf.metB "SomeAlways" "words" "Saying", Hf.metB "SomeEver" "inside" "Single", Hf.metB "SomeEver" "word" "SomeEver", Hf.metB "SomeEver" "words" "Saying", Hf.metB "SomeNext" "inside" "Single", Hf.metB "SomeNext" "word" "SomeNext", Hf.metB "SomeNext" "words" "Saying", Hf.metB "SomeTill" "inside" "Double", Hf.metB "SomeTill" "word" "SomeTill", Hf.metB "SomeTill" "words" "Saying", Hf.mkB "Both" "Double", Hf.mkB "EachAlways" "Single", Hf.mkB "EachEver" "Single", Hf.mkB "EachNext" "Single", Hf.mkB "EachTill" "Double"]
def fs4 : List Hf.FB := [Hf.mkB "Either" "Double", Hf.mkB "Mark" "Mark", Hf.mkB "Not" "Single", Hf.mkB "SomeAlways" "Single", Hf.mkB "SomeEver" "Single", Hf.mkB "SomeNext" "Single", Hf.mkB "SomeTill" "Double", Hf.mk0 "All", Hf.ins "All", Hf.ins "Both", Hf.ins "EachAlways", Hf.ins "EachEver", Hf.ins "EachNext", Hf.ins "EachTill", Hf.ins "Either", Hf.ins "Mark", Hf.ins "Not", Hf.ins "SomeAlways", Hf.ins "SomeEver", Hf.ins "SomeNext", Hf.ins "SomeTill", Hf.kit1 "All" "Saying" true, Hf.kit1 "Both" "Saying" true, Hf.kit1 "EachAlways" "Saying" true]
def fs5 : List Hf.FB := [Hf.kit1 "EachEver" "Saying" true, Hf.kit1 "EachNext" "Saying" true, Hf.kit1 "EachTill" "Saying" true, Hf.kit1 "Either" "Saying" true, Hf.kit1 "Mark" "Saying" true, Hf.kit1 "Not" "Saying" true, Hf.kit1 "SomeAlways" "Saying" true, Hf.kit1 "SomeEver" "Saying" true, Hf.kit1 "SomeNext" "Saying" true, Hf.kit1 "SomeTill" "Saying" true, Hf.fo (.free "isinstance"), Hf.fo (.free "len"), Hf.fo (.free "list"), Hf.fo (.free "range"), Hf.fo (.free "reversed"), Hf.fo (.free "str"), Hf.fo (.free "sum"), Hf.fo (.free "zip")]
def fs : List (List Hf.FB) := [fs0, fs1, fs2, fs3, fs4, fs5]
def fn0 : List He.DefD := [d_law_cell, d_law_grown, d_Double_init, d_Mark_init, d_Single_init, d_law_single, d_law_made, d_law_due, d_Saying_inside, d_Double_inside, d_Single_inside, d_All_word, d_Both_word, d_EachAlways_word, d_EachEver_word, d_EachNext_word, d_EachTill_word, d_Either_word, d_Mark_word, d_Not_word, d_SomeAlways_word, d_SomeEver_word, d_SomeNext_word, d_SomeTill_word, d_Saying_words, d_law_texts, d_law_name, d_law]
def fn : List He.DefD := fn0
def as0 : List Addr := [3, 59, 80, 106, 132, 158, 177, 196, 215, 234, 253, 272, 291, 310, 329, 348, 367, 376, 383, 388, 395, 400, 407, 414, 419, 58, 79, 105, 131, 157]
def as1 : List Addr := [176, 195, 214, 233, 252, 271, 290, 309, 328, 347, 366, 35, 42, 49, 77, 96, 103, 122, 129, 148, 155, 174, 193, 212, 231, 250, 269, 288, 307, 326]
def as2 : List Addr := [345, 364, 375, 382, 387, 394, 399, 406, 413, 418, 34, 41, 48, 76, 95, 102, 121, 128, 147, 154, 173, 192, 211, 230, 249, 268, 287, 306, 325, 344]
def as3 : List Addr := [363]
def as : List Addr := as0 ++ as1 ++ as2 ++ as3
def nm0 : List PySem.Str := ["_wall", "__name__", "Saying", "All", "Mark", "Single", "Double", "Not", "Both", "Either", "SomeNext", "EachNext", "SomeTill", "EachTill", "SomeAlways", "EachAlways", "SomeEver", "EachEver", "_law_cell", "_law_grown", "_law_made", "_law_single", "_law_name", "_law_due", "_law_texts"]
def nm : List PySem.Str := nm0
abbrev hk : PySem.W.Hook := Hf.hook as fs fn
def ob (s : PySem.W.SharedT) : He.AlD := Hf.obsA as fs fn (HandSHeadRun.getT s)
theorem ob_eq (s : PySem.W.SharedT) : ob s = hk.obs s.abs := Hf.obsA_eq (HandSHeadRun.getT_eq s)
--RUN
set_option maxRecDepth 100000 in
set_option maxHeartbeats 0 in
theorem run (w : World) : HandSHeadRun.RunEq R (PySem.W.view R.prog [26]) hk ob 12000 nm w := by
  intro os
  kernel_rfl
--FACTS
set_option maxHeartbeats 4000000 in
theorem facts {P : Program} {w : World} {K : PySem.W.Frag} {h : Heap} {mg : Str → Option Value} {fa : Addr} (X : K.In h) (G : h.Ns mainGlobals mg) (hfa : mg "law" = some (.ref fa)) (c : Hf.Says fs fn K) :
    ∃ fd : FuncData, (∀ (s : Shared) (v : Value), BindsTo s fd ⟨[v], []⟩ [("_law_script", v)]) ∧ ∀ base : Heap, K.In base → base.Ns mainGlobals mg → FnOk P w K mg base CX0 21 fa fd ["_law_script"] (spLaw K) := by
  have f_g_law_cell : (Hf.fo (.glo "_law_cell")) K = true := c.fact 0 0 (l := fs0) rfl rfl
  have f_g_law_grown : (Hf.fo (.glo "_law_grown")) K = true := c.fact 0 1 (l := fs0) rfl rfl
  have f_g_law_single : (Hf.fo (.glo "_law_single")) K = true := c.fact 0 2 (l := fs0) rfl rfl
  have f_g_law_made : (Hf.fo (.glo "_law_made")) K = true := c.fact 0 3 (l := fs0) rfl rfl
  have f_g_law_due : (Hf.fo (.glo "_law_due")) K = true := c.fact 0 4 (l := fs0) rfl rfl
  have f_g_law_texts : (Hf.fo (.glo "_law_texts")) K = true := c.fact 0 5 (l := fs0) rfl rfl
  have f_g_law_name : (Hf.fo (.glo "_law_name")) K = true := c.fact 0 6 (l := fs0) rfl rfl
  have f_g_law : (Hf.fo (.glo "law")) K = true := c.fact 0 7 (l := fs0) rfl rfl
  have f_m_All : (Hf.fo (.glo "All")) K = true := c.fact 0 8 (l := fs0) rfl rfl
  have f_cl_All : (Hf.fo (.cls "All")) K = true := c.fact 0 9 (l := fs0) rfl rfl
  have f_m_Both : (Hf.fo (.glo "Both")) K = true := c.fact 0 10 (l := fs0) rfl rfl
  have f_cl_Both : (Hf.fo (.cls "Both")) K = true := c.fact 0 11 (l := fs0) rfl rfl
  have f_m_EachAlways : (Hf.fo (.glo "EachAlways")) K = true := c.fact 0 12 (l := fs0) rfl rfl
  have f_cl_EachAlways : (Hf.fo (.cls "EachAlways")) K = true := c.fact 0 13 (l := fs0) rfl rfl
  have f_m_EachEver : (Hf.fo (.glo "EachEver")) K = true := c.fact 0 14 (l := fs0) rfl rfl
  have f_cl_EachEver : (Hf.fo (.cls "EachEver")) K = true := c.fact 0 15 (l := fs0) rfl rfl
  have f_m_EachNext : (Hf.fo (.glo "EachNext")) K = true := c.fact 0 16 (l := fs0) rfl rfl
  have f_cl_EachNext : (Hf.fo (.cls "EachNext")) K = true := c.fact 0 17 (l := fs0) rfl rfl
  have f_m_EachTill : (Hf.fo (.glo "EachTill")) K = true := c.fact 0 18 (l := fs0) rfl rfl
  have f_cl_EachTill : (Hf.fo (.cls "EachTill")) K = true := c.fact 0 19 (l := fs0) rfl rfl
  have f_m_Either : (Hf.fo (.glo "Either")) K = true := c.fact 0 20 (l := fs0) rfl rfl
  have f_cl_Either : (Hf.fo (.cls "Either")) K = true := c.fact 0 21 (l := fs0) rfl rfl
  have f_m_Mark : (Hf.fo (.glo "Mark")) K = true := c.fact 0 22 (l := fs0) rfl rfl
  have f_cl_Mark : (Hf.fo (.cls "Mark")) K = true := c.fact 0 23 (l := fs0) rfl rfl
  have f_m_Not : (Hf.fo (.glo "Not")) K = true := c.fact 1 0 (l := fs1) rfl rfl
  have f_cl_Not : (Hf.fo (.cls "Not")) K = true := c.fact 1 1 (l := fs1) rfl rfl
  have f_m_Saying : (Hf.fo (.glo "Saying")) K = true := c.fact 1 2 (l := fs1) rfl rfl
  have f_cl_Saying : (Hf.fo (.cls "Saying")) K = true := c.fact 1 3 (l := fs1) rfl rfl
  have f_m_SomeAlways : (Hf.fo (.glo "SomeAlways")) K = true := c.fact 1 4 (l := fs1) rfl rfl
  have f_cl_SomeAlways : (Hf.fo (.cls "SomeAlways")) K = true := c.fact 1 5 (l := fs1) rfl rfl
  have f_m_SomeEver : (Hf.fo (.glo "SomeEver")) K = true := c.fact 1 6 (l := fs1) rfl rfl
  have f_cl_SomeEver : (Hf.fo (.cls "SomeEver")) K = true := c.fact 1 7 (l := fs1) rfl rfl
  have f_m_SomeNext : (Hf.fo (.glo "SomeNext")) K = true := c.fact 1 8 (l := fs1) rfl rfl
  have f_cl_SomeNext : (Hf.fo (.cls "SomeNext")) K = true := c.fact 1 9 (l := fs1) rfl rfl
  have f_m_SomeTill : (Hf.fo (.glo "SomeTill")) K = true := c.fact 1 10 (l := fs1) rfl rfl
  have f_cl_SomeTill : (Hf.fo (.cls "SomeTill")) K = true := c.fact 1 11 (l := fs1) rfl rfl
  have f_na_Both_left : (Hf.fo (.noat "Both" "left")) K = true := c.fact 1 12 (l := fs1) rfl rfl
  have f_na_Both_right : (Hf.fo (.noat "Both" "right")) K = true := c.fact 1 13 (l := fs1) rfl rfl
  have f_na_EachAlways_part : (Hf.fo (.noat "EachAlways" "part")) K = true := c.fact 1 14 (l := fs1) rfl rfl
  have f_na_EachEver_part : (Hf.fo (.noat "EachEver" "part")) K = true := c.fact 1 15 (l := fs1) rfl rfl
  have f_na_EachNext_part : (Hf.fo (.noat "EachNext" "part")) K = true := c.fact 1 16 (l := fs1) rfl rfl
  have f_na_EachTill_left : (Hf.fo (.noat "EachTill" "left")) K = true := c.fact 1 17 (l := fs1) rfl rfl
  have f_na_EachTill_right : (Hf.fo (.noat "EachTill" "right")) K = true := c.fact 1 18 (l := fs1) rfl rfl
  have f_na_Either_left : (Hf.fo (.noat "Either" "left")) K = true := c.fact 1 19 (l := fs1) rfl rfl
  have f_na_Either_right : (Hf.fo (.noat "Either" "right")) K = true := c.fact 1 20 (l := fs1) rfl rfl
  have f_na_Mark_name : (Hf.fo (.noat "Mark" "name")) K = true := c.fact 1 21 (l := fs1) rfl rfl
  have f_na_Not_part : (Hf.fo (.noat "Not" "part")) K = true := c.fact 1 22 (l := fs1) rfl rfl
  have f_na_SomeAlways_part : (Hf.fo (.noat "SomeAlways" "part")) K = true := c.fact 1 23 (l := fs1) rfl rfl
  have f_na_SomeEver_part : (Hf.fo (.noat "SomeEver" "part")) K = true := c.fact 2 0 (l := fs2) rfl rfl
  have f_na_SomeNext_part : (Hf.fo (.noat "SomeNext" "part")) K = true := c.fact 2 1 (l := fs2) rfl rfl
  have f_na_SomeTill_left : (Hf.fo (.noat "SomeTill" "left")) K = true := c.fact 2 2 (l := fs2) rfl rfl
  have f_na_SomeTill_right : (Hf.fo (.noat "SomeTill" "right")) K = true := c.fact 2 3 (l := fs2) rfl rfl
  have f_me_All__inside : (Hf.metB "All" "inside" "Saying") K = true := c.fact 2 4 (l := fs2) rfl rfl
  have f_me_All__word : (Hf.metB "All" "word" "All") K = true := c.fact 2 5 (l := fs2) rfl rfl
  have f_me_All__words : (Hf.metB "All" "words" "Saying") K = true := c.fact 2 6 (l := fs2) rfl rfl
  have f_me_Both__inside : (Hf.metB "Both" "inside" "Double") K = true := c.fact 2 7 (l := fs2) rfl rfl
  have f_me_Both__word : (Hf.metB "Both" "word" "Both") K = true := c.fact 2 8 (l := fs2) rfl rfl
  have f_me_Both__words : (Hf.metB "Both" "words" "Saying") K = true := c.fact 2 9 (l := fs2) rfl rfl
  have f_me_EachAlways__inside : (Hf.metB "EachAlways" "inside" "Single") K = true := c.fact 2 10 (l := fs2) rfl rfl
  have f_me_EachAlways__word : (Hf.metB "EachAlways" "word" "EachAlways") K = true := c.fact 2 11 (l := fs2) rfl rfl
  have f_me_EachAlways__words : (Hf.metB "EachAlways" "words" "Saying") K = true := c.fact 2 12 (l := fs2) rfl rfl
  have f_me_EachEver__inside : (Hf.metB "EachEver" "inside" "Single") K = true := c.fact 2 13 (l := fs2) rfl rfl
  have f_me_EachEver__word : (Hf.metB "EachEver" "word" "EachEver") K = true := c.fact 2 14 (l := fs2) rfl rfl
  have f_me_EachEver__words : (Hf.metB "EachEver" "words" "Saying") K = true := c.fact 2 15 (l := fs2) rfl rfl
  have f_me_EachNext__inside : (Hf.metB "EachNext" "inside" "Single") K = true := c.fact 2 16 (l := fs2) rfl rfl
  have f_me_EachNext__word : (Hf.metB "EachNext" "word" "EachNext") K = true := c.fact 2 17 (l := fs2) rfl rfl
  have f_me_EachNext__words : (Hf.metB "EachNext" "words" "Saying") K = true := c.fact 2 18 (l := fs2) rfl rfl
  have f_me_EachTill__inside : (Hf.metB "EachTill" "inside" "Double") K = true := c.fact 2 19 (l := fs2) rfl rfl
  have f_me_EachTill__word : (Hf.metB "EachTill" "word" "EachTill") K = true := c.fact 2 20 (l := fs2) rfl rfl
  have f_me_EachTill__words : (Hf.metB "EachTill" "words" "Saying") K = true := c.fact 2 21 (l := fs2) rfl rfl
  have f_me_Either__inside : (Hf.metB "Either" "inside" "Double") K = true := c.fact 2 22 (l := fs2) rfl rfl
  have f_me_Either__word : (Hf.metB "Either" "word" "Either") K = true := c.fact 2 23 (l := fs2) rfl rfl
  have f_me_Either__words : (Hf.metB "Either" "words" "Saying") K = true := c.fact 3 0 (l := fs3) rfl rfl
  have f_me_Mark__inside : (Hf.metB "Mark" "inside" "Saying") K = true := c.fact 3 1 (l := fs3) rfl rfl
  have f_me_Mark__word : (Hf.metB "Mark" "word" "Mark") K = true := c.fact 3 2 (l := fs3) rfl rfl
  have f_me_Mark__words : (Hf.metB "Mark" "words" "Saying") K = true := c.fact 3 3 (l := fs3) rfl rfl
  have f_me_Not__inside : (Hf.metB "Not" "inside" "Single") K = true := c.fact 3 4 (l := fs3) rfl rfl
  have f_me_Not__word : (Hf.metB "Not" "word" "Not") K = true := c.fact 3 5 (l := fs3) rfl rfl
  have f_me_Not__words : (Hf.metB "Not" "words" "Saying") K = true := c.fact 3 6 (l := fs3) rfl rfl
  have f_me_SomeAlways__inside : (Hf.metB "SomeAlways" "inside" "Single") K = true := c.fact 3 7 (l := fs3) rfl rfl
  have f_me_SomeAlways__word : (Hf.metB "SomeAlways" "word" "SomeAlways") K = true := c.fact 3 8 (l := fs3) rfl rfl
  have f_me_SomeAlways__words : (Hf.metB "SomeAlways" "words" "Saying") K = true := c.fact 3 9 (l := fs3) rfl rfl
  have f_me_SomeEver__inside : (Hf.metB "SomeEver" "inside" "Single") K = true := c.fact 3 10 (l := fs3) rfl rfl
  have f_me_SomeEver__word : (Hf.metB "SomeEver" "word" "SomeEver") K = true := c.fact 3 11 (l := fs3) rfl rfl
  have f_me_SomeEver__words : (Hf.metB "SomeEver" "words" "Saying") K = true := c.fact 3 12 (l := fs3) rfl rfl
  have f_me_SomeNext__inside : (Hf.metB "SomeNext" "inside" "Single") K = true := c.fact 3 13 (l := fs3) rfl rfl
  have f_me_SomeNext__word : (Hf.metB "SomeNext" "word" "SomeNext") K = true := c.fact 3 14 (l := fs3) rfl rfl
  have f_me_SomeNext__words : (Hf.metB "SomeNext" "words" "Saying") K = true := c.fact 3 15 (l := fs3) rfl rfl
  have f_me_SomeTill__inside : (Hf.metB "SomeTill" "inside" "Double") K = true := c.fact 3 16 (l := fs3) rfl rfl
  have f_me_SomeTill__word : (Hf.metB "SomeTill" "word" "SomeTill") K = true := c.fact 3 17 (l := fs3) rfl rfl
  have f_me_SomeTill__words : (Hf.metB "SomeTill" "words" "Saying") K = true := c.fact 3 18 (l := fs3) rfl rfl
  have f_mk_Both : (Hf.mkB "Both" "Double") K = true := c.fact 3 19 (l := fs3) rfl rfl
  have f_mk_EachAlways : (Hf.mkB "EachAlways" "Single") K = true := c.fact 3 20 (l := fs3) rfl rfl
  have f_mk_EachEver : (Hf.mkB "EachEver" "Single") K = true := c.fact 3 21 (l := fs3) rfl rfl
  have f_mk_EachNext : (Hf.mkB "EachNext" "Single") K = true := c.fact 3 22 (l := fs3) rfl rfl
  have f_mk_EachTill : (Hf.mkB "EachTill" "Double") K = true := c.fact 3 23 (l := fs3) rfl rfl
  have f_mk_Either : (Hf.mkB "Either" "Double") K = true := c.fact 4 0 (l := fs4) rfl rfl
  have f_mk_Mark : (Hf.mkB "Mark" "Mark") K = true := c.fact 4 1 (l := fs4) rfl rfl
  have f_mk_Not : (Hf.mkB "Not" "Single") K = true := c.fact 4 2 (l := fs4) rfl rfl
  have f_mk_SomeAlways : (Hf.mkB "SomeAlways" "Single") K = true := c.fact 4 3 (l := fs4) rfl rfl
  have f_mk_SomeEver : (Hf.mkB "SomeEver" "Single") K = true := c.fact 4 4 (l := fs4) rfl rfl
  have f_mk_SomeNext : (Hf.mkB "SomeNext" "Single") K = true := c.fact 4 5 (l := fs4) rfl rfl
  have f_mk_SomeTill : (Hf.mkB "SomeTill" "Double") K = true := c.fact 4 6 (l := fs4) rfl rfl
  have f_k0_All : (Hf.mk0 "All") K = true := c.fact 4 7 (l := fs4) rfl rfl
  have f_ic_All : (Hf.ins "All") K = true := c.fact 4 8 (l := fs4) rfl rfl
  have f_ic_Both : (Hf.ins "Both") K = true := c.fact 4 9 (l := fs4) rfl rfl
  have f_ic_EachAlways : (Hf.ins "EachAlways") K = true := c.fact 4 10 (l := fs4) rfl rfl
  have f_ic_EachEver : (Hf.ins "EachEver") K = true := c.fact 4 11 (l := fs4) rfl rfl
  have f_ic_EachNext : (Hf.ins "EachNext") K = true := c.fact 4 12 (l := fs4) rfl rfl
  have f_ic_EachTill : (Hf.ins "EachTill") K = true := c.fact 4 13 (l := fs4) rfl rfl
  have f_ic_Either : (Hf.ins "Either") K = true := c.fact 4 14 (l := fs4) rfl rfl
  have f_ic_Mark : (Hf.ins "Mark") K = true := c.fact 4 15 (l := fs4) rfl rfl
  have f_ic_Not : (Hf.ins "Not") K = true := c.fact 4 16 (l := fs4) rfl rfl
  have f_ic_SomeAlways : (Hf.ins "SomeAlways") K = true := c.fact 4 17 (l := fs4) rfl rfl
  have f_ic_SomeEver : (Hf.ins "SomeEver") K = true := c.fact 4 18 (l := fs4) rfl rfl
  have f_ic_SomeNext : (Hf.ins "SomeNext") K = true := c.fact 4 19 (l := fs4) rfl rfl
  have f_ic_SomeTill : (Hf.ins "SomeTill") K = true := c.fact 4 20 (l := fs4) rfl rfl
  have f_ki_All__Saying : (Hf.kit1 "All" "Saying" true) K = true := c.fact 4 21 (l := fs4) rfl rfl
  have f_ki_Both__Saying : (Hf.kit1 "Both" "Saying" true) K = true := c.fact 4 22 (l := fs4) rfl rfl
  have f_ki_EachAlways__Saying : (Hf.kit1 "EachAlways" "Saying" true) K = true := c.fact 4 23 (l := fs4) rfl rfl
  have f_ki_EachEver__Saying : (Hf.kit1 "EachEver" "Saying" true) K = true := c.fact 5 0 (l := fs5) rfl rfl
  have f_ki_EachNext__Saying : (Hf.kit1 "EachNext" "Saying" true) K = true := c.fact 5 1 (l := fs5) rfl rfl
  have f_ki_EachTill__Saying : (Hf.kit1 "EachTill" "Saying" true) K = true := c.fact 5 2 (l := fs5) rfl rfl
  have f_ki_Either__Saying : (Hf.kit1 "Either" "Saying" true) K = true := c.fact 5 3 (l := fs5) rfl rfl
  have f_ki_Mark__Saying : (Hf.kit1 "Mark" "Saying" true) K = true := c.fact 5 4 (l := fs5) rfl rfl
  have f_ki_Not__Saying : (Hf.kit1 "Not" "Saying" true) K = true := c.fact 5 5 (l := fs5) rfl rfl
  have f_ki_SomeAlways__Saying : (Hf.kit1 "SomeAlways" "Saying" true) K = true := c.fact 5 6 (l := fs5) rfl rfl
  have f_ki_SomeEver__Saying : (Hf.kit1 "SomeEver" "Saying" true) K = true := c.fact 5 7 (l := fs5) rfl rfl
  have f_ki_SomeNext__Saying : (Hf.kit1 "SomeNext" "Saying" true) K = true := c.fact 5 8 (l := fs5) rfl rfl
  have f_ki_SomeTill__Saying : (Hf.kit1 "SomeTill" "Saying" true) K = true := c.fact 5 9 (l := fs5) rfl rfl
  have f_n_isinstance : (Hf.fo (.free "isinstance")) K = true := c.fact 5 10 (l := fs5) rfl rfl
  have f_n_len : (Hf.fo (.free "len")) K = true := c.fact 5 11 (l := fs5) rfl rfl
  have f_n_list : (Hf.fo (.free "list")) K = true := c.fact 5 12 (l := fs5) rfl rfl
  have f_n_range : (Hf.fo (.free "range")) K = true := c.fact 5 13 (l := fs5) rfl rfl
  have f_n_reversed : (Hf.fo (.free "reversed")) K = true := c.fact 5 14 (l := fs5) rfl rfl
  have f_n_str : (Hf.fo (.free "str")) K = true := c.fact 5 15 (l := fs5) rfl rfl
  have f_n_sum : (Hf.fo (.free "sum")) K = true := c.fact 5 16 (l := fs5) rfl rfl
  have f_n_zip : (Hf.fo (.free "zip")) K = true := c.fact 5 17 (l := fs5) rfl rfl
  have e := hfa.symm.trans (He.glo_ok X G f_g_law)
  cases e
  obtain ⟨fd_law_cell, X_law_cell⟩ := c.def_ 0 (d := d_law_cell) rfl
  have F_law_cell : Fun K "_law_cell" "_law_cell" s_law_cell (He.ga K "_law_cell") fd_law_cell := Hf.fun_of X_law_cell
  have b_law_cell := F_law_cell.binds (ps := ["_law_rest"]) fun _ _ _ _ _ _ us hl => match us, hl with | [_], _ => rfl
  obtain ⟨fd_law_grown, X_law_grown⟩ := c.def_ 1 (d := d_law_grown) rfl
  have F_law_grown : Fun K "_law_grown" "_law_grown" s_law_grown (He.ga K "_law_grown") fd_law_grown := Hf.fun_of X_law_grown
  have b_law_grown := F_law_grown.binds (ps := ["_law_rest", "_law_names", "_law_deep"]) fun _ _ _ _ _ _ us hl => match us, hl with | [_, _, _], _ => rfl
  obtain ⟨fd_Double_init, X_Double_init⟩ := c.def_ 2 (d := d_Double_init) rfl
  have F_Double_init : Fun K "__init__" "Double.__init__" s_Double_init (He.ma K (He.ga K "Double") "__init__") fd_Double_init := Hf.fun_of X_Double_init
  have b_Double_init := F_Double_init.binds (ps := ["self", "left", "right"]) fun _ _ _ _ _ _ us hl => match us, hl with | [_, _, _], _ => rfl
  obtain ⟨fd_Mark_init, X_Mark_init⟩ := c.def_ 3 (d := d_Mark_init) rfl
  have F_Mark_init : Fun K "__init__" "Mark.__init__" s_Mark_init (He.ma K (He.ga K "Mark") "__init__") fd_Mark_init := Hf.fun_of X_Mark_init
  have b_Mark_init := F_Mark_init.binds (ps := ["self", "name"]) fun _ _ _ _ _ _ us hl => match us, hl with | [_, _], _ => rfl
  obtain ⟨fd_Single_init, X_Single_init⟩ := c.def_ 4 (d := d_Single_init) rfl
  have F_Single_init : Fun K "__init__" "Single.__init__" s_Single_init (He.ma K (He.ga K "Single") "__init__") fd_Single_init := Hf.fun_of X_Single_init
  have b_Single_init := F_Single_init.binds (ps := ["self", "part"]) fun _ _ _ _ _ _ us hl => match us, hl with | [_, _], _ => rfl
  obtain ⟨fd_law_single, X_law_single⟩ := c.def_ 5 (d := d_law_single) rfl
  have F_law_single : Fun K "_law_single" "_law_single" s_law_single (He.ga K "_law_single") fd_law_single := Hf.fun_of X_law_single
  have b_law_single := F_law_single.binds (ps := ["_law_word", "_law_part"]) fun _ _ _ _ _ _ us hl => match us, hl with | [_, _], _ => rfl
  obtain ⟨fd_law_made, X_law_made⟩ := c.def_ 6 (d := d_law_made) rfl
  have F_law_made : Fun K "_law_made" "_law_made" s_law_made (He.ga K "_law_made") fd_law_made := Hf.fun_of X_law_made
  have b_law_made := F_law_made.binds (ps := ["_law_tree"]) fun _ _ _ _ _ _ us hl => match us, hl with | [_], _ => rfl
  obtain ⟨fd_law_due, X_law_due⟩ := c.def_ 7 (d := d_law_due) rfl
  have F_law_due : Fun K "_law_due" "_law_due" s_law_due (He.ga K "_law_due") fd_law_due := Hf.fun_of X_law_due
  have b_law_due := F_law_due.binds (ps := ["_law_tree"]) fun _ _ _ _ _ _ us hl => match us, hl with | [_], _ => rfl
  obtain ⟨fd_Saying_inside, X_Saying_inside⟩ := c.def_ 8 (d := d_Saying_inside) rfl
  have F_Saying_inside : Fun K "inside" "Saying.inside" s_Saying_inside (He.ma K (He.ga K "Saying") "inside") fd_Saying_inside := Hf.fun_of X_Saying_inside
  have b_Saying_inside := F_Saying_inside.binds (ps := ["self"]) fun _ _ _ _ _ _ us hl => match us, hl with | [_], _ => rfl
  obtain ⟨fd_Double_inside, X_Double_inside⟩ := c.def_ 9 (d := d_Double_inside) rfl
  have F_Double_inside : Fun K "inside" "Double.inside" s_Double_inside (He.ma K (He.ga K "Double") "inside") fd_Double_inside := Hf.fun_of X_Double_inside
  have b_Double_inside := F_Double_inside.binds (ps := ["self"]) fun _ _ _ _ _ _ us hl => match us, hl with | [_], _ => rfl
  obtain ⟨fd_Single_inside, X_Single_inside⟩ := c.def_ 10 (d := d_Single_inside) rfl
  have F_Single_inside : Fun K "inside" "Single.inside" s_Single_inside (He.ma K (He.ga K "Single") "inside") fd_Single_inside := Hf.fun_of X_Single_inside
  have b_Single_inside := F_Single_inside.binds (ps := ["self"]) fun _ _ _ _ _ _ us hl => match us, hl with | [_], _ => rfl
  obtain ⟨fd_All_word, X_All_word⟩ := c.def_ 11 (d := d_All_word) rfl
  have F_All_word : Fun K "word" "All.word" s_All_word (He.ma K (He.ga K "All") "word") fd_All_word := Hf.fun_of X_All_word
  have b_All_word := F_All_word.binds (ps := ["self"]) fun _ _ _ _ _ _ us hl => match us, hl with | [_], _ => rfl
  obtain ⟨fd_Both_word, X_Both_word⟩ := c.def_ 12 (d := d_Both_word) rfl
  have F_Both_word : Fun K "word" "Both.word" s_Both_word (He.ma K (He.ga K "Both") "word") fd_Both_word := Hf.fun_of X_Both_word
  have b_Both_word := F_Both_word.binds (ps := ["self"]) fun _ _ _ _ _ _ us hl => match us, hl with | [_], _ => rfl
  obtain ⟨fd_EachAlways_word, X_EachAlways_word⟩ := c.def_ 13 (d := d_EachAlways_word) rfl
  have F_EachAlways_word : Fun K "word" "EachAlways.word" s_EachAlways_word (He.ma K (He.ga K "EachAlways") "word") fd_EachAlways_word := Hf.fun_of X_EachAlways_word
  have b_EachAlways_word := F_EachAlways_word.binds (ps := ["self"]) fun _ _ _ _ _ _ us hl => match us, hl with | [_], _ => rfl
  obtain ⟨fd_EachEver_word, X_EachEver_word⟩ := c.def_ 14 (d := d_EachEver_word) rfl
  have F_EachEver_word : Fun K "word" "EachEver.word" s_EachEver_word (He.ma K (He.ga K "EachEver") "word") fd_EachEver_word := Hf.fun_of X_EachEver_word
  have b_EachEver_word := F_EachEver_word.binds (ps := ["self"]) fun _ _ _ _ _ _ us hl => match us, hl with | [_], _ => rfl
  obtain ⟨fd_EachNext_word, X_EachNext_word⟩ := c.def_ 15 (d := d_EachNext_word) rfl
  have F_EachNext_word : Fun K "word" "EachNext.word" s_EachNext_word (He.ma K (He.ga K "EachNext") "word") fd_EachNext_word := Hf.fun_of X_EachNext_word
  have b_EachNext_word := F_EachNext_word.binds (ps := ["self"]) fun _ _ _ _ _ _ us hl => match us, hl with | [_], _ => rfl
  obtain ⟨fd_EachTill_word, X_EachTill_word⟩ := c.def_ 16 (d := d_EachTill_word) rfl
  have F_EachTill_word : Fun K "word" "EachTill.word" s_EachTill_word (He.ma K (He.ga K "EachTill") "word") fd_EachTill_word := Hf.fun_of X_EachTill_word
  have b_EachTill_word := F_EachTill_word.binds (ps := ["self"]) fun _ _ _ _ _ _ us hl => match us, hl with | [_], _ => rfl
  obtain ⟨fd_Either_word, X_Either_word⟩ := c.def_ 17 (d := d_Either_word) rfl
  have F_Either_word : Fun K "word" "Either.word" s_Either_word (He.ma K (He.ga K "Either") "word") fd_Either_word := Hf.fun_of X_Either_word
  have b_Either_word := F_Either_word.binds (ps := ["self"]) fun _ _ _ _ _ _ us hl => match us, hl with | [_], _ => rfl
  obtain ⟨fd_Mark_word, X_Mark_word⟩ := c.def_ 18 (d := d_Mark_word) rfl
  have F_Mark_word : Fun K "word" "Mark.word" s_Mark_word (He.ma K (He.ga K "Mark") "word") fd_Mark_word := Hf.fun_of X_Mark_word
  have b_Mark_word := F_Mark_word.binds (ps := ["self"]) fun _ _ _ _ _ _ us hl => match us, hl with | [_], _ => rfl
  obtain ⟨fd_Not_word, X_Not_word⟩ := c.def_ 19 (d := d_Not_word) rfl
  have F_Not_word : Fun K "word" "Not.word" s_Not_word (He.ma K (He.ga K "Not") "word") fd_Not_word := Hf.fun_of X_Not_word
  have b_Not_word := F_Not_word.binds (ps := ["self"]) fun _ _ _ _ _ _ us hl => match us, hl with | [_], _ => rfl
  obtain ⟨fd_SomeAlways_word, X_SomeAlways_word⟩ := c.def_ 20 (d := d_SomeAlways_word) rfl
  have F_SomeAlways_word : Fun K "word" "SomeAlways.word" s_SomeAlways_word (He.ma K (He.ga K "SomeAlways") "word") fd_SomeAlways_word := Hf.fun_of X_SomeAlways_word
  have b_SomeAlways_word := F_SomeAlways_word.binds (ps := ["self"]) fun _ _ _ _ _ _ us hl => match us, hl with | [_], _ => rfl
  obtain ⟨fd_SomeEver_word, X_SomeEver_word⟩ := c.def_ 21 (d := d_SomeEver_word) rfl
  have F_SomeEver_word : Fun K "word" "SomeEver.word" s_SomeEver_word (He.ma K (He.ga K "SomeEver") "word") fd_SomeEver_word := Hf.fun_of X_SomeEver_word
  have b_SomeEver_word := F_SomeEver_word.binds (ps := ["self"]) fun _ _ _ _ _ _ us hl => match us, hl with | [_], _ => rfl
  obtain ⟨fd_SomeNext_word, X_SomeNext_word⟩ := c.def_ 22 (d := d_SomeNext_word) rfl
  have F_SomeNext_word : Fun K "word" "SomeNext.word" s_SomeNext_word (He.ma K (He.ga K "SomeNext") "word") fd_SomeNext_word := Hf.fun_of X_SomeNext_word
  have b_SomeNext_word := F_SomeNext_word.binds (ps := ["self"]) fun _ _ _ _ _ _ us hl => match us, hl with | [_], _ => rfl
  obtain ⟨fd_SomeTill_word, X_SomeTill_word⟩ := c.def_ 23 (d := d_SomeTill_word) rfl
  have F_SomeTill_word : Fun K "word" "SomeTill.word" s_SomeTill_word (He.ma K (He.ga K "SomeTill") "word") fd_SomeTill_word := Hf.fun_of X_SomeTill_word
  have b_SomeTill_word := F_SomeTill_word.binds (ps := ["self"]) fun _ _ _ _ _ _ us hl => match us, hl with | [_], _ => rfl
  obtain ⟨fd_Saying_words, X_Saying_words⟩ := c.def_ 24 (d := d_Saying_words) rfl
  have F_Saying_words : Fun K "words" "Saying.words" s_Saying_words (He.ma K (He.ga K "Saying") "words") fd_Saying_words := Hf.fun_of X_Saying_words
  have b_Saying_words := F_Saying_words.binds (ps := ["self"]) fun _ _ _ _ _ _ us hl => match us, hl with | [_], _ => rfl
  obtain ⟨fd_law_texts, X_law_texts⟩ := c.def_ 25 (d := d_law_texts) rfl
  have F_law_texts : Fun K "_law_texts" "_law_texts" s_law_texts (He.ga K "_law_texts") fd_law_texts := Hf.fun_of X_law_texts
  have b_law_texts := F_law_texts.binds (ps := ["_law_found", "_law_due_here"]) fun _ _ _ _ _ _ us hl => match us, hl with | [_, _], _ => rfl
  obtain ⟨fd_law_name, X_law_name⟩ := c.def_ 26 (d := d_law_name) rfl
  have F_law_name : Fun K "_law_name" "_law_name" s_law_name (He.ga K "_law_name") fd_law_name := Hf.fun_of X_law_name
  have b_law_name := F_law_name.binds (ps := ["_law_k", "_law_seed"]) fun _ _ _ _ _ _ us hl => match us, hl with | [_, _], _ => rfl
  obtain ⟨fd_law, X_law⟩ := c.def_ 27 (d := d_law) rfl
  have F_law : Fun K "law" "law" s_law (He.ga K "law") fd_law := Hf.fun_of X_law
  have b_law := F_law.binds (ps := ["_law_script"]) fun _ _ _ _ _ _ us hl => match us, hl with | [_], _ => rfl
  let E : Txt K mg := { C_All := He.ga K "All", m_All := He.glo_ok X G f_m_All, cl_All := He.cls_ok f_cl_All, C_Both := He.ga K "Both", m_Both := He.glo_ok X G f_m_Both, cl_Both := He.cls_ok f_cl_Both, C_EachAlways := He.ga K "EachAlways", m_EachAlways := He.glo_ok X G f_m_EachAlways, cl_EachAlways := He.cls_ok f_cl_EachAlways, C_EachEver := He.ga K "EachEver", m_EachEver := He.glo_ok X G f_m_EachEver, cl_EachEver := He.cls_ok f_cl_EachEver, C_EachNext := He.ga K "EachNext", m_EachNext := He.glo_ok X G f_m_EachNext, cl_EachNext := He.cls_ok f_cl_EachNext, C_EachTill := He.ga K "EachTill", m_EachTill := He.glo_ok X G f_m_EachTill, cl_EachTill := He.cls_ok f_cl_EachTill, C_Either := He.ga K "Either", m_Either := He.glo_ok X G f_m_Either, cl_Either := He.cls_ok f_cl_Either, C_Mark := He.ga K "Mark", m_Mark := He.glo_ok X G f_m_Mark, cl_Mark := He.cls_ok f_cl_Mark, C_Not := He.ga K "Not", m_Not := He.glo_ok X G f_m_Not, cl_Not := He.cls_ok f_cl_Not, C_Saying := He.ga K "Saying", m_Saying := He.glo_ok X G f_m_Saying, cl_Saying := He.cls_ok f_cl_Saying, C_SomeAlways := He.ga K "SomeAlways", m_SomeAlways := He.glo_ok X G f_m_SomeAlways, cl_SomeAlways := He.cls_ok f_cl_SomeAlways, C_SomeEver := He.ga K "SomeEver", m_SomeEver := He.glo_ok X G f_m_SomeEver, cl_SomeEver := He.cls_ok f_cl_SomeEver, C_SomeNext := He.ga K "SomeNext", m_SomeNext := He.glo_ok X G f_m_SomeNext, cl_SomeNext := He.cls_ok f_cl_SomeNext, C_SomeTill := He.ga K "SomeTill", m_SomeTill := He.glo_ok X G f_m_SomeTill, cl_SomeTill := He.cls_ok f_cl_SomeTill, na_Both_left := He.noat_ok f_na_Both_left, na_Both_right := He.noat_ok f_na_Both_right, na_EachAlways_part := He.noat_ok f_na_EachAlways_part, na_EachEver_part := He.noat_ok f_na_EachEver_part, na_EachNext_part := He.noat_ok f_na_EachNext_part, na_EachTill_left := He.noat_ok f_na_EachTill_left, na_EachTill_right := He.noat_ok f_na_EachTill_right, na_Either_left := He.noat_ok f_na_Either_left, na_Either_right := He.noat_ok f_na_Either_right, na_Mark_name := He.noat_ok f_na_Mark_name, na_Not_part := He.noat_ok f_na_Not_part, na_SomeAlways_part := He.noat_ok f_na_SomeAlways_part, na_SomeEver_part := He.noat_ok f_na_SomeEver_part, na_SomeNext_part := He.noat_ok f_na_SomeNext_part, na_SomeTill_left := He.noat_ok f_na_SomeTill_left, na_SomeTill_right := He.noat_ok f_na_SomeTill_right, a_law_cell := He.ga K "_law_cell", fd_law_cell := fd_law_cell, F_law_cell := F_law_cell, g_law_cell := He.glo_ok X G f_g_law_cell, b_law_cell := b_law_cell, a_law_grown := He.ga K "_law_grown", fd_law_grown := fd_law_grown, F_law_grown := F_law_grown, g_law_grown := He.glo_ok X G f_g_law_grown, b_law_grown := b_law_grown, a_Double_init := He.ma K (He.ga K "Double") "__init__", fd_Double_init := fd_Double_init, F_Double_init := F_Double_init, ds_Double_init_2 := [], b_Double_init_2 := ⟨.nil, b_Double_init⟩, a_Mark_init := He.ma K (He.ga K "Mark") "__init__", fd_Mark_init := fd_Mark_init, F_Mark_init := F_Mark_init, ds_Mark_init_1 := [], b_Mark_init_1 := ⟨.nil, b_Mark_init⟩, a_Single_init := He.ma K (He.ga K "Single") "__init__", fd_Single_init := fd_Single_init, F_Single_init := F_Single_init, ds_Single_init_1 := [], b_Single_init_1 := ⟨.nil, b_Single_init⟩, a_law_single := He.ga K "_law_single", fd_law_single := fd_law_single, F_law_single := F_law_single, g_law_single := He.glo_ok X G f_g_law_single, b_law_single := b_law_single, a_law_made := He.ga K "_law_made", fd_law_made := fd_law_made, F_law_made := F_law_made, g_law_made := He.glo_ok X G f_g_law_made, b_law_made := b_law_made, a_law_due := He.ga K "_law_due", fd_law_due := fd_law_due, F_law_due := F_law_due, g_law_due := He.glo_ok X G f_g_law_due, b_law_due := b_law_due, a_Saying_inside := He.ma K (He.ga K "Saying") "inside", fd_Saying_inside := fd_Saying_inside, F_Saying_inside := F_Saying_inside, b_Saying_inside := b_Saying_inside, a_Double_inside := He.ma K (He.ga K "Double") "inside", fd_Double_inside := fd_Double_inside, F_Double_inside := F_Double_inside, b_Double_inside := b_Double_inside, a_Single_inside := He.ma K (He.ga K "Single") "inside", fd_Single_inside := fd_Single_inside, F_Single_inside := F_Single_inside, b_Single_inside := b_Single_inside, a_All_word := He.ma K (He.ga K "All") "word", fd_All_word := fd_All_word, F_All_word := F_All_word, b_All_word := b_All_word, a_Both_word := He.ma K (He.ga K "Both") "word", fd_Both_word := fd_Both_word, F_Both_word := F_Both_word, b_Both_word := b_Both_word, a_EachAlways_word := He.ma K (He.ga K "EachAlways") "word", fd_EachAlways_word := fd_EachAlways_word, F_EachAlways_word := F_EachAlways_word, b_EachAlways_word := b_EachAlways_word, a_EachEver_word := He.ma K (He.ga K "EachEver") "word", fd_EachEver_word := fd_EachEver_word, F_EachEver_word := F_EachEver_word, b_EachEver_word := b_EachEver_word, a_EachNext_word := He.ma K (He.ga K "EachNext") "word", fd_EachNext_word := fd_EachNext_word, F_EachNext_word := F_EachNext_word, b_EachNext_word := b_EachNext_word, a_EachTill_word := He.ma K (He.ga K "EachTill") "word", fd_EachTill_word := fd_EachTill_word, F_EachTill_word := F_EachTill_word, b_EachTill_word := b_EachTill_word, a_Either_word := He.ma K (He.ga K "Either") "word", fd_Either_word := fd_Either_word, F_Either_word := F_Either_word, b_Either_word := b_Either_word, a_Mark_word := He.ma K (He.ga K "Mark") "word", fd_Mark_word := fd_Mark_word, F_Mark_word := F_Mark_word, b_Mark_word := b_Mark_word, a_Not_word := He.ma K (He.ga K "Not") "word", fd_Not_word := fd_Not_word, F_Not_word := F_Not_word, b_Not_word := b_Not_word, a_SomeAlways_word := He.ma K (He.ga K "SomeAlways") "word", fd_SomeAlways_word := fd_SomeAlways_word, F_SomeAlways_word := F_SomeAlways_word, b_SomeAlways_word := b_SomeAlways_word, a_SomeEver_word := He.ma K (He.ga K "SomeEver") "word", fd_SomeEver_word := fd_SomeEver_word, F_SomeEver_word := F_SomeEver_word, b_SomeEver_word := b_SomeEver_word, a_SomeNext_word := He.ma K (He.ga K "SomeNext") "word", fd_SomeNext_word := fd_SomeNext_word, F_SomeNext_word := F_SomeNext_word, b_SomeNext_word := b_SomeNext_word, a_SomeTill_word := He.ma K (He.ga K "SomeTill") "word", fd_SomeTill_word := fd_SomeTill_word, F_SomeTill_word := F_SomeTill_word, b_SomeTill_word := b_SomeTill_word, a_Saying_words := He.ma K (He.ga K "Saying") "words", fd_Saying_words := fd_Saying_words, F_Saying_words := F_Saying_words, b_Saying_words := b_Saying_words, a_law_texts := He.ga K "_law_texts", fd_law_texts := fd_law_texts, F_law_texts := F_law_texts, g_law_texts := He.glo_ok X G f_g_law_texts, b_law_texts := b_law_texts, a_law_name := He.ga K "_law_name", fd_law_name := fd_law_name, F_law_name := F_law_name, g_law_name := He.glo_ok X G f_g_law_name, b_law_name := b_law_name, a_law := He.ga K "law", fd_law := fd_law, F_law := F_law, g_law := He.glo_ok X G f_g_law, me_All__inside := Hf.metB_ok f_me_All__inside, me_All__word := Hf.metB_ok f_me_All__word, me_All__words := Hf.metB_ok f_me_All__words, me_Both__inside := Hf.metB_ok f_me_Both__inside, me_Both__word := Hf.metB_ok f_me_Both__word, me_Both__words := Hf.metB_ok f_me_Both__words, me_EachAlways__inside := Hf.metB_ok f_me_EachAlways__inside, me_EachAlways__word := Hf.metB_ok f_me_EachAlways__word, me_EachAlways__words := Hf.metB_ok f_me_EachAlways__words, me_EachEver__inside := Hf.metB_ok f_me_EachEver__inside, me_EachEver__word := Hf.metB_ok f_me_EachEver__word, me_EachEver__words := Hf.metB_ok f_me_EachEver__words, me_EachNext__inside := Hf.metB_ok f_me_EachNext__inside, me_EachNext__word := Hf.metB_ok f_me_EachNext__word, me_EachNext__words := Hf.metB_ok f_me_EachNext__words, me_EachTill__inside := Hf.metB_ok f_me_EachTill__inside, me_EachTill__word := Hf.metB_ok f_me_EachTill__word, me_EachTill__words := Hf.metB_ok f_me_EachTill__words, me_Either__inside := Hf.metB_ok f_me_Either__inside, me_Either__word := Hf.metB_ok f_me_Either__word, me_Either__words := Hf.metB_ok f_me_Either__words, me_Mark__inside := Hf.metB_ok f_me_Mark__inside, me_Mark__word := Hf.metB_ok f_me_Mark__word, me_Mark__words := Hf.metB_ok f_me_Mark__words, me_Not__inside := Hf.metB_ok f_me_Not__inside, me_Not__word := Hf.metB_ok f_me_Not__word, me_Not__words := Hf.metB_ok f_me_Not__words, me_SomeAlways__inside := Hf.metB_ok f_me_SomeAlways__inside, me_SomeAlways__word := Hf.metB_ok f_me_SomeAlways__word, me_SomeAlways__words := Hf.metB_ok f_me_SomeAlways__words, me_SomeEver__inside := Hf.metB_ok f_me_SomeEver__inside, me_SomeEver__word := Hf.metB_ok f_me_SomeEver__word, me_SomeEver__words := Hf.metB_ok f_me_SomeEver__words, me_SomeNext__inside := Hf.metB_ok f_me_SomeNext__inside, me_SomeNext__word := Hf.metB_ok f_me_SomeNext__word, me_SomeNext__words := Hf.metB_ok f_me_SomeNext__words, me_SomeTill__inside := Hf.metB_ok f_me_SomeTill__inside, me_SomeTill__word := Hf.metB_ok f_me_SomeTill__word, me_SomeTill__words := Hf.metB_ok f_me_SomeTill__words, mk_Both := Hf.mkB_ok f_mk_Both, mk_EachAlways := Hf.mkB_ok f_mk_EachAlways, mk_EachEver := Hf.mkB_ok f_mk_EachEver, mk_EachNext := Hf.mkB_ok f_mk_EachNext, mk_EachTill := Hf.mkB_ok f_mk_EachTill, mk_Either := Hf.mkB_ok f_mk_Either, mk_Mark := Hf.mkB_ok f_mk_Mark, mk_Not := Hf.mkB_ok f_mk_Not, mk_SomeAlways := Hf.mkB_ok f_mk_SomeAlways, mk_SomeEver := Hf.mkB_ok f_mk_SomeEver, mk_SomeNext := Hf.mkB_ok f_mk_SomeNext, mk_SomeTill := Hf.mkB_ok f_mk_SomeTill, k0_All := Hf.mk0_ok f_k0_All, ic_All := Hf.ins_ok (He.cls_ok f_cl_All) f_ic_All, ic_Both := Hf.ins_ok (He.cls_ok f_cl_Both) f_ic_Both, ic_EachAlways := Hf.ins_ok (He.cls_ok f_cl_EachAlways) f_ic_EachAlways, ic_EachEver := Hf.ins_ok (He.cls_ok f_cl_EachEver) f_ic_EachEver, ic_EachNext := Hf.ins_ok (He.cls_ok f_cl_EachNext) f_ic_EachNext, ic_EachTill := Hf.ins_ok (He.cls_ok f_cl_EachTill) f_ic_EachTill, ic_Either := Hf.ins_ok (He.cls_ok f_cl_Either) f_ic_Either, ic_Mark := Hf.ins_ok (He.cls_ok f_cl_Mark) f_ic_Mark, ic_Not := Hf.ins_ok (He.cls_ok f_cl_Not) f_ic_Not, ic_SomeAlways := Hf.ins_ok (He.cls_ok f_cl_SomeAlways) f_ic_SomeAlways, ic_SomeEver := Hf.ins_ok (He.cls_ok f_cl_SomeEver) f_ic_SomeEver, ic_SomeNext := Hf.ins_ok (He.cls_ok f_cl_SomeNext) f_ic_SomeNext, ic_SomeTill := Hf.ins_ok (He.cls_ok f_cl_SomeTill) f_ic_SomeTill, ki_All__Saying := Hf.kit1_ok f_ki_All__Saying, ki_Both__Saying := Hf.kit1_ok f_ki_Both__Saying, ki_EachAlways__Saying := Hf.kit1_ok f_ki_EachAlways__Saying, ki_EachEver__Saying := Hf.kit1_ok f_ki_EachEver__Saying, ki_EachNext__Saying := Hf.kit1_ok f_ki_EachNext__Saying, ki_EachTill__Saying := Hf.kit1_ok f_ki_EachTill__Saying, ki_Either__Saying := Hf.kit1_ok f_ki_Either__Saying, ki_Mark__Saying := Hf.kit1_ok f_ki_Mark__Saying, ki_Not__Saying := Hf.kit1_ok f_ki_Not__Saying, ki_SomeAlways__Saying := Hf.kit1_ok f_ki_SomeAlways__Saying, ki_SomeEver__Saying := Hf.kit1_ok f_ki_SomeEver__Saying, ki_SomeNext__Saying := Hf.kit1_ok f_ki_SomeNext__Saying, ki_SomeTill__Saying := Hf.kit1_ok f_ki_SomeTill__Saying, n_isinstance := He.free_ok X G f_n_isinstance, n_len := He.free_ok X G f_n_len, n_list := He.free_ok X G f_n_list, n_range := He.free_ok X G f_n_range, n_reversed := He.free_ok X G f_n_reversed, n_str := He.free_ok X G f_n_str, n_sum := He.free_ok X G f_n_sum, n_zip := He.free_ok X G f_n_zip }
  exact ⟨_, fun s v => FunD.bindsA (ps := ["_law_script"]) X_law (fun _ _ _ _ _ _ us hl => match us, hl with | [_], _ => rfl) s [v] rfl, fun base _ _ => (ok_law E).imp (law_imp Ma.law_true)⟩
end Hd
open PySem PySem.W PySem.Calls PyProof.Rows
set_option maxRecDepth 100000 in
set_option maxHeartbeats 0 in
theorem PySem.Challenge.cw_treesay_k11_words_of_sayings_holds : PySem.Challenge.rw_treesay_k11_words_of_sayings.Holds := by
  w_on; o_law
  refine HandSHeadRun.head_any (r := OpenLaw.row PySem.Challenge.rw_treesay_k11_words_of_sayings) (q := view (OpenLaw.row PySem.Challenge.rw_treesay_k11_words_of_sayings).prog [26]) (H := Hd.hk) (ob := Hd.ob) (M := 12000) (loose := Hd.nm) (d := HandSHeadRun.topDef (OpenLaw.row PySem.Challenge.rw_treesay_k11_words_of_sayings).prog 26) (kwd := []) Hd.ob_eq
    (by kernel_rfl) (fun s => by kernel_rfl) Hd.run (by kernel_rfl) (by kernel_rfl) (by kernel_rfl) (by rfl) (by first | assumption | decide +kernel) (by decide +kernel) ⟨rfl, rfl, rfl, rfl, rfl, by decide +kernel⟩ ?hw ?hc
  case hw => w_witness2
  case hc =>
    refine L2.walk_ofE (l := PySem.Challenge.rw_treesay_k11_words_of_sayings) (n := 63) (k := 21) (x := "_law_script") (CX := L2.CX0) rfl (by decide) (by kernel_rfl) ⟨rfl, by decide, by decide⟩ ?F (fun _ _ _ _ z => z)
    intro w mg fa h Y G hmg0
    obtain ⟨K, KX, c⟩ := Y
    have hmg : mg ("law" : PySem.Str) = some (.ref fa) := by
      have e : (HandSHeadRun.topDef (OpenLaw.row PySem.Challenge.rw_treesay_k11_words_of_sayings).prog 26).name = ("law" : PySem.Str) := by kernel_rfl
      rw [← e]
      exact hmg0
    obtain ⟨fd, hb, hF⟩ := Hd.facts (P := (PySem.Challenge.rw_treesay_k11_words_of_sayings).prog) (w := w) KX G hmg c
    exact ⟨K, fd, Tr.spLaw K, KX, hb, fun H a ns hl _ hS => ⟨a, ns, rfl, hS, hl, fun _ => rfl⟩, hF⟩


