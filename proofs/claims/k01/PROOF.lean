import PyProof.Rows.All
import Wide.All
import OpenK.AllK
import Wide.FinOn
import HandS.ForMost
import HandS.Codes
import HandS.TupLen
import KE.KeyNested
import HandS.NoneIn
import HandS.More
import HandS.SetFor
import HandS.SortInts
import HandS.IsInst
import HandS.Defaults
import HandS.Conv
import HandS.Zip
import HandS.RevRange
import HandS.Deep
import HandS.SetKeys
import HandS.Strs
import HandS.WordsExc
import HandS.ExcOwn
import HandS.ExcIs
import HandS.Text
import KE.KStateDown
import HandS.Head0
import HandS.Head1
import HandS.Head2
import HandS.HeadEnd
import HandS.HeadHook1
import HandS.HeadHook2
import PySem.Challenge.RW_treesay_k01_machines_told
set_option Elab.async false
set_option linter.all false
set_option maxRecDepth 100000
set_option maxHeartbeats 4000000
/-! D0: dicts whose keys are tuples of numbers, nested. -/
namespace Tr
open PySem PySem.Spec PyProof.Rows L2

mutual
/-- numbers and tuples of such alone -/
def nOnly : NestedKey → Bool
  | .num _ => true
  | .tup ks => nOnlys ks
  | _ => false
def nOnlys : List NestedKey → Bool
  | [] => true
  | k :: ks => nOnly k && nOnlys ks
end
mutual
theorem hash_any (w w' : World) : ∀ k : NestedKey, nOnly k = true → k.hash w = k.hash w'
  | .none, h => by simp [nOnly] at h
  | .text _, h => by simp [nOnly] at h
  | .num _, _ => rfl
  | .tup ks, h => by
    rw [NestedKey.hash, NestedKey.hash, hashes_any w w' ks (by simpa [nOnly] using h)]
theorem hashes_any (w w' : World) : ∀ ks : List NestedKey, nOnlys ks = true → NestedKey.hashes w ks = NestedKey.hashes w' ks
  | [], _ => rfl
  | k :: ks, h => by
    simp only [nOnlys, Bool.and_eq_true] at h
    rw [NestedKey.hashes, NestedKey.hashes, hash_any w w' k h.1, hashes_any w w' ks h.2]
end
abbrev NEnt := NestedKey × Addr × Value
def entN (w : World) (x : NEnt) : DictEntry := ⟨x.1.hash w, .ref x.2.1, x.2.2⟩
/-- the dict at a -/
def DictN (a : Addr) (xs : List NEnt) : HO := .ext fun h => (a == sysModules) = false ∧ ∃ o es ep, h.get? a = some o ∧ o.ExactDict ∧ o.data = .dict es ep ∧ ∀ w : World, es.toList = xs.map (entN w)
def intV : Value → Option Int
  | .int i _ => some i
  | _ => none
theorem intV_rel {u : Value} {i : Int} (h : intV u = some i) : RelV (.int i) u := by
  cases u <;> simp [intV] at h
  subst h
  exact ⟨_, rfl⟩
/-- the address is the one at which it stands -/
theorem dictN_addr {P : Program} {w : World} {H : Hp} {h : Heap} {a a0 : Addr} {xs : List NEnt} (ok : ObjOk P w H h a (DictN a0 xs)) : a0 = a := by
  obtain ⟨⟨n0, o, es, ep, ho, hx, hd, he⟩, _, st⟩ := ok
  apply Classical.byContradiction
  intro ne
  have g : ∀ b : Addr, (h.update a0 fun o => { o with data := .fields #[] }).get? b = if b = a0 then (h.get? b).map (fun o => { o with data := .fields #[] }) else h.get? b := by
    intro b
    obtain ⟨objs, life⟩ := h
    show Heap.get? ⟨objs.modify a0 _, life⟩ b = _
    unfold Heap.get?
    simp only [Array.getElem?_modify]
    by_cases e : a0 = b
    · subst e
      rw [if_pos rfl, if_pos rfl]
      have ho' : Heap.get? ⟨objs, life⟩ a0 = some o := ho
      unfold Heap.get? at ho'
      cases hq : objs[a0]? with
      | none => rfl
      | some q =>
        rw [hq] at ho'
        obtain ⟨c, d, dt, s⟩ := q
        cases dt <;> simp_all
    · rw [if_neg e, if_neg fun z => e z.symm]
  obtain ⟨_, o2, es2, ep2, ho2, _, hd2, _⟩ := st h _ ⟨n0, o, es, ep, ho, hx, hd, he⟩ fun o' e => by
    rw [g a, if_neg fun z => ne z.symm]; exact e
  rw [g a0, if_pos rfl, ho] at ho2
  cases ho2
  cases hd2
end Tr


set_option Elab.async false
set_option linter.all false
set_option maxRecDepth 100000
set_option maxHeartbeats 4000000
/-! D1: trees, how a heap holds them, who owns what. -/
namespace Tr
open PySem PySem.Spec PyProof.Rows L2

/-- the kind of a node -/
inductive Kd where
  | lst | tup | rol | rot | dK (ks : List Key) | dL (ks : List Key) | dT (ks : List (List Key)) | dN (ks : List NestedKey) (ds : List Int) | ins (c : Str) (ns : List Str)
/-- a value as a tree; o: owned by the one place where it stands -/
inductive T where
  | no | lf (v : V) | nd (o : Bool) (k : Kd) (xs : List T)

def sc : V → Bool
  | .ref _ => false
  | _ => true

mutual
def frz : T → T
  | .no => .no
  | .lf v => .lf v
  | .nd _ k xs => .nd false k (frzs xs)
def frzs : List T → List T
  | [] => []
  | t :: ts => frz t :: frzs ts
end
mutual
/-- nothing owned in it -/
def cln : T → Bool
  | .no => true
  | .lf _ => true
  | .nd o _ xs => !o && clns xs
def clns : List T → Bool
  | [] => true
  | t :: ts => cln t && clns ts
end
theorem frzs_map : ∀ ts : List T, frzs ts = ts.map frz
  | [] => rfl
  | t :: ts => by rw [frzs, frzs_map ts]; rfl
theorem clns_all : ∀ ts : List T, clns ts = ts.all cln
  | [] => rfl
  | t :: ts => by rw [clns, clns_all ts]; rfl

abbrev AS := Addr → Prop
def Dj (A B : AS) : Prop := ∀ x, A x → ¬ B x
def Cup (A B : AS) : AS := fun x => A x ∨ B x
def Emp : AS := fun _ => False
abbrev Mg := Str → Option Value

/-- what stands at an address is a node of kind k with these parts -/
def Cont (mg : Mg) : Kd → HO → List V → Prop
  | .lst, o, vs => o = .lst vs
  | .tup, o, vs => o = .tup vs
  | .dK ks, o, vs => ks.length = vs.length ∧ o = .dK (ks.zip vs)
  | .dL ks, o, vs => ks.length = vs.length ∧ ∃ od, o = .frz od (.dK (ks.zip vs))
  | .dT ks, o, vs => ks.length = vs.length ∧ o = .dT (ks.zip vs)
  | .dN ks ds, o, vs => ∃ a0 xs, o = DictN a0 xs ∧ xs.map (·.1) = ks ∧ vs = xs.map (fun x => V.ref x.2.1) ∧ xs.map (fun x => intV x.2.2) = ds.map some
  | .ins c ns, o, vs => ns.length = vs.length ∧ ∃ C dx, o = .ins C dx (ns.zip vs) ∧ mg c = some (.ref C)
  | _, _, _ => False

section
variable (K : PySem.W.Frag) (mg : Mg) (F H : Hp)
mutual
inductive Rep : V → T → AS → Prop
  | no {v : V} {S : AS} : (∀ x, ¬ S x) → Rep v .no S
  | lf {v : V} {S : AS} : sc v = true → (∀ x, ¬ S x) → Rep v (.lf v) S
  | own {a : Addr} {k : Kd} {o : HO} {vs : List V} {xs : List T} {S S0 : AS} : H a = some o → F a = none → Cont mg k o vs → Reps vs xs S0 → ¬ S0 a → (∀ x, S x ↔ x = a ∨ S0 x) → Rep (.ref a) (.nd true k xs) S
  | frz {a : Addr} {k : Kd} {o : HO} {vs : List V} {xs : List T} {S : AS} : F a = some o → Cont mg k o vs → Reps vs xs S → Rep (.ref a) (.nd false k xs) S
  | rol {a : Addr} {vs : List V} {xs : List T} {S : AS} : SqL K F a vs → Reps vs xs S → Rep (.ref a) (.nd false .rol xs) S
  | rot {a : Addr} {vs : List V} {xs : List T} {S : AS} : SqT K F a vs → Reps vs xs S → Rep (.ref a) (.nd false .rot xs) S
inductive Reps : List V → List T → AS → Prop
  | nil {S : AS} : (∀ x, ¬ S x) → Reps [] [] S
  | cons {v : V} {t : T} {vs : List V} {ts : List T} {S S1 S2 : AS} : Rep v t S1 → Reps vs ts S2 → Dj S1 S2 → (∀ x, S x ↔ S1 x ∨ S2 x) → Reps (v :: vs) (t :: ts) S
end
end

/-- every fact of F stands in H -/
def Le (F H : Hp) : Prop := ∀ a o, F a = some o → H a = some o
theorem Le.refl (F : Hp) : Le F F := fun _ _ h => h
theorem Le.trans {A B C : Hp} (h : Le A B) (k : Le B C) : Le A C := fun a o q => k a o (h a o q)
theorem Le.sqL {K : PySem.W.Frag} {F H : Hp} {a : Addr} {xs : List V} (e : Le F H) (h : SqL K F a xs) : SqL K H a xs := Same.seq e h
theorem Le.sqT {K : PySem.W.Frag} {F H : Hp} {a : Addr} {xs : List V} (e : Le F H) (h : SqT K F a xs) : SqT K H a xs := by
  rcases h with (h | ⟨o, h⟩) | h
  · exact .inl (.inl (e _ _ h))
  · exact .inl (.inr ⟨o, e _ _ h⟩)
  · exact .inr h
theorem Le.nn {F H : Hp} (e : Le F H) {a : Addr} (h : H a = none) : F a = none := by
  cases q : F a with
  | none => rfl
  | some o => rw [e a o q] at h; cases h

section
variable {K : PySem.W.Frag} {mg : Mg} {F H F' H' : Hp}
mutual
theorem Rep.frame (ff : Le F F') : ∀ {v : V} {t : T} {S : AS}, Rep K mg F H v t S → (∀ x, S x → H' x = H x ∧ F' x = none) → Rep K mg F' H' v t S
  | _, _, _, .no h, _ => .no h
  | _, _, _, .lf h h2, _ => .lf h h2
  | _, _, _, .own h1 h2 c r na hS, k => .own ((k _ ((hS _).mpr (.inl rfl))).1.trans h1) (k _ ((hS _).mpr (.inl rfl))).2 c (Reps.frame ff r fun x hx => k x ((hS x).mpr (.inr hx))) na hS
  | _, _, _, .frz h c r, k => .frz (ff _ _ h) c (Reps.frame ff r k)
  | _, _, _, .rol h r, k => .rol (ff.sqL h) (Reps.frame ff r k)
  | _, _, _, .rot h r, k => .rot (ff.sqT h) (Reps.frame ff r k)
theorem Reps.frame (ff : Le F F') : ∀ {vs : List V} {ts : List T} {S : AS}, Reps K mg F H vs ts S → (∀ x, S x → H' x = H x ∧ F' x = none) → Reps K mg F' H' vs ts S
  | _, _, _, .nil h, _ => .nil h
  | _, _, _, .cons r q d hS, k => .cons (Rep.frame ff r fun x hx => k x ((hS x).mpr (.inl hx))) (Reps.frame ff q fun x hx => k x ((hS x).mpr (.inr hx))) d hS
end
mutual
/-- the owned addresses stand, and are not frozen -/
theorem Rep.dom : ∀ {v : V} {t : T} {S : AS}, Rep K mg F H v t S → ∀ x, S x → (∃ o, H x = some o) ∧ F x = none
  | _, _, _, .no h, x, hx => (h x hx).elim
  | _, _, _, .lf _ h, x, hx => (h x hx).elim
  | _, _, _, .own h1 h2 _ r _ hS, x, hx => ((hS x).mp hx).elim (fun e => by subst e; exact ⟨⟨_, h1⟩, h2⟩) fun q => Reps.dom r x q
  | _, _, _, .frz _ _ r, x, hx => Reps.dom r x hx
  | _, _, _, .rol _ r, x, hx => Reps.dom r x hx
  | _, _, _, .rot _ r, x, hx => Reps.dom r x hx
theorem Reps.dom : ∀ {vs : List V} {ts : List T} {S : AS}, Reps K mg F H vs ts S → ∀ x, S x → (∃ o, H x = some o) ∧ F x = none
  | _, _, _, .nil h, x, hx => (h x hx).elim
  | _, _, _, .cons r q _ hS, x, hx => ((hS x).mp hx).elim (fun z => Rep.dom r x z) fun z => Reps.dom q x z
end
mutual
theorem Rep.clean : ∀ {v : V} {t : T} {S : AS}, Rep K mg F H v t S → cln t = true → ∀ x, ¬ S x
  | _, _, _, .no h, _ => h
  | _, _, _, .lf _ h, _ => h
  | _, _, _, .own .., c => by simp [cln] at c
  | _, _, _, .frz _ _ r, c => Reps.clean r (by simpa [cln] using c)
  | _, _, _, .rol _ r, c => Reps.clean r (by simpa [cln] using c)
  | _, _, _, .rot _ r, c => Reps.clean r (by simpa [cln] using c)
theorem Reps.clean : ∀ {vs : List V} {ts : List T} {S : AS}, Reps K mg F H vs ts S → clns ts = true → ∀ x, ¬ S x
  | _, _, _, .nil h, _ => h
  | _, _, _, .cons r q _ hS, c => by
    simp only [clns, Bool.and_eq_true] at c
    intro x hx
    exact ((hS x).mp hx).elim (Rep.clean r c.1 x) (Reps.clean q c.2 x)
end
mutual
/-- sharing: the owned addresses become frozen -/
theorem Rep.freeze (ff : Le F F') : ∀ {v : V} {t : T} {S S' : AS}, Rep K mg F H v t S → (∀ x, S x → F' x = H x) → (∀ x, ¬ S' x) → Rep K mg F' H' v (frz t) S'
  | _, _, _, _, .no _, _, e => by rw [frz]; exact .no e
  | _, _, _, _, .lf h _, _, e => by rw [frz]; exact .lf h e
  | _, _, _, _, .own h1 h2 c r _ hS, k, e => by
    rw [frz]
    exact .frz ((k _ ((hS _).mpr (.inl rfl))).trans h1) c (Reps.freeze ff r (fun x hx => k x ((hS x).mpr (.inr hx))) e)
  | _, _, _, _, .frz h c r, k, e => by rw [frz]; exact .frz (ff _ _ h) c (Reps.freeze ff r k e)
  | _, _, _, _, .rol h r, k, e => by rw [frz]; exact .rol (ff.sqL h) (Reps.freeze ff r k e)
  | _, _, _, _, .rot h r, k, e => by rw [frz]; exact .rot (ff.sqT h) (Reps.freeze ff r k e)
theorem Reps.freeze (ff : Le F F') : ∀ {vs : List V} {ts : List T} {S S' : AS}, Reps K mg F H vs ts S → (∀ x, S x → F' x = H x) → (∀ x, ¬ S' x) → Reps K mg F' H' vs (frzs ts) S'
  | _, _, _, _, .nil _, _, e => by rw [frzs]; exact .nil e
  | _, _, _, S', .cons r q _ hS, k, e => by
    rw [frzs]
    exact .cons (S1 := S') (S2 := S') (Rep.freeze ff r (fun x hx => k x ((hS x).mpr (.inl hx))) e) (Reps.freeze ff q (fun x hx => k x ((hS x).mpr (.inr hx))) e) (fun x hx => (e x hx).elim) (fun x => ⟨fun h => .inl h, fun h => h.elim id id⟩)
end
theorem Rep.iff {v : V} {t : T} {S S' : AS} (r : Rep K mg F H v t S) (h : ∀ x, S' x ↔ S x) : Rep K mg F H v t S' := by
  have e : S' = S := funext fun x => propext (h x)
  rw [e]; exact r
theorem Reps.iff {vs : List V} {ts : List T} {S S' : AS} (r : Reps K mg F H vs ts S) (h : ∀ x, S' x ↔ S x) : Reps K mg F H vs ts S' := by
  have e : S' = S := funext fun x => propext (h x)
  rw [e]; exact r
theorem Rep.clean0 {v : V} {t : T} {S : AS} (r : Rep K mg F H v t S) (c : cln t = true) : Rep K mg F H v t Emp :=
  r.iff fun x => ⟨fun z => z.elim, fun z => r.clean c x z⟩
theorem Reps.clean0 {vs : List V} {ts : List T} {S : AS} (r : Reps K mg F H vs ts S) (c : clns ts = true) : Reps K mg F H vs ts Emp :=
  r.iff fun x => ⟨fun z => z.elim, fun z => r.clean c x z⟩
/-- a clean tree outlives all -/
theorem Rep.stay {v : V} {t : T} {S : AS} (ff : Le F F') (r : Rep K mg F H v t S) (c : cln t = true) : Rep K mg F' H' v t Emp :=
  (r.clean0 c).frame ff fun _ z => z.elim
theorem Reps.stay {vs : List V} {ts : List T} {S : AS} (ff : Le F F') (r : Reps K mg F H vs ts S) (c : clns ts = true) : Reps K mg F' H' vs ts Emp :=
  (r.clean0 c).frame ff fun _ z => z.elim
theorem Reps.length {S : AS} : ∀ {vs : List V} {ts : List T} {S : AS}, Reps K mg F H vs ts S → vs.length = ts.length
  | _, _, _, .nil _ => rfl
  | _, _, _, .cons _ q _ _ => congrArg (· + 1) (Reps.length (S := S) q)
theorem Reps.get {vs : List V} {ts : List T} {S : AS} (r : Reps K mg F H vs ts S) : ∀ {i : Nat} {t : T}, ts[i]? = some t → ∃ v R, vs[i]? = some v ∧ Rep K mg F H v t R ∧ ∀ x, R x → S x := by
  intro i
  induction i generalizing vs ts S with
  | zero =>
    intro t h
    cases r with
    | nil _ => simp at h
    | cons r q d hS => simp at h; subst h; exact ⟨_, _, by simp, r, fun x z => (hS x).mpr (.inl z)⟩
  | succ i ih =>
    intro t h
    cases r with
    | nil _ => simp at h
    | cons r q d hS =>
      obtain ⟨v, R, h1, h2, h3⟩ := ih q (by simpa using h)
      exact ⟨v, R, by simpa using h1, h2, fun x z => (hS x).mpr (.inr (h3 x z))⟩
end

/-! ### a step of the heap -/
/-- from custody S to custody S' -/
structure Stp (F H : Hp) (S : AS) (F' H' : Hp) (S' : AS) : Prop where
  ff : Le F F'
  kp : ∀ a o, H a = some o → ¬ S a → H' a = some o
  nf : ∀ a o, F' a = some o → F a = some o ∨ S a ∨ H a = none
  no : ∀ a, S' a → S a ∨ H a = none
section
variable {F H F1 H1 F2 H2 : Hp} {S S1 S2 R : AS}
theorem Stp.refl : Stp F H S F H S := ⟨Le.refl _, fun _ _ h _ => h, fun _ _ h => .inl h, fun _ h => .inl h⟩
theorem Stp.weak (h : Stp F H S F1 H1 S1) (k : ∀ a, S2 a → S1 a) : Stp F H S F1 H1 S2 := ⟨h.ff, h.kp, h.nf, fun a z => h.no a (k a z)⟩
theorem Stp.nn (h : Stp F H S F1 H1 S1) {a : Addr} (hn : H1 a = none) : S a ∨ H a = none := by
  cases q : H a with
  | none => exact .inr rfl
  | some o =>
    refine Classical.byContradiction fun z => ?_
    have := h.kp a o q fun s => z (.inl s)
    rw [hn] at this; cases this
theorem Stp.trans (a : Stp F H S F1 H1 S1) (b : Stp F1 H1 S1 F2 H2 S2) : Stp F H S F2 H2 S2 where
  ff := a.ff.trans b.ff
  kp := fun x o h n => b.kp x o (a.kp x o h n) fun s => (a.no x s).elim n fun z => by rw [h] at z; cases z
  nf := fun x o h => by
    rcases b.nf x o h with h | h | h
    · exact a.nf x o h
    · exact .inr (a.no x h)
    · exact .inr (a.nn h)
  no := fun x h => by
    rcases b.no x h with h | h
    · exact a.no x h
    · exact a.nn h
/-- others' custody beside -/
theorem Stp.frame (a : Stp F H S F1 H1 S1) (R : AS) : Stp F H (Cup S R) F1 H1 (Cup S1 R) :=
  ⟨a.ff, fun x o h n => a.kp x o h fun s => n (.inl s), fun x o h => (a.nf x o h).elim .inl fun z => .inr (z.elim (fun s => .inl (.inl s)) .inr), fun x h => h.elim (fun z => (a.no x z).elim (fun s => .inl (.inl s)) .inr) fun z => .inl (.inr z)⟩
theorem Stp.frameL (a : Stp F H S F1 H1 S1) (R : AS) : Stp F H (Cup R S) F1 H1 (Cup R S1) :=
  ⟨a.ff, fun x o h n => a.kp x o h fun s => n (.inr s), fun x o h => (a.nf x o h).elim .inl fun z => .inr (z.elim (fun s => .inl (.inr s)) .inr), fun x h => h.elim (fun z => .inl (.inl z)) fun z => (a.no x z).elim (fun s => .inl (.inr s)) .inr⟩
theorem Stp.big (a : Stp F H S F1 H1 S1) {R : AS} (h : ∀ x, S x → R x) : Stp F H R F1 H1 S1 :=
  ⟨a.ff, fun x o q n => a.kp x o q fun s => n (h x s), fun x o q => (a.nf x o q).elim .inl fun z => .inr (z.elim (fun s => .inl (h x s)) .inr), fun x q => (a.no x q).elim (fun s => .inl (h x s)) .inr⟩
/-- what stands outside of the custody stays as it is -/
theorem Stp.keeps (a : Stp F H S F1 H1 S1) (hR : ∀ x, R x → (∃ o, H x = some o) ∧ F x = none) (d : Dj S R) : ∀ x, R x → H1 x = H x ∧ F1 x = none := fun x hx => by
  obtain ⟨⟨o, e⟩, f⟩ := hR x hx
  refine ⟨(a.kp x o e fun s => d x s hx).trans e.symm, ?_⟩
  cases q : F1 x with
  | none => rfl
  | some u =>
    rcases a.nf x u q with z | z | z
    · rw [f] at z; cases z
    · exact (d x z hx).elim
    · rw [e] at z; cases z
theorem Stp.dj (a : Stp F H S F1 H1 S1) (hR : ∀ x, R x → (∃ o, H x = some o)) (d : Dj S R) : Dj S1 R := fun x s r => by
  obtain ⟨o, e⟩ := hR x r
  rcases a.no x s with z | z
  · exact d x z r
  · rw [e] at z; cases z
end
theorem Rep.keep {K : PySem.W.Frag} {mg : Mg} {F H F1 H1 : Hp} {S S1 R : AS} {v : V} {t : T} (r : Rep K mg F H v t R) (a : Stp F H S F1 H1 S1) (d : Dj S R) : Rep K mg F1 H1 v t R :=
  r.frame a.ff (a.keeps r.dom d)
theorem Reps.keep {K : PySem.W.Frag} {mg : Mg} {F H F1 H1 : Hp} {S S1 R : AS} {vs : List V} {ts : List T} (r : Reps K mg F H vs ts R) (a : Stp F H S F1 H1 S1) (d : Dj S R) : Reps K mg F1 H1 vs ts R :=
  r.frame a.ff (a.keeps r.dom d)

/-! ### the slots -/
section
variable (K : PySem.W.Frag) (mg : Mg) (F H : Hp)
def RepO : Option V → T → AS → Prop
  | none, t, S => t = .no ∧ ∀ x, ¬ S x
  | some v, t, S => Rep K mg F H v t S
inductive StR : L2.St → List T → AS → Prop
  | nil {S : AS} : (∀ x, ¬ S x) → StR [] [] S
  | cons {s : Option V} {t : T} {σ : L2.St} {env : List T} {S S1 S2 : AS} : RepO K mg F H s t S1 → StR σ env S2 → Dj S1 S2 → (∀ x, S x ↔ S1 x ∨ S2 x) → StR (s :: σ) (t :: env) S
structure Ok (σ : L2.St) (env : List T) (S : AS) : Prop where
  le : Le F H
  st : StR K mg F H σ env S
end
section
variable {K : PySem.W.Frag} {mg : Mg} {F H F' H' : Hp} {σ : L2.St} {env : List T} {S S' R : AS}
theorem RepO.frame (ff : Le F F') {s : Option V} {t : T} (r : RepO K mg F H s t S) (k : ∀ x, S x → H' x = H x ∧ F' x = none) : RepO K mg F' H' s t S := by
  cases s with
  | none => exact r
  | some v => exact Rep.frame ff r k
theorem RepO.dom {s : Option V} {t : T} (r : RepO K mg F H s t S) : ∀ x, S x → (∃ o, H x = some o) ∧ F x = none := by
  cases s with
  | none => exact fun x h => (r.2 x h).elim
  | some v => exact Rep.dom r
theorem StR.dom (r : StR K mg F H σ env S) : ∀ x, S x → (∃ o, H x = some o) ∧ F x = none := by
  induction r with
  | nil h => exact fun x z => (h x z).elim
  | cons r _ _ hS ih => exact fun x z => ((hS x).mp z).elim (r.dom x) (ih x)
theorem StR.frame (ff : Le F F') (r : StR K mg F H σ env S) (k : ∀ x, S x → H' x = H x ∧ F' x = none) : StR K mg F' H' σ env S := by
  induction r with
  | nil h => exact .nil h
  | cons r _ d hS ih => exact .cons (r.frame ff fun x z => k x ((hS x).mpr (.inl z))) (ih fun x z => k x ((hS x).mpr (.inr z))) d hS
theorem StR.length (r : StR K mg F H σ env S) : σ.length = env.length := by
  induction r with
  | nil h => rfl
  | cons _ _ _ _ ih => simp [ih]
theorem StR.iff (r : StR K mg F H σ env S) (h : ∀ x, S' x ↔ S x) : StR K mg F H σ env S' := by
  have e : S' = S := funext fun x => propext (h x)
  rw [e]; exact r
/-- one slot taken out, and another thing put in -/
theorem StR.split (r : StR K mg F H σ env S) : ∀ {i : Nat} {t : T}, env[i]? = some t → ∃ s A B, σ[i]? = some s ∧ RepO K mg F H s t A ∧ Dj A B ∧ (∀ x, S x ↔ A x ∨ B x) ∧
    ∀ (F' H' : Hp) (s' : Option V) (t' : T) (A' : AS), Le F F' → (∀ x, B x → H' x = H x ∧ F' x = none) → RepO K mg F' H' s' t' A' → Dj A' B → StR K mg F' H' (σ.set i s') (env.set i t') (Cup A' B) := by
  induction r with
  | nil h => intro i t e; simp at e
  | @cons s0 t0 σ0 env0 S S1 S2 r q d hS ih =>
    intro i t e
    cases i with
    | zero =>
      simp at e
      subst e
      refine ⟨s0, S1, S2, rfl, r, d, hS, fun F' H' s' t' A' ff k r' d' => ?_⟩
      exact .cons r' (q.frame ff k) d' fun x => Iff.rfl
    | succ i =>
      obtain ⟨s, A, B, e1, e2, e3, e4, e5⟩ := ih (i := i) (t := t) (by simpa using e)
      refine ⟨s, A, Cup S1 B, by simpa using e1, e2, fun x ha hb => ?_, fun x => ?_, fun F' H' s' t' A' ff k r' d' => ?_⟩
      · exact hb.elim (fun z => d x z ((e4 x).mpr (.inl ha))) (e3 x ha)
      · rw [hS x, e4 x]; unfold Cup; constructor
        · rintro (h | h | h)
          · exact .inr (.inl h)
          · exact .inl h
          · exact .inr (.inr h)
        · rintro (h | h | h)
          · exact .inr (.inl h)
          · exact .inl h
          · exact .inr (.inr h)
      · refine .cons (S1 := S1) (S2 := Cup A' B) (r.frame ff fun x z => k x (.inl z)) (e5 F' H' s' t' A' ff (fun x z => k x (.inr z)) r' fun x a b => d' x a (.inr b)) (fun x a b => ?_) fun x => ?_
        · exact b.elim (fun z => d' x z (.inl a)) fun z => d x a ((e4 x).mpr (.inr z))
        · unfold Cup; constructor
          · rintro (h | h | h)
            · exact .inr (.inl h)
            · exact .inl h
            · exact .inr (.inr h)
          · rintro (h | h | h)
            · exact .inr (.inl h)
            · exact .inl h
            · exact .inr (.inr h)
theorem Ok.keep {S1 S2 : AS} {F1 H1 : Hp} (o : Ok K mg F H σ env S) (a : Stp F H S1 F1 H1 S2) (d : Dj S1 S) (le : Le F1 H1) : Ok K mg F1 H1 σ env S :=
  ⟨le, o.st.frame a.ff (a.keeps o.st.dom d)⟩
theorem set_self' {α : Type} : ∀ {l : List α} {i : Nat} {a : α}, l[i]? = some a → l.set i a = l
  | [], _, _, h => by simp at h
  | x :: l, 0, a, h => by simp at h; subst h; rfl
  | x :: l, i + 1, a, h => by
    show x :: l.set i a = x :: l
    rw [set_self' (by simpa using h)]
end
theorem dj_emp {A : AS} : Dj A Emp := fun _ _ h => h
theorem emp_dj {A : AS} : Dj Emp A := fun _ h _ => h
theorem Dj.symm {A B : AS} (h : Dj A B) : Dj B A := fun x b a => h x a b
end Tr


set_option Elab.async false
set_option linter.all false
set_option maxRecDepth 100000
set_option maxHeartbeats 4000000
/-! D2: judgements over trees; names, constants, operators by values. -/
namespace Tr
open PySem PySem.Spec PyProof.Rows L2

abbrev DV := List T → Option T
abbrev DE := List T → Option (T × List T)
section
variable (K : PySem.W.Frag) (mg : Mg)
/-- a view: nothing changes -/
def tV (d : DV) : TE := fun σ H Q => ∃ F env S t, Ok K mg F H σ env S ∧ d env = some t ∧ ∀ v R, Rep K mg F H v t R → Q v H
/-- read only: the value may lean on the slots -/
def tR (d : DE) : TE := fun σ H Q => ∃ F env S t env', Ok K mg F H σ env S ∧ d env = some (t, env') ∧
  ∀ v F' H' S' R, Stp F H S F' H' S' → Ok K mg F' H' σ env' S' → Rep K mg F' H' v t R → Q v H'
/-- a value of one's own -/
def tE (d : DE) : TE := fun σ H Q => ∃ F env S t env', Ok K mg F H σ env S ∧ d env = some (t, env') ∧
  ∀ v F' H' S' R, Stp F H S F' H' (Cup S' R) → Ok K mg F' H' σ env' S' → Rep K mg F' H' v t R → Dj S' R → Q v H'
end
def SV (X : Cx) (e : Expr) (d : DV) : Prop := PE X e (tV X.K X.mg d)
def SR (X : Cx) (e : Expr) (d : DE) : Prop := PE X e (tR X.K X.mg d)
def SE (X : Cx) (e : Expr) (d : DE) : Prop := PE X e (tE X.K X.mg d)
def ST (X : Cx) (e : Expr) (d : DE) : Prop := PT X e (tTest (tR X.K X.mg d))
theorem pew {X : Cx} {e : Expr} {t t' : TE} (h : PE X e t) (i : ∀ σ H Q, t' σ H Q → t σ H Q) : PE X e t' := ⟨fun pins s σ H Q I q => h.run pins s σ H Q I (i σ H Q q)⟩
theorem ptw {X : Cx} {e : Expr} {t t' : TT} (h : PT X e t) (i : ∀ σ H Q, t' σ H Q → t σ H Q) : PT X e t' := ⟨fun pins s σ H Q I q => h.run pins s σ H Q I (i σ H Q q)⟩

def vr (d : DV) : DE := fun env => (d env).map fun t => (t, env)
def re (d : DE) : DE := fun env => match d env with
  | some (t, e) => if cln t = true then some (t, e) else none
  | none => none
section
variable {K : PySem.W.Frag} {mg : Mg} {d : DV} {de : DE} {σ : L2.St} {H : Hp} {Q : VK}
theorem vr_some {env : List T} {t : T} {e : List T} (h : vr d env = some (t, e)) : d env = some t ∧ e = env := by
  unfold vr at h
  cases q : d env with
  | none => rw [q] at h; cases h
  | some u => rw [q] at h; cases h; exact ⟨rfl, rfl⟩
theorem re_some {env : List T} {t : T} {e : List T} (h : re de env = some (t, e)) : de env = some (t, e) ∧ cln t = true := by
  unfold re at h
  cases q : de env with
  | none => rw [q] at h; cases h
  | some u =>
    obtain ⟨u1, u2⟩ := u
    rw [q] at h
    by_cases c : cln u1 = true
    · simp only [c, if_true, Option.some.injEq, Prod.mk.injEq] at h
      obtain ⟨rfl, rfl⟩ := h
      exact ⟨rfl, c⟩
    · simp only [c] at h; cases h
theorem vr_imp (h : tR K mg (vr d) σ H Q) : tV K mg d σ H Q := by
  obtain ⟨F, env, S, t, e, ok, hd, q⟩ := h
  obtain ⟨h1, rfl⟩ := vr_some hd
  exact ⟨F, e, S, t, ok, h1, fun v R r => q v F H S R .refl ok r⟩
theorem er_imp (h : tR K mg de σ H Q) : tE K mg de σ H Q := by
  obtain ⟨F, env, S, t, e, ok, hd, q⟩ := h
  exact ⟨F, env, S, t, e, ok, hd, fun v F' H' S' R st ok' r _ => q v F' H' S' R (st.weak fun _ z => .inl z) ok' r⟩
theorem re_imp (h : tE K mg (re de) σ H Q) : tR K mg de σ H Q := by
  obtain ⟨F, env, S, t, e, ok, hd, q⟩ := h
  obtain ⟨h1, c⟩ := re_some hd
  exact ⟨F, env, S, t, e, ok, h1, fun v F' H' S' R st ok' r => q v F' H' S' Emp (st.weak fun _ z => z.elim id fun z => z.elim) ok' (r.clean0 c) dj_emp⟩
end
theorem SV.r {X : Cx} {e : Expr} {d : DV} (h : SV X e d) : SR X e (vr d) := pew h fun _ _ _ => vr_imp
theorem SE.r {X : Cx} {e : Expr} {d : DE} (h : SE X e d) : SR X e d := pew h fun _ _ _ => er_imp
theorem SR.e {X : Cx} {e : Expr} {d : DE} (h : SR X e d) : SE X e (re d) := pew h fun _ _ _ => re_imp
theorem SV.e {X : Cx} {e : Expr} {d : DV} (h : SV X e d) : SE X e (re (vr d)) := h.r.e
/-- as a test, where the test is by its value -/
theorem ST.val {X : Cx} {e : Expr} {d : DE} (h : SR X e d) (he : ∀ whole, isTrue e X.env whole = (do let v ← whole; standAt e.pos; holding [v] (truthy v)) := by intro _; rfl) : ST X e d :=
  ptw (pt_val h he) fun _ _ _ z => z

/-! ### names, constants -/
def gC (v : V) : DV := fun _ => some (.lf v)
def gG (t : T) : DV := fun _ => some t
def gV (i : Nat) : DV := fun env => match env[i]? with
  | some .no => none
  | some t => some t
  | none => none
def gM (i : Nat) : DE := fun env => match gV i env with
  | some t => some (t, env.set i .no)
  | none => none
def gS (i : Nat) : DE := fun env => match gV i env with
  | some t => some (frz t, env.set i (frz t))
  | none => none
theorem gV_some {i : Nat} {env : List T} {t : T} (h : gV i env = some t) : env[i]? = some t ∧ t ≠ .no := by
  unfold gV at h
  split at h
  · cases h
  · rename_i t' hne e
    cases h
    exact ⟨e, fun z => hne z⟩
  · cases h
section
variable {X : Cx} {i : Nat} {x : Str} {pos : Pos}
theorem sv_int {n : Int} {j : Nat} : SV X (.Constant (.int n) j pos) (gC (.int n)) := pew pe_int fun _ _ _ ⟨_, _, _, _, ok, h, q⟩ => q _ Emp (by cases h; exact .lf rfl fun _ z => z)
theorem sv_bl {n : Bool} {j : Nat} : SV X (.Constant (.bool n) j pos) (gC (.bl n)) := pew pe_bl fun _ _ _ ⟨_, _, _, _, ok, h, q⟩ => q _ Emp (by cases h; exact .lf rfl fun _ z => z)
theorem sv_non {j : Nat} : SV X (.Constant .none j pos) (gC .non) := pew pe_non fun _ _ _ ⟨_, _, _, _, ok, h, q⟩ => q _ Emp (by cases h; exact .lf rfl fun _ z => z)
theorem sv_str {n : Str} {j : Nat} : SV X (.Constant (.str n) j pos) (gC (.str n)) := pew pe_str fun _ _ _ ⟨_, _, _, _, ok, h, q⟩ => q _ Emp (by cases h; exact .lf rfl fun _ z => z)
theorem sv_glob {v : V} {u : Value} {t : T} (hg : Gl X x) (hm : X.mg x = some u) (r : RelV v u) (hr : ∀ F H, Rep X.K X.mg F H v t Emp) (hd : (x == ("__debug__" : Str)) = false := by decide) : SV X (.Name x pos) (gG t) :=
  pew (pe_glob hg hm r hd) fun _ _ _ ⟨_, _, _, _, ok, h, q⟩ => q _ Emp (by cases h; exact hr _ _)
theorem StR.slot {K : PySem.W.Frag} {mg : Mg} {F H : Hp} {σ : L2.St} {env : List T} {S : AS} (r : StR K mg F H σ env S) {t : T} (h : env[i]? = some t) (hn : t ≠ .no) :
    ∃ v A B, σ[i]? = some (some v) ∧ Rep K mg F H v t A ∧ Dj A B ∧ (∀ x, S x ↔ A x ∨ B x) ∧
    ∀ (F' H' : Hp) (s' : Option V) (t' : T) (A' : AS), Le F F' → (∀ x, B x → H' x = H x ∧ F' x = none) → RepO K mg F' H' s' t' A' → Dj A' B → StR K mg F' H' (σ.set i s') (env.set i t') (Cup A' B) := by
  obtain ⟨s, A, B, h1, h2, h3, h4, h5⟩ := r.split h
  cases s with
  | none => exact (hn h2.1).elim
  | some v => exact ⟨v, A, B, h1, h2, h3, h4, h5⟩
theorem sv_name (hN : X.N[i]? = some x := by rfl) (hv : Vis X.env.scope x := by first | exact Or.inl rfl | exact Or.inr (Or.inl rfl) | exact Or.inr (Or.inr rfl)) (hd : (x == ("__debug__" : Str)) = false := by decide)
    (hcd : (x == ("__classdict__" : Str)) = false := by decide) : SV X (.Name x pos) (gV i) := pew (pe_var hN hv hd hcd) fun σ H Q ⟨F, env, S, t, ok, h, q⟩ => by
  obtain ⟨h1, h2⟩ := gV_some h
  obtain ⟨v, A, B, e, r, _⟩ := ok.st.slot h1 h2
  exact ⟨v, e, q v A r⟩
theorem se_move (hN : X.N[i]? = some x := by rfl) (hv : Vis X.env.scope x := by first | exact Or.inl rfl | exact Or.inr (Or.inl rfl) | exact Or.inr (Or.inr rfl)) (hd : (x == ("__debug__" : Str)) = false := by decide)
    (hcd : (x == ("__classdict__" : Str)) = false := by decide) : SE X (.Name x pos) (gM i) := pew (pe_var hN hv hd hcd) fun σ H Q ⟨F, env, S, t, env', ok, h, q⟩ => by
  unfold gM at h
  cases e1 : gV i env with
  | none => rw [e1] at h; cases h
  | some t' =>
    rw [e1] at h; cases h
    obtain ⟨h1, h2⟩ := gV_some e1
    obtain ⟨v, A, B, e, r, d, hS, rest⟩ := ok.st.slot h1 h2
    refine ⟨v, e, q v F H (Cup Emp B) A ⟨Le.refl _, fun _ _ z _ => z, fun _ _ z => .inl z, fun y z => .inl ((hS y).mpr ?_)⟩ ⟨ok.le, ?_⟩ r fun y z a => ?_⟩
    · exact z.elim (fun z => .inr (z.elim (fun z => z.elim) id)) .inl
    · have := rest F H (some v) .no Emp (Le.refl _) (fun y z => ⟨rfl, (ok.st.dom y ((hS y).mpr (.inr z))).2⟩) (.no fun _ z => z) emp_dj
      rwa [set_self' e] at this
    · exact z.elim (fun z => z.elim) fun z => d y a z
open Classical in
/-- the frozen part with more of the heap -/
noncomputable def frF (F H : Hp) (A : AS) : Hp := fun a => if A a then H a else F a
theorem frF_le {F H : Hp} {A : AS} (h : Le F H) : Le F (frF F H A) ∧ Le (frF F H A) H := by
  constructor
  · intro a o e
    unfold frF
    split
    · exact h a o e
    · exact e
  · intro a o e
    unfold frF at e
    split at e
    · exact e
    · exact h a o e
theorem frF_in {F H : Hp} {A : AS} {a : Addr} (h : A a) : frF F H A a = H a := by unfold frF; rw [if_pos h]
theorem frF_out {F H : Hp} {A : AS} {a : Addr} (h : ¬ A a) : frF F H A a = F a := by unfold frF; rw [if_neg h]
theorem frF_stp {F H : Hp} {A S S' : AS} (le : Le F H) (h : ∀ x, A x → S x) (h' : ∀ x, S' x → S x) : Stp F H S (frF F H A) H S' :=
  ⟨(frF_le le).1, fun _ _ z _ => z, fun a o z => by
    by_cases c : A a
    · exact .inr (.inl (h a c))
    · rw [frF_out c] at z; exact .inl z, fun a z => .inl (h' a z)⟩
theorem se_share (hN : X.N[i]? = some x := by rfl) (hv : Vis X.env.scope x := by first | exact Or.inl rfl | exact Or.inr (Or.inl rfl) | exact Or.inr (Or.inr rfl)) (hd : (x == ("__debug__" : Str)) = false := by decide)
    (hcd : (x == ("__classdict__" : Str)) = false := by decide) : SE X (.Name x pos) (gS i) := pew (pe_var hN hv hd hcd) fun σ H Q ⟨F, env, S, t, env', ok, h, q⟩ => by
  unfold gS at h
  cases e1 : gV i env with
  | none => rw [e1] at h; cases h
  | some t' =>
    rw [e1] at h; cases h
    obtain ⟨h1, h2⟩ := gV_some e1
    obtain ⟨v, A, B, e, r, d, hS, rest⟩ := ok.st.slot h1 h2
    have ff := frF_le (A := A) ok.le
    have r' : Rep X.K X.mg (frF F H A) H v (frz t') Emp := r.freeze ff.1 (fun y z => frF_in z) fun _ z => z
    refine ⟨v, e, q v (frF F H A) H (Cup Emp B) Emp (frF_stp ok.le (fun y z => (hS y).mpr (.inl z)) fun y z => (hS y).mpr ?_) ⟨ff.2, ?_⟩ r' dj_emp⟩
    · exact .inr (z.elim (fun z => z.elim (fun z => z.elim) id) fun z => z.elim)
    · have := rest (frF F H A) H (some v) (frz t') Emp ff.1 (fun y z => ⟨rfl, by rw [frF_out fun a => d y a z]; exact (ok.st.dom y ((hS y).mpr (.inr z))).2⟩) r' emp_dj
      rwa [set_self' e] at this
end

/-! ### operators by values -/
section
variable (K : PySem.W.Frag) (mg : Mg)
def Op1V (r : V → Hp → VK → Prop) (o : T → Option T) : Prop := ∀ (F H : Hp) (x : V) (t : T) (R : AS) (u : T) (Q : VK), Le F H → Rep K mg F H x t R → o t = some u → (∀ v R', Rep K mg F H v u R' → Q v H) → r x H Q
def Op2V (r : R2) (o : T → T → Option T) : Prop := ∀ (F H : Hp) (x y : V) (t s : T) (R R2 : AS) (u : T) (Q : VK), Le F H → Rep K mg F H x t R → Rep K mg F H y s R2 → o t s = some u → (∀ v R', Rep K mg F H v u R' → Q v H) → r x y H Q
def Op1E (r : V → Hp → VK → Prop) (o : T → Option T) : Prop := ∀ (F H : Hp) (x : V) (t : T) (R : AS) (u : T) (Q : VK), Le F H → Rep K mg F H x t R → o t = some u →
  (∀ v F' H' R', Stp F H Emp F' H' R' → Le F' H' → Rep K mg F' H' v u R' → Q v H') → r x H Q
def Op2E (r : R2) (o : T → T → Option T) : Prop := ∀ (F H : Hp) (x y : V) (t s : T) (R R2 : AS) (u : T) (Q : VK), Le F H → Rep K mg F H x t R → Rep K mg F H y s R2 → o t s = some u →
  (∀ v F' H' R', Stp F H Emp F' H' R' → Le F' H' → Rep K mg F' H' v u R' → Q v H') → r x y H Q
end
def o1V (o : T → Option T) (d : DV) : DV := fun env => (d env).bind o
def o1 (o : T → Option T) (d : DE) : DE := fun env => (d env).bind fun p => (o p.1).map fun u => (u, p.2)
def o2V (o : T → T → Option T) (da db : DV) : DV := fun env => (da env).bind fun t => (db env).bind fun s => o t s
/-- the second one a view -/
def o2v (o : T → T → Option T) (da : DE) (db : DV) : DE := fun env => (da env).bind fun p => (db p.2).bind fun s => (o p.1 s).map fun u => (u, p.2)
/-- the first one has nothing owned -/
def o2c (o : T → T → Option T) (da db : DE) : DE := fun env => (da env).bind fun p => (db p.2).bind fun q => if cln p.1 = true then (o p.1 q.1).map fun u => (u, q.2) else none
/-- the first one is one's own -/
def o2o (o : T → T → Option T) (da db : DE) : DE := fun env => (da env).bind fun p => (db p.2).bind fun q => (o p.1 q.1).map fun u => (u, q.2)
section
variable {K : PySem.W.Frag} {mg : Mg} {o : T → Option T} {p : T → T → Option T} {d da db : DE} {v va vb : DV} {r1 : V → Hp → VK → Prop} {r : R2} {σ : L2.St} {H : Hp} {Q : VK}
theorem i1V (h : Op1V K mg r1 o) (q : tV K mg (o1V o v) σ H Q) : tV K mg v σ H fun x H1 => r1 x H1 Q := by
  obtain ⟨F, env, S, t, ok, hd, q⟩ := q
  obtain ⟨x, h1, h2⟩ := Option.bind_eq_some_iff.mp hd
  exact ⟨F, env, S, x, ok, h1, fun v R r => h F H v x R t Q ok.le r h2 q⟩
theorem i1R (h : Op1V K mg r1 o) (q : tR K mg (o1 o d) σ H Q) : tR K mg d σ H fun x H1 => r1 x H1 Q := by
  obtain ⟨F, env, S, t, env', ok, hd, q⟩ := q
  obtain ⟨⟨x, e⟩, h1, h2⟩ := Option.bind_eq_some_iff.mp hd
  obtain ⟨u, h3, h4⟩ := Option.map_eq_some_iff.mp h2
  cases h4
  exact ⟨F, env, S, x, _, ok, h1, fun v F' H' S' R st ok' r => h F' H' v x R _ Q ok'.le r h3 fun v' R' r' => q v' F' H' S' R' st ok' r'⟩
/-- behind a read: a new thing beside the slots -/
theorem fin_new {F F1 F2 H1 H2 : Hp} {env : List T} {S S1 R' : AS} (st : Stp F H S F1 H1 S1) (ok : Ok K mg F1 H1 σ env S1) (st2 : Stp F1 H1 Emp F2 H2 R') (le : Le F2 H2) :
    Stp F H S F2 H2 (Cup S1 R') ∧ Ok K mg F2 H2 σ env S1 ∧ Dj S1 R' := by
  refine ⟨st.trans ⟨st2.ff, fun a o h n => st2.kp a o h fun z => z, fun a o h => (st2.nf a o h).elim .inl fun z => z.elim (fun z => z.elim) fun z => .inr (.inr z), fun a h => h.elim (fun z => .inl z) fun z => (st2.no a z).elim (fun z => z.elim) .inr⟩,
    ok.keep st2 emp_dj le, fun a s z => ?_⟩
  obtain ⟨⟨o, e⟩, _⟩ := ok.st.dom a s
  exact (st2.no a z).elim (fun z => z.elim) fun z => by rw [e] at z; cases z
theorem i1E (h : Op1E K mg r1 o) (q : tE K mg (o1 o d) σ H Q) : tR K mg d σ H fun x H1 => r1 x H1 Q := by
  obtain ⟨F, env, S, t, env', ok, hd, q⟩ := q
  obtain ⟨⟨x, e⟩, h1, h2⟩ := Option.bind_eq_some_iff.mp hd
  obtain ⟨u, h3, h4⟩ := Option.map_eq_some_iff.mp h2
  cases h4
  refine ⟨F, env, S, x, _, ok, h1, fun v F' H' S' R st ok' r => h F' H' v x R _ Q ok'.le r h3 fun v' F2 H2 R' st2 le2 r' => ?_⟩
  obtain ⟨a, b, c⟩ := fin_new st ok' st2 le2
  exact q v' F2 H2 S' R' a b r' c
theorem i2V (h : Op2V K mg r p) (q : tV K mg (o2V p va vb) σ H Q) : tOp r (tV K mg va) (tV K mg vb) σ H Q := by
  obtain ⟨F, env, S, t, ok, hd, q⟩ := q
  obtain ⟨x, h1, h2⟩ := Option.bind_eq_some_iff.mp hd
  obtain ⟨y, h3, h4⟩ := Option.bind_eq_some_iff.mp h2
  exact ⟨F, env, S, x, ok, h1, fun v R r => ⟨F, env, S, y, ok, h3, fun w R' r' => h F H v w x y R R' t Q ok.le r r' h4 q⟩⟩
theorem o2v_some {env : List T} {t : T} {e : List T} (h : o2v p da vb env = some (t, e)) : ∃ x y, da env = some (x, e) ∧ vb e = some y ∧ p x y = some t := by
  obtain ⟨⟨x, e1⟩, h1, h2⟩ := Option.bind_eq_some_iff.mp h
  obtain ⟨y, h3, h4⟩ := Option.bind_eq_some_iff.mp h2
  obtain ⟨u, h5, h6⟩ := Option.map_eq_some_iff.mp h4
  cases h6
  exact ⟨x, y, h1, h3, h5⟩
theorem o2o_some {env : List T} {t : T} {e : List T} (h : o2o p da db env = some (t, e)) : ∃ x e1 y, da env = some (x, e1) ∧ db e1 = some (y, e) ∧ p x y = some t := by
  obtain ⟨⟨x, e1⟩, h1, h2⟩ := Option.bind_eq_some_iff.mp h
  obtain ⟨⟨y, e2⟩, h3, h4⟩ := Option.bind_eq_some_iff.mp h2
  obtain ⟨u, h5, h6⟩ := Option.map_eq_some_iff.mp h4
  cases h6
  exact ⟨x, e1, y, h1, h3, h5⟩
theorem o2c_some {env : List T} {t : T} {e : List T} (h : o2c p da db env = some (t, e)) : ∃ x e1 y, da env = some (x, e1) ∧ db e1 = some (y, e) ∧ cln x = true ∧ p x y = some t := by
  obtain ⟨⟨x, e1⟩, h1, h2⟩ := Option.bind_eq_some_iff.mp h
  obtain ⟨⟨y, e2⟩, h3, h4⟩ := Option.bind_eq_some_iff.mp h2
  by_cases c : cln x = true
  · simp only [c, if_true] at h4
    obtain ⟨u, h5, h6⟩ := Option.map_eq_some_iff.mp h4
    cases h6
    exact ⟨x, e1, y, h1, h3, c, h5⟩
  · simp only [c] at h4; cases h4
theorem i2v (h : Op2V K mg r p) (q : tR K mg (o2v p da vb) σ H Q) : tOp r (tR K mg da) (tV K mg vb) σ H Q := by
  obtain ⟨F, env, S, t, env', ok, hd, q⟩ := q
  obtain ⟨x, y, h1, h3, h4⟩ := o2v_some hd
  exact ⟨F, env, S, x, _, ok, h1, fun v F1 H1 S1 R st ok1 r => ⟨F1, env', S1, y, ok1, h3, fun w R' r' => h F1 H1 v w x y R R' t Q ok1.le r r' h4 fun v' R'' r'' => q v' F1 H1 S1 R'' st ok1 r''⟩⟩
theorem i2vE (h : Op2E K mg r p) (q : tE K mg (o2v p da vb) σ H Q) : tOp r (tR K mg da) (tV K mg vb) σ H Q := by
  obtain ⟨F, env, S, t, env', ok, hd, q⟩ := q
  obtain ⟨x, y, h1, h3, h4⟩ := o2v_some hd
  refine ⟨F, env, S, x, _, ok, h1, fun v F1 H1 S1 R st ok1 r => ⟨F1, env', S1, y, ok1, h3, fun w R' r' => h F1 H1 v w x y R R' t Q ok1.le r r' h4 fun v' F2 H2 R'' st2 le2 r'' => ?_⟩⟩
  obtain ⟨a, b, c⟩ := fin_new st ok1 st2 le2
  exact q v' F2 H2 S1 R'' a b r'' c
theorem i2c (h : Op2V K mg r p) (q : tR K mg (o2c p da db) σ H Q) : tOp r (tR K mg da) (tR K mg db) σ H Q := by
  obtain ⟨F, env, S, t, env', ok, hd, q⟩ := q
  obtain ⟨x, e1, y, h1, h3, c, h4⟩ := o2c_some hd
  refine ⟨F, env, S, x, _, ok, h1, fun v F1 H1 S1 R st ok1 r => ⟨F1, e1, S1, y, _, ok1, h3, fun w F2 H2 S2 R' st2 ok2 r' => ?_⟩⟩
  exact h F2 H2 v w x y Emp R' t Q ok2.le (r.stay st2.ff c) r' h4 fun v' R'' r'' => q v' F2 H2 S2 R'' (st.trans st2) ok2 r''
theorem i2cE (h : Op2E K mg r p) (q : tE K mg (o2c p da db) σ H Q) : tOp r (tR K mg da) (tR K mg db) σ H Q := by
  obtain ⟨F, env, S, t, env', ok, hd, q⟩ := q
  obtain ⟨x, e1, y, h1, h3, c, h4⟩ := o2c_some hd
  refine ⟨F, env, S, x, _, ok, h1, fun v F1 H1 S1 R st ok1 r => ⟨F1, e1, S1, y, _, ok1, h3, fun w F2 H2 S2 R' st2 ok2 r' => ?_⟩⟩
  refine h F2 H2 v w x y Emp R' t Q ok2.le (r.stay st2.ff c) r' h4 fun v' F3 H3 R'' st3 le3 r'' => ?_
  obtain ⟨a, b, c⟩ := fin_new (st.trans st2) ok2 st3 le3
  exact q v' F3 H3 S2 R'' a b r'' c
theorem i2o (h : Op2V K mg r p) (q : tR K mg (o2o p da db) σ H Q) : tOp r (tE K mg da) (tR K mg db) σ H Q := by
  obtain ⟨F, env, S, t, env', ok, hd, q⟩ := q
  obtain ⟨x, e1, y, h1, h3, h4⟩ := o2o_some hd
  refine ⟨F, env, S, x, _, ok, h1, fun v F1 H1 S1 R st ok1 r dj => ⟨F1, e1, S1, y, _, ok1, h3, fun w F2 H2 S2 R' st2 ok2 r' => ?_⟩⟩
  exact h F2 H2 v w x y R R' t Q ok2.le (r.keep st2 dj) r' h4 fun v' R'' r'' => q v' F2 H2 S2 R'' ((st.weak fun _ z => .inl z).trans st2) ok2 r''
theorem i2oE (h : Op2E K mg r p) (q : tE K mg (o2o p da db) σ H Q) : tOp r (tE K mg da) (tR K mg db) σ H Q := by
  obtain ⟨F, env, S, t, env', ok, hd, q⟩ := q
  obtain ⟨x, e1, y, h1, h3, h4⟩ := o2o_some hd
  refine ⟨F, env, S, x, _, ok, h1, fun v F1 H1 S1 R st ok1 r dj => ⟨F1, e1, S1, y, _, ok1, h3, fun w F2 H2 S2 R' st2 ok2 r' => ?_⟩⟩
  refine h F2 H2 v w x y R R' t Q ok2.le (r.keep st2 dj) r' h4 fun v' F3 H3 R'' st3 le3 r'' => ?_
  obtain ⟨a, b, c⟩ := fin_new ((st.weak fun _ z => .inl z).trans st2) ok2 st3 le3
  exact q v' F3 H3 S2 R'' a b r'' c
end
end Tr


set_option Elab.async false
set_option linter.all false
set_option maxRecDepth 100000
set_option maxHeartbeats 4000000
/-! D3: operators over trees. -/
namespace Tr
open PySem PySem.Spec PyProof.Rows L2

section
variable {K : PySem.W.Frag} {mg : Mg} {F H : Hp} {v w : V} {t : T} {R : AS}
theorem Rep.lf_inv (r : Rep K mg F H v (.lf w) R) : v = w ∧ sc w = true ∧ ∀ x, ¬ R x := by
  cases r with
  | lf h k => exact ⟨rfl, h, k⟩
def Here (K : PySem.W.Frag) (mg : Mg) (H : Hp) (a : Addr) : Kd → List V → Prop
  | .lst, vs => H a = some (.lst vs)
  | .tup, vs => H a = some (.tup vs)
  | .rol, vs => SqL K H a vs
  | .rot, vs => SqT K H a vs
  | .dK ks, vs => ks.length = vs.length ∧ H a = some (.dK (ks.zip vs))
  | .dL ks, vs => ks.length = vs.length ∧ ∃ od, H a = some (.frz od (.dK (ks.zip vs)))
  | .dT ks, vs => ks.length = vs.length ∧ H a = some (.dT (ks.zip vs))
  | .dN ks ds, vs => ∃ a0 xs, H a = some (DictN a0 xs) ∧ xs.map (·.1) = ks ∧ vs = xs.map (fun x => V.ref x.2.1) ∧ xs.map (fun x => intV x.2.2) = ds.map some
  | .ins c ns, vs => ns.length = vs.length ∧ ∃ C dx, H a = some (.ins C dx (ns.zip vs)) ∧ mg c = some (.ref C)
theorem Here.of {a : Addr} {k : Kd} {o : HO} {vs : List V} (e : H a = some o) (c : Cont mg k o vs) : Here K mg H a k vs := by
  cases k with
  | lst => cases c; exact e
  | tup => cases c; exact e
  | rol => exact c.elim
  | rot => exact c.elim
  | dK ks => obtain ⟨h, rfl⟩ := c; exact ⟨h, e⟩
  | dL ks => obtain ⟨h, od, rfl⟩ := c; exact ⟨h, od, e⟩
  | dT ks => obtain ⟨h, rfl⟩ := c; exact ⟨h, e⟩
  | dN ks ds => obtain ⟨a0, xs, rfl, h⟩ := c; exact ⟨a0, xs, e, h⟩
  | ins n ns => obtain ⟨h, C, dx, rfl, m⟩ := c; exact ⟨h, C, dx, e, m⟩
theorem Rep.nd_inv (le : Le F H) {o : Bool} {k : Kd} {xs : List T} (r : Rep K mg F H v (.nd o k xs) R) :
    ∃ a vs S0, v = .ref a ∧ Reps K mg F H vs xs S0 ∧ (∀ x, S0 x → R x) ∧ Here K mg H a k vs := by
  cases r with
  | own h1 h2 c r na hS => exact ⟨_, _, _, rfl, r, fun x z => (hS x).mpr (.inr z), .of h1 c⟩
  | frz h c r => exact ⟨_, _, _, rfl, r, fun _ z => z, .of (le _ _ h) c⟩
  | rol h r => exact ⟨_, _, _, rfl, r, fun _ z => z, le.sqL h⟩
  | rot h r => exact ⟨_, _, _, rfl, r, fun _ z => z, le.sqT h⟩
/-- a sequence -/
def isSq : Kd → Bool
  | .lst => true | .tup => true | .rol => true | .rot => true | _ => false
theorem Here.sq {a : Addr} {k : Kd} {vs : List V} (h : Here K mg H a k vs) (q : isSq k = true) : SqL K H a vs ∨ SqT K H a vs := by
  cases k with
  | lst => exact .inl (.of h)
  | tup => exact .inr (.of h)
  | rol => exact .inl h
  | rot => exact .inr h
  | dK ks => cases q
  | dL ks => cases q
  | dT ks => cases q
  | dN ks ds => cases q
  | ins n ns => cases q
/-- a new thing beside -/
theorem new_one {p : Addr} {k : Kd} {o : HO} {vs : List V} {xs : List T} (le : Le F H) (hp : H p = none) (c : Cont mg k o vs) (r : Reps K mg F H vs xs Emp) :
    Stp F H Emp F (upd H p o) (fun x => x = p) ∧ Le F (upd H p o) ∧ Rep K mg F (upd H p o) (.ref p) (.nd true k xs) (fun x => x = p) := by
  have fp : F p = none := le.nn hp
  refine ⟨⟨Le.refl _, fun a o' e _ => by rw [upd_ne (ne_of_none e hp)]; exact e, fun _ _ e => .inl e, fun a e => .inr (by rw [e]; exact hp)⟩,
    fun a o' e => by rw [upd_ne (ne_of_none (le _ _ e) hp)]; exact le _ _ e, ?_⟩
  exact .own upd_same fp c (r.frame (Le.refl _) fun _ z => z.elim) (fun z => z) fun x => ⟨.inl, fun z => z.elim id fun z => z.elim⟩
/-- a new tuple beside, at once frozen -/
theorem new_tup {p : Addr} {vs : List V} {xs : List T} (le : Le F H) (hp : H p = none) (r : Reps K mg F H vs xs Emp) :
    Stp F H Emp (upd F p (.tup vs)) (upd H p (.tup vs)) Emp ∧ Le (upd F p (.tup vs)) (upd H p (.tup vs)) ∧ Rep K mg (upd F p (.tup vs)) (upd H p (.tup vs)) (.ref p) (.nd false .tup xs) Emp := by
  have fp : F p = none := le.nn hp
  have ff : Le F (upd F p (.tup vs)) := fun a o e => by rw [upd_ne (ne_of_none e fp)]; exact e
  refine ⟨⟨ff, fun a o' e _ => by rw [upd_ne (ne_of_none e hp)]; exact e, fun a o e => ?_, fun a z => z.elim⟩, fun a o e => ?_, ?_⟩
  · by_cases h : a = p
    · exact .inr (.inr (by rw [h]; exact hp))
    · rw [upd_ne h] at e; exact .inl e
  · by_cases h : a = p
    · subst h; rw [upd_same] at e ⊢; exact e
    · rw [upd_ne h] at e ⊢; exact le a o e
  · exact .frz upd_same rfl (r.frame ff fun _ z => z.elim)
theorem Reps.flat {vs : List V} {ts : List T} {S : AS} (r : Reps K mg F H vs ts S) : clns ts = true → Reps K mg F H vs ts Emp := r.clean0
end

/-! ### whole numbers -/
def oI (C : Int → Int → Bool) (g : Int → Int → V) : T → T → Option T
  | .lf (.int i), .lf (.int j) => if C i j = true then some (.lf (g i j)) else none
  | _, _ => none
def oI1 (g : Int → V) : T → Option T
  | .lf (.int i) => some (.lf (g i))
  | _ => none
section
variable {K : PySem.W.Frag} {mg : Mg}
theorem oI_some {C : Int → Int → Bool} {g : Int → Int → V} {t s u : T} (h : oI C g t s = some u) : ∃ i j, t = .lf (.int i) ∧ s = .lf (.int j) ∧ C i j = true ∧ u = .lf (g i j) := by
  unfold oI at h
  split at h
  · split at h
    · exact ⟨_, _, rfl, rfl, by assumption, (Option.some.inj h).symm⟩
    · cases h
  · cases h
theorem op2_rI {C : Int → Int → Bool} {C' : Int → Int → Prop} {g : Int → Int → V} (hC : ∀ i j, C i j = true → C' i j) (hg : ∀ i j, sc (g i j) = true) : Op2V K mg (rI C' g) (oI C g) := by
  intro F H x y t s R R2 u Q le r1 r2 h q
  obtain ⟨i, j, rfl, rfl, c, rfl⟩ := oI_some h
  exact ⟨i, j, r1.lf_inv.1, r2.lf_inv.1, hC i j c, q _ Emp (.lf (hg i j) fun _ z => z)⟩
theorem op2_rI0 {g : Int → Int → V} (hg : ∀ i j, sc (g i j) = true) : Op2V K mg (rI0 g) (oI (fun _ _ => true) g) := by
  intro F H x y t s R R2 u Q le r1 r2 h q
  obtain ⟨i, j, rfl, rfl, c, rfl⟩ := oI_some h
  exact ⟨i, j, r1.lf_inv.1, r2.lf_inv.1, q _ Emp (.lf (hg i j) fun _ z => z)⟩
end
def oSub : T → T → Option T := oI (fun _ _ => true) fun i j => .int (i - j)
def oMul : T → T → Option T := oI (fun i j => (decide (-(2 ^ 64) < i) && decide (i < 2 ^ 64)) || (decide (-(2 ^ 64) < j) && decide (j < 2 ^ 64))) fun i j => .int (i * j)
def oDiv : T → T → Option T := oI (fun _ j => decide (0 < j) && decide (j < 1073741824)) fun i j => .int (i / j)
def oMod : T → T → Option T := oI (fun _ j => decide (0 < j)) fun i j => .int (i % j)
def oPow : T → T → Option T := oI (fun i j => decide (0 ≤ j) && decide (j ≤ 1000000) && decide (i.natAbs < 2 ^ 64)) fun i j => .int (i ^ j.toNat)
def oLt : T → T → Option T := oI (fun _ _ => true) fun i j => .bl (decide (i < j))
def oLe : T → T → Option T := oI (fun _ _ => true) fun i j => .bl (decide (i ≤ j))
def oGt : T → T → Option T := oI (fun _ _ => true) fun i j => .bl (decide (j < i))
def oGe : T → T → Option T := oI (fun _ _ => true) fun i j => .bl (decide (j ≤ i))
def oNeg : T → Option T := oI1 fun i => .int (-i)
/-- + of whole numbers, of texts -/
def oAdd : T → T → Option T
  | .lf (.int i), .lf (.int j) => some (.lf (.int (i + j)))
  | .lf (.str i), .lf (.str j) => if i.length + j.length ≤ sizeLine then some (.lf (.str (i ++ j))) else none
  | _, _ => none
/-- + of lists -/
def oCat : T → T → Option T
  | .nd _ .lst xs, .nd _ .lst ys => if clns xs = true ∧ clns ys = true ∧ xs.length + ys.length ≤ sizeLine then some (.nd true .lst (xs ++ ys)) else none
  | _, _ => none
section
variable {K : PySem.W.Frag} {mg : Mg}
theorem v_sub : Op2V K mg (rI0 fun i j => .int (i - j)) oSub := op2_rI0 fun _ _ => rfl
theorem v_mul : Op2V K mg (rI CMul fun i j => .int (i * j)) oMul := op2_rI (fun i j h => by simpa [CMul] using h) fun _ _ => rfl
theorem v_div : Op2V K mg (rI CDiv fun i j => .int (i / j)) oDiv := op2_rI (fun i j h => by simpa [CDiv] using h) fun _ _ => rfl
theorem v_mod : Op2V K mg (rI (fun _ j => 0 < j) fun i j => .int (i % j)) oMod := op2_rI (fun i j h => by simpa using h) fun _ _ => rfl
theorem v_pow : Op2V K mg (rI CPow fun i j => .int (i ^ j.toNat)) oPow := op2_rI (fun i j h => by simpa [CPow, and_assoc] using h) fun _ _ => rfl
theorem v_lt : Op2V K mg (rI0 fun i j => .bl (decide (i < j))) oLt := op2_rI0 fun _ _ => rfl
theorem v_le : Op2V K mg (rI0 fun i j => .bl (decide (i ≤ j))) oLe := op2_rI0 fun _ _ => rfl
theorem v_gt : Op2V K mg (rI0 fun i j => .bl (decide (j < i))) oGt := op2_rI0 fun _ _ => rfl
theorem v_ge : Op2V K mg (rI0 fun i j => .bl (decide (j ≤ i))) oGe := op2_rI0 fun _ _ => rfl
theorem v_neg : Op1V K mg (rU fun i => .int (-i)) oNeg := by
  intro F H x t R u Q le r h q
  unfold oNeg oI1 at h
  split at h
  · cases h
    exact ⟨_, r.lf_inv.1, q _ Emp (.lf rfl fun _ z => z)⟩
  · cases h
def rAddS : R2 := fun x y H Q => rI0 (fun i j => .int (i + j)) x y H Q ∨ ∃ i j, x = .str i ∧ y = .str j ∧ i.length + j.length ≤ sizeLine ∧ Q (.str (i ++ j)) H
theorem op_addS {X : Cx} : OpR X (binaryOp .Add) rAddS := OpR.or op_add op_add_str
theorem iop_addS {X : Cx} : OpR X (inplaceOp .Add) rAddS := OpR.or iop_add iop_add_str
theorem v_add : Op2V K mg rAddS oAdd := by
  intro F H x y t s R R2 u Q le r1 r2 h q
  unfold oAdd at h
  split at h
  · cases h
    exact .inl ⟨_, _, r1.lf_inv.1, r2.lf_inv.1, q _ Emp (.lf rfl fun _ z => z)⟩
  · split at h
    · cases h
      exact .inr ⟨_, _, r1.lf_inv.1, r2.lf_inv.1, by assumption, q _ Emp (.lf rfl fun _ z => z)⟩
    · cases h
  · cases h
theorem Reps.append {F H : Hp} {ys : List V} {us : List T} {S2 : AS} (q : Reps K mg F H ys us S2) : ∀ {vs : List V} {ts : List T} {S : AS}, Reps K mg F H vs ts S → Dj S S2 → Reps K mg F H (vs ++ ys) (ts ++ us) (Cup S S2)
  | _, _, _, .nil h, _ => q.iff fun x => ⟨fun z => z.elim (fun z => (h x z).elim) id, .inr⟩
  | _, _, _, .cons r p d hS, dj => .cons r (Reps.append q p fun x z => dj x ((hS x).mpr (.inr z))) (fun x a b => b.elim (d x a) (dj x ((hS x).mpr (.inl a)))) fun x => by
      unfold Cup
      rw [hS x]
      exact ⟨fun z => z.elim (fun z => z.elim .inl fun z => .inr (.inl z)) fun z => .inr (.inr z), fun z => z.elim (fun z => .inl (.inl z)) fun z => z.elim (fun z => .inl (.inr z)) .inr⟩
theorem e_cat : Op2E K mg rCat oCat := by
  intro F H x y t s R R2 u Q le r1 r2 h q
  unfold oCat at h
  split at h
  · split at h
    · rename_i xs _ ys c
      cases h
      obtain ⟨a, vs, S0, rfl, p1, _, h1⟩ := r1.nd_inv le
      obtain ⟨b, ws, S1, rfl, p2, _, h2⟩ := r2.nd_inv le
      refine ⟨a, b, vs, ws, rfl, rfl, h1, h2, by rw [p1.length (S := Emp), p2.length (S := Emp)]; exact c.2.2, fun p hp => ?_⟩
      have rr := Reps.append (p2.clean0 c.2.1) (p1.clean0 c.1) fun _ z => z.elim
      obtain ⟨g1, g2, g3⟩ := new_one (k := .lst) (o := .lst (vs ++ ws)) le hp rfl (rr.iff fun x => ⟨fun z => z.elim, fun z => z.elim id id⟩)
      exact q _ _ _ _ g1 g2 g3
    · cases h
  · cases h
end

/-! ### == of data -/
mutual
def toD : T → Option PyData
  | .lf .non => some .none
  | .lf (.bl b) => some (.bool b)
  | .lf (.int i) => some (.int i)
  | .lf (.str x) => some (.str x)
  | .nd _ .lst xs => (toDs xs).map .list
  | .nd _ .rol xs => (toDs xs).map .list
  | .nd _ .tup xs => (toDs xs).map .tuple
  | .nd _ .rot xs => (toDs xs).map .tuple
  | _ => none
def toDs : List T → Option (List PyData)
  | [] => some []
  | t :: ts => (toD t).bind fun d => (toDs ts).map fun ds => d :: ds
end
def oEq : T → T → Option T := fun t s => (toD t).bind fun d => (toD s).bind fun e => if SeqAt.shaped d = true ∧ SeqAt.shaped e = true then some (.lf (.bl (PyData.eqv d e))) else none
def oNe : T → T → Option T := fun t s => (toD t).bind fun d => (toD s).bind fun e => if SeqAt.shaped d = true ∧ SeqAt.shaped e = true then some (.lf (.bl (!PyData.eqv d e))) else none
section
variable {K : PySem.W.Frag} {mg : Mg} {F H : Hp}
mutual
theorem dp_of (le : Le F H) : ∀ {v : V} {t : T} {R : AS} {d : PyData}, Rep K mg F H v t R → toD t = some d → Dp K H v d
  | _, .no, _, _, _, h => by simp [toD] at h
  | _, .lf w, _, _, r, h => by
    obtain ⟨e0, _, _⟩ := r.lf_inv
    rw [e0]
    cases w <;> simp [toD] at h <;> subst h <;> constructor
  | v, .nd o k xs, R, d, r, h => by
    obtain ⟨a, vs, S0, rfl, p, _, hr⟩ := r.nd_inv le
    cases k <;> simp only [toD, Option.map_eq_some_iff] at h <;> first
      | (cases h; done)
      | (obtain ⟨ds, e, rfl⟩ := h
         first
           | exact .lst (SqL.of hr) (dps_of le p e)
           | exact .tup (SqT.of hr) (dps_of le p e)
           | exact .lst hr (dps_of le p e)
           | exact .tup hr (dps_of le p e))
theorem dps_of (le : Le F H) : ∀ {vs : List V} {ts : List T} {R : AS} {ds : List PyData}, Reps K mg F H vs ts R → toDs ts = some ds → DpAll K H vs ds
  | _, [], _, _, r, h => by
    cases r with
    | nil _ => simp [toDs] at h; subst h; exact .nil
  | _, t :: ts, _, _, r, h => by
    cases r with
    | cons r q d hS =>
      simp only [toDs, Option.bind_eq_some_iff, Option.map_eq_some_iff] at h
      obtain ⟨d, e1, ds, e2, rfl⟩ := h
      exact .cons (dp_of le r e1) (dps_of le q e2)
end
theorem v_eq : Op2V K mg (rEqD K) oEq := by
  intro F H x y t s R R2 u Q le r1 r2 h q
  obtain ⟨d, e1, h⟩ := Option.bind_eq_some_iff.mp h
  obtain ⟨e, e2, h⟩ := Option.bind_eq_some_iff.mp h
  split at h
  · rename_i c
    cases h
    exact ⟨d, e, dp_of le r1 e1, dp_of le r2 e2, c.1, c.2, q _ Emp (.lf rfl fun _ z => z)⟩
  · cases h
theorem v_ne : Op2V K mg (rNeD K) oNe := by
  intro F H x y t s R R2 u Q le r1 r2 h q
  obtain ⟨d, e1, h⟩ := Option.bind_eq_some_iff.mp h
  obtain ⟨e, e2, h⟩ := Option.bind_eq_some_iff.mp h
  split at h
  · rename_i c
    cases h
    exact ⟨d, e, dp_of le r1 e1, dp_of le r2 e2, c.1, c.2, q _ Emp (.lf rfl fun _ z => z)⟩
  · cases h
end
end Tr


set_option Elab.async false
set_option linter.all false
set_option maxRecDepth 100000
set_option maxHeartbeats 4000000
/-! D4: more operators: is None, in, len, subscripts, slices, list, sorted, isinstance. -/
namespace Tr
open PySem PySem.Spec PyProof.Rows L2

section
variable {K : PySem.W.Frag} {mg : Mg} {F H : Hp}
/-! ### is None -/
def isNon : T → Option Bool
  | .lf .non => some true
  | .lf _ => some false
  | .nd _ _ _ => some false
  | .no => none
def oIsN : T → T → Option T
  | t, .lf .non => (isNon t).map fun b => .lf (.bl b)
  | _, _ => none
def oNotN : T → T → Option T
  | t, .lf .non => (isNon t).map fun b => .lf (.bl (!b))
  | _, _ => none
theorem isNon_ok {v : V} {t : T} {R : AS} {b : Bool} (le : Le F H) (r : Rep K mg F H v t R) (h : isNon t = some b) : decide (v = .non) = b := by
  cases t with
  | no => cases h
  | lf w =>
    obtain ⟨e, _, _⟩ := r.lf_inv
    subst e
    cases v <;> simp [isNon] at h <;> subst h <;> simp
  | nd o k xs =>
    obtain ⟨a, vs, S0, rfl, _⟩ := r.nd_inv le
    simp [isNon] at h
    subst h
    simp
theorem v_isN : Op2V K mg (fun x y H Q => y = .non ∧ Q (.bl (decide (x = .non))) H) oIsN := by
  intro F H x y t s R R2 u Q le r1 r2 h q
  unfold oIsN at h
  split at h
  · obtain ⟨b, e, rfl⟩ := Option.map_eq_some_iff.mp h
    exact ⟨r2.lf_inv.1, by rw [isNon_ok le r1 e]; exact q _ Emp (.lf rfl fun _ z => z)⟩
  · cases h
theorem v_notN : Op2V K mg (fun x y H Q => y = .non ∧ Q (.bl (!decide (x = .non))) H) oNotN := by
  intro F H x y t s R R2 u Q le r1 r2 h q
  unfold oNotN at h
  split at h
  · obtain ⟨b, e, rfl⟩ := Option.map_eq_some_iff.mp h
    exact ⟨r2.lf_inv.1, by rw [isNon_ok le r1 e]; exact q _ Emp (.lf rfl fun _ z => z)⟩
  · cases h

/-! ### in -/
def keyOf : V → Option Key
  | .int i => some (.inl i)
  | .str x => some (.inr x)
  | _ => none
theorem keyOf_some {v : V} {k : Key} (h : keyOf v = some k) : v = kV k := by
  cases v <;> simp [keyOf] at h <;> subst h <;> rfl
/-- the leaf is flat -/
def flT : T → Bool
  | .lf v => flatV v
  | _ => false
def eqT (x : V) : T → Bool
  | .lf v => eqV v x
  | _ => false
def hasK (ks : List Key) (k : Key) : Bool := ks.any fun a => decide (a = k)
/-- in: a list, a tuple, a dict, one sign in a text -/
def inB : T → T → Option Bool
  | .lf x, .nd _ .lst ys => if flatV x = true ∧ ys.all flT = true then some (ys.any (eqT x)) else none
  | .lf x, .nd _ .tup ys => if flatV x = true ∧ ys.all flT = true then some (ys.any (eqT x)) else none
  | .lf x, .nd _ .rol ys => if flatV x = true ∧ ys.all flT = true then some (ys.any (eqT x)) else none
  | .lf x, .nd _ .rot ys => if flatV x = true ∧ ys.all flT = true then some (ys.any (eqT x)) else none
  | .lf x, .nd _ (.dK ks) _ => (keyOf x).map fun k => hasK ks k
  | .lf (.str x), .lf (.str y) => match x.cps.toList with
    | [c] => some (decide (c ∈ y.cps.toList))
    | _ => none
  | _, _ => none
def oIn : T → T → Option T := fun t s => (inB t s).map fun b => .lf (.bl b)
def oNotIn : T → T → Option T := fun t s => (inB t s).map fun b => .lf (.bl (!b))
def rInA (K : PySem.W.Frag) (neg : Bool) : R2 := fun x y H Q => rIn K neg x y H Q ∨ (∃ a o, y = .ref a ∧ DGet H a x o ∧ Q (.bl (if neg then !o.isSome else o.isSome)) H) ∨
  ∃ (c : Nat) (z : Str), x = .str ⟨#[c]⟩ ∧ y = .str z ∧ Q (.bl (if neg then !decide (c ∈ z.cps.toList) else decide (c ∈ z.cps.toList))) H
theorem op_inA {X : Cx} (hu : X.A.units + 1 < cLine) : OpR X (compareOp .In) (rInA X.K false) := by
  refine OpR.or op_in_seq (OpR.or ?_ op_in_sign)
  intro pins s σ H x y v u Q I rx ry h
  obtain ⟨a, o, rfl, g, q⟩ := h
  cases ry
  exact d_in hu I g rx fun s' I' => ⟨.bl o.isSome, H, I', rfl, q⟩
theorem op_notInA {X : Cx} (hu : X.A.units + 1 < cLine) : OpR X (compareOp .NotIn) (rInA X.K true) := by
  refine OpR.or op_notIn_seq (OpR.or ?_ op_notIn_sign)
  intro pins s σ H x y v u Q I rx ry h
  obtain ⟨a, o, rfl, g, q⟩ := h
  cases ry
  exact d_notIn hu I g rx fun s' I' => ⟨.bl (!o.isSome), H, I', rfl, q⟩
theorem flat_vs : ∀ {vs : List V} {ts : List T} {S : AS} {x : V}, Reps K mg F H vs ts S → ts.all flT = true → vs.all flatV = true ∧ inV x vs = ts.any (eqT x)
  | _, _, _, _, .nil _, _ => ⟨rfl, rfl⟩
  | _, _, _, x, .cons (t := t) r q _ _, h => by
    simp only [List.all_cons, Bool.and_eq_true] at h
    obtain ⟨h1, h2⟩ := flat_vs (x := x) q h.2
    cases t with
    | no => simp [flT] at h
    | nd _ _ _ => simp [flT] at h
    | lf w =>
      obtain ⟨e, _, _⟩ := r.lf_inv
      subst e
      refine ⟨by simp only [List.all_cons, Bool.and_eq_true]; exact ⟨h.1, h1⟩, ?_⟩
      unfold inV at h2 ⊢
      simp only [List.any_cons, h2, eqT]
theorem valV_zip (k : Key) : ∀ (ks : List Key) (vs : List V), ks.length = vs.length → (valV (ks.zip vs) k).isSome = hasK ks k
  | [], [], _ => rfl
  | [], _ :: _, h => by simp at h
  | _ :: _, [], h => by simp at h
  | a :: ks, v :: vs, h => by
    have ih := valV_zip k ks vs (by simpa using h)
    by_cases e : a = k
    · rw [List.zip_cons_cons, valV_pos e]; simp [hasK, e]
    · rw [List.zip_cons_cons, valV_neg e, ih]
      simp [hasK, e]
theorem inB_ok {x y : V} {t s : T} {R R2 : AS} {b neg : Bool} {Q : VK} (le : Le F H) (r1 : Rep K mg F H x t R) (r2 : Rep K mg F H y s R2) (h : inB t s = some b) (q : Q (.bl (if neg then !b else b)) H) : rInA K neg x y H Q := by
  have sq : ∀ {w : V} {o : Bool} {k : Kd} {ys : List T}, isSq k = true → Rep K mg F H y (.nd o k ys) R2 → Rep K mg F H x (.lf w) R → flatV w = true → ys.all flT = true → ys.any (eqT w) = b → rInA K neg x y H Q := by
    intro w o k ys hk r2 r1 f1 f2 e
    obtain ⟨a, vs, S0, rfl, p, _, hr⟩ := r2.nd_inv le
    obtain ⟨e1, _, _⟩ := r1.lf_inv
    subst e1
    obtain ⟨g1, g2⟩ := flat_vs (x := x) p f2
    refine .inl ⟨a, vs, rfl, hr.sq hk, f1, g1, ?_⟩
    rw [g2, e]
    exact q
  unfold inB at h
  split at h
  · split at h
    · rename_i c; exact sq rfl r2 r1 c.1 c.2 (Option.some.inj h)
    · cases h
  · split at h
    · rename_i c; exact sq rfl r2 r1 c.1 c.2 (Option.some.inj h)
    · cases h
  · split at h
    · rename_i c; exact sq rfl r2 r1 c.1 c.2 (Option.some.inj h)
    · cases h
  · split at h
    · rename_i c; exact sq rfl r2 r1 c.1 c.2 (Option.some.inj h)
    · cases h
  · obtain ⟨k, e1, e2⟩ := Option.map_eq_some_iff.mp h
    obtain ⟨a, vs, S0, rfl, p, _, hl, hr⟩ := r2.nd_inv le
    obtain ⟨e0, _, _⟩ := r1.lf_inv
    have ex := keyOf_some e1
    refine .inr (.inl ⟨a, _, rfl, .inl ⟨_, k, .inl hr, e0.trans ex, rfl⟩, ?_⟩)
    rw [valV_zip k _ _ hl, e2]
    exact q
  · split at h
    · rename_i c e
      cases h
      obtain ⟨e1, _, _⟩ := r1.lf_inv
      obtain ⟨e2, _, _⟩ := r2.lf_inv
      refine .inr (.inr ⟨c, _, ?_, e2, q⟩)
      rw [e1]
      congr 1
      exact TL.ext_tl (by show _ = [c]; exact e)
    · cases h
  · cases h
theorem v_in : Op2V K mg (rInA K false) oIn := by
  intro F H x y t s R R2 u Q le r1 r2 h q
  obtain ⟨b, e, rfl⟩ := Option.map_eq_some_iff.mp h
  exact inB_ok le r1 r2 e (q _ Emp (.lf rfl fun _ z => z))
theorem v_notIn : Op2V K mg (rInA K true) oNotIn := by
  intro F H x y t s R R2 u Q le r1 r2 h q
  obtain ⟨b, e, rfl⟩ := Option.map_eq_some_iff.mp h
  exact inB_ok le r1 r2 e (q _ Emp (.lf rfl fun _ z => z))

/-! ### len -/
def oLen : T → Option T
  | .nd _ .lst xs => some (.lf (.int xs.length))
  | .nd _ .tup xs => some (.lf (.int xs.length))
  | .nd _ .rol xs => some (.lf (.int xs.length))
  | .nd _ .rot xs => some (.lf (.int xs.length))
  | .nd _ (.dK ks) _ => some (.lf (.int ks.length))
  | .lf (.str x) => if x.length ≤ sizeLine then some (.lf (.int x.length)) else none
  | _ => none
def rLen (K : PySem.W.Frag) : List V → Hp → VK → Prop := fun xs H Q => (∃ p ys, xs = [.ref p] ∧ (SqL K H p ys ∨ SqT K H p ys) ∧ Q (.int ys.length) H) ∨ (∃ z, xs = [.str z] ∧ z.length ≤ sizeLine ∧ Q (.int z.length) H) ∨
  ∃ a kvs, xs = [.ref a] ∧ H a = some (.dK kvs) ∧ Q (.int kvs.length) H
theorem call_lenA {X : Cx} : CallR X (.builtin "len") (rLen X.K) := by
  refine CallR.or call_len_seq (CallR.or call_len_str ?_)
  intro pins s σ H xs us Q I r h
  obtain ⟨a, kvs, rfl, e, q⟩ := h
  obtain ⟨u, rfl, r1⟩ := vals1 r
  cases (show u = Value.ref a from r1)
  exact d_len I (.inl e) fun t s' I' => ⟨.int kvs.length, H, I', ⟨t, rfl⟩, q⟩
theorem v_len : Op1V K mg (fun x H Q => rLen K [x] H Q) oLen := by
  intro F H x t R u Q le r h q
  have sq : ∀ {o : Bool} {k : Kd} {ys : List T}, isSq k = true → Rep K mg F H x (.nd o k ys) R → u = .lf (.int ys.length) → rLen K [x] H Q := by
    intro o k ys hk r e
    obtain ⟨a, vs, S0, rfl, p, _, hr⟩ := r.nd_inv le
    refine .inl ⟨a, vs, rfl, hr.sq hk, ?_⟩
    rw [p.length (S := Emp)]
    exact q _ Emp (by rw [e]; exact .lf rfl fun _ z => z)
  unfold oLen at h
  split at h
  · exact sq rfl r (Option.some.inj h).symm
  · exact sq rfl r (Option.some.inj h).symm
  · exact sq rfl r (Option.some.inj h).symm
  · exact sq rfl r (Option.some.inj h).symm
  · cases h
    obtain ⟨a, vs, S0, rfl, p, _, hl, hr⟩ := r.nd_inv le
    refine .inr (.inr ⟨a, _, rfl, hr, ?_⟩)
    rw [List.length_zip, hl, Nat.min_self, ← hl]
    exact q _ Emp (.lf rfl fun _ z => z)
  · split at h
    · cases h
      exact .inr (.inl ⟨_, by rw [r.lf_inv.1], by assumption, q _ Emp (.lf rfl fun _ z => z)⟩)
    · cases h
  · cases h

/-! ### subscripts -/
def getK : List Key → List T → Key → Option T
  | a :: ks, x :: xs, k => if a = k then some x else getK ks xs k
  | _, _, _ => none
def oIx : T → T → Option T
  | .nd _ .lst xs, .lf (.int i) => atI xs i
  | .nd _ .tup xs, .lf (.int i) => atI xs i
  | .nd _ .rol xs, .lf (.int i) => atI xs i
  | .nd _ .rot xs, .lf (.int i) => atI xs i
  | .nd _ (.dK ks) xs, .lf x => (keyOf x).bind fun k => getK ks xs k
  | .nd _ (.dL ks) xs, .lf x => (keyOf x).bind fun k => getK ks xs k
  | .lf (.str z), .lf (.int i) => if z.length ≤ sizeLine then (atI z.cps.toList i).map fun c => .lf (.str ⟨#[c]⟩) else none
  | _, _ => none
theorem ix_dict {X : Cx} (hu : X.A.units + 1 < cLine) : IxR X (fun x y H Q => ∃ a v, x = .ref a ∧ DGet H a y (some v) ∧ Q v H) := by
  intro value slice pins s σ H x y v u Q I rx ry h hs
  obtain ⟨a, w, rfl, g, q⟩ := h
  cases (show v = Value.ref a from rx)
  have hT := dict_typeIs I g
  unfold subscriptTail
  refine wpAny_bind ?_
  rw [getitemInPython_of_ne hT.not_modules]
  refine wpAny_bind (wpAny_specialOf hT PySem.F.slot_dict_getitem.lookup ?_)
  have fin : wpAny (model X.prog X.w) X.A (subscripted slice false (.ref a) u) (fun r s₃ => wpAny (model X.prog X.w) X.A (letTemporaryGo value (.ref a) r >>= fun _ => pure r) (EP X pins σ Q) X.xe s₃) X.xe s := by
    rw [hs]
    exact wpAny_operating (d_getItem hu I g ry fun w' s3 I3 rw' => wpAny_bind (wpAny_letTemporaryGo (wpAny_pure ⟨w, H, I3, rw', q⟩)))
  first
    | exact wpAny_pure (wpAny_bind fin)
    | exact wpAny_bind (wpAny_pure (wpAny_bind fin))
    | exact wpAny_bind fin
def rIxA (K : PySem.W.Frag) : R2 := fun x y H Q => rIxL K x y H Q ∨ rIxT K x y H Q ∨ rIxS x y H Q ∨ ∃ a v, x = .ref a ∧ DGet H a y (some v) ∧ Q v H
theorem ix_all {X : Cx} (hu : X.A.units + 1 < cLine) : IxR X (rIxA X.K) := IxR.or ix_list (IxR.or ix_tup (IxR.or ix_str (ix_dict hu)))
theorem Reps.atI {vs : List V} {ts : List T} {S : AS} (r : Reps K mg F H vs ts S) {i : Int} {t : T} (h : atI ts i = some t) : ∃ v R, atI vs i = some v ∧ Rep K mg F H v t R ∧ ∀ x, R x → S x := by
  unfold L2.atI at h ⊢
  rw [r.length (S := Emp)]
  obtain ⟨j, e1, e2⟩ := Option.bind_eq_some_iff.mp h
  obtain ⟨v, R, h1, h2, h3⟩ := r.get e2
  exact ⟨v, R, by rw [e1]; exact h1, h2, h3⟩
theorem getK_ok {k : Key} : ∀ {ks : List Key} {vs : List V} {ts : List T} {S : AS} {t : T}, Reps K mg F H vs ts S → ks.length = vs.length → getK ks ts k = some t → ∃ v R, valV (ks.zip vs) k = some v ∧ Rep K mg F H v t R ∧ ∀ x, R x → S x := by
  intro ks
  induction ks with
  | nil => intro vs ts S t r hl h; simp [getK] at h
  | cons a ks ih =>
    intro vs ts S t r hl h
    cases r with
    | nil _ => simp at hl
    | @cons v t0 vs ts _ S1 S2 r q d hS =>
      unfold getK at h
      by_cases e : a = k
      · rw [if_pos e] at h
        cases h
        exact ⟨v, S1, by rw [List.zip_cons_cons, valV_pos e], r, fun x z => (hS x).mpr (.inl z)⟩
      · rw [if_neg e] at h
        obtain ⟨v', R, h1, h2, h3⟩ := ih q (by simpa using hl) h
        exact ⟨v', R, by rw [List.zip_cons_cons, valV_neg e]; exact h1, h2, fun x z => (hS x).mpr (.inr (h3 x z))⟩
/-- with the custody of the part -/
theorem ixA {x y : V} {t s u : T} {R R2 : AS} {Q : VK} (le : Le F H) (r1 : Rep K mg F H x t R) (r2 : Rep K mg F H y s R2) (h : oIx t s = some u) (q : ∀ v R', Rep K mg F H v u R' → (∀ x, R' x → R x) → Q v H) : rIxA K x y H Q := by
  unfold oIx at h
  split at h
  · obtain ⟨a, vs, S0, rfl, p, hs, hr⟩ := r1.nd_inv le
    obtain ⟨v, R', e1, e2, e3⟩ := p.atI h
    exact .inl ⟨a, vs, _, v, rfl, r2.lf_inv.1, SqL.of hr, e1, q v R' e2 fun x z => hs x (e3 x z)⟩
  · obtain ⟨a, vs, S0, rfl, p, hs, hr⟩ := r1.nd_inv le
    obtain ⟨v, R', e1, e2, e3⟩ := p.atI h
    exact .inr (.inl ⟨a, vs, _, v, rfl, r2.lf_inv.1, SqT.of hr, e1, q v R' e2 fun x z => hs x (e3 x z)⟩)
  · obtain ⟨a, vs, S0, rfl, p, hs, hr⟩ := r1.nd_inv le
    obtain ⟨v, R', e1, e2, e3⟩ := p.atI h
    exact .inl ⟨a, vs, _, v, rfl, r2.lf_inv.1, hr, e1, q v R' e2 fun x z => hs x (e3 x z)⟩
  · obtain ⟨a, vs, S0, rfl, p, hs, hr⟩ := r1.nd_inv le
    obtain ⟨v, R', e1, e2, e3⟩ := p.atI h
    exact .inr (.inl ⟨a, vs, _, v, rfl, r2.lf_inv.1, hr, e1, q v R' e2 fun x z => hs x (e3 x z)⟩)
  · obtain ⟨k, e1, e2⟩ := Option.bind_eq_some_iff.mp h
    obtain ⟨a, vs, S0, rfl, p, hs, hl, hr⟩ := r1.nd_inv le
    obtain ⟨v, R', g1, g2, g3⟩ := getK_ok p hl e2
    exact .inr (.inr (.inr ⟨a, v, rfl, .inl ⟨_, k, .inl hr, (r2.lf_inv.1).trans (keyOf_some e1), g1.symm⟩, q v R' g2 fun x z => hs x (g3 x z)⟩))
  · obtain ⟨k, e1, e2⟩ := Option.bind_eq_some_iff.mp h
    obtain ⟨a, vs, S0, rfl, p, hs, hl, hr⟩ := r1.nd_inv le
    obtain ⟨v, R', g1, g2, g3⟩ := getK_ok p hl e2
    exact .inr (.inr (.inr ⟨a, v, rfl, .inl ⟨_, k, .inr hr, (r2.lf_inv.1).trans (keyOf_some e1), g1.symm⟩, q v R' g2 fun x z => hs x (g3 x z)⟩))
  · split at h
    · obtain ⟨c, e1, rfl⟩ := Option.map_eq_some_iff.mp h
      exact .inr (.inr (.inl ⟨_, _, c, r1.lf_inv.1, r2.lf_inv.1, by assumption, e1, q _ Emp (.lf rfl fun _ z => z) fun _ z => z.elim⟩))
    · cases h
  · cases h
theorem v_ix : Op2V K mg (rIxA K) oIx := fun F H x y t s R R2 u Q le r1 r2 h q => ixA le r1 r2 h fun v R' r _ => q v R' r

/-! ### list(), sorted() -/
def oList : T → Option T
  | .nd _ .lst xs => if clns xs = true then some (.nd true .lst xs) else none
  | .nd _ .rol xs => if clns xs = true then some (.nd true .lst xs) else none
  | .nd _ .tup xs => if clns xs = true then some (.nd true .lst xs) else none
  | .nd _ .rot xs => if clns xs = true then some (.nd true .lst xs) else none
  | _ => none
def rListC (K : PySem.W.Frag) : List V → Hp → VK → Prop := fun xs H Q => ∃ p ys, xs = [.ref p] ∧ (SqL K H p ys ∨ SqT K H p ys) ∧ ∀ l, H l = none → Q (.ref l) (upd H l (.lst ys))
theorem e_list : Op1E K mg (fun x H Q => rListC K [x] H Q) oList := by
  intro F H x t R u Q le r h q
  have sq : ∀ {o : Bool} {k : Kd} {ys : List T}, isSq k = true → Rep K mg F H x (.nd o k ys) R → clns ys = true → u = .nd true .lst ys → rListC K [x] H Q := by
    intro o k ys hk r c e
    obtain ⟨a, vs, S0, rfl, p, _, hr⟩ := r.nd_inv le
    refine ⟨a, vs, rfl, hr.sq hk, fun l hl => ?_⟩
    obtain ⟨g1, g2, g3⟩ := new_one (k := .lst) (o := .lst vs) le hl rfl (p.clean0 c)
    exact q _ _ _ _ g1 g2 (by rw [e]; exact g3)
  unfold oList at h
  split at h
  all_goals first
    | (split at h
       · exact sq rfl r (by assumption) (Option.some.inj h).symm
       · cases h)
    | cases h
/-- the ints of a list of leaves -/
def intsOf : List T → Option (List Int)
  | [] => some []
  | .lf (.int i) :: ts => (intsOf ts).map fun is => i :: is
  | _ => none
def ins (x : Int) : List Int → List Int
  | [] => [x]
  | y :: ys => if x ≤ y then x :: y :: ys else y :: ins x ys
def isort : List Int → List Int
  | [] => []
  | x :: xs => ins x (isort xs)
theorem ins_perm (x : Int) : ∀ ys : List Int, (ins x ys).Perm (x :: ys)
  | [] => .refl _
  | y :: ys => by
    unfold ins
    split
    · exact .refl _
    · exact (List.Perm.cons y (ins_perm x ys)).trans (List.Perm.swap x y ys)
theorem isort_perm : ∀ xs : List Int, (isort xs).Perm xs
  | [] => .refl _
  | x :: xs => (ins_perm x (isort xs)).trans (List.Perm.cons x (isort_perm xs))
theorem ins_sorted (x : Int) : ∀ ys : List Int, ys.Pairwise (· ≤ ·) → (ins x ys).Pairwise (· ≤ ·)
  | [], _ => by simp [ins]
  | y :: ys, h => by
    unfold ins
    split
    · rename_i c
      refine List.pairwise_cons.mpr ⟨fun z hz => ?_, h⟩
      rcases List.mem_cons.mp hz with rfl | hz
      · exact c
      · exact Int.le_trans c ((List.pairwise_cons.mp h).1 z hz)
    · rename_i c
      refine List.pairwise_cons.mpr ⟨fun z hz => ?_, ins_sorted x ys (List.pairwise_cons.mp h).2⟩
      rcases List.mem_cons.mp ((ins_perm x ys).mem_iff.mp hz) with rfl | hz
      · omega
      · exact (List.pairwise_cons.mp h).1 z hz
theorem isort_sorted : ∀ xs : List Int, (isort xs).Pairwise (· ≤ ·)
  | [] => .nil
  | x :: xs => ins_sorted x _ (isort_sorted xs)
theorem sorted_uniq : ∀ {a b : List Int}, a.Perm b → a.Pairwise (· ≤ ·) → b.Pairwise (· ≤ ·) → a = b
  | [], b, p, _, _ => (List.Perm.nil_eq p)
  | x :: xs, [], p, _, _ => by simp at p
  | x :: xs, y :: ys, p, h1, h2 => by
    have e : x = y := by
      have m1 : x ∈ y :: ys := p.mem_iff.mp (List.mem_cons_self ..)
      have m2 : y ∈ x :: xs := p.mem_iff.mpr (List.mem_cons_self ..)
      rcases List.mem_cons.mp m1 with e | m1
      · exact e
      · rcases List.mem_cons.mp m2 with e | m2
        · exact e.symm
        · have a1 := (List.pairwise_cons.mp h2).1 x m1
          have a2 := (List.pairwise_cons.mp h1).1 y m2
          omega
    subst e
    rw [sorted_uniq (List.Perm.cons_inv p) (List.pairwise_cons.mp h1).2 (List.pairwise_cons.mp h2).2]
def lfI (i : Int) : T := .lf (.int i)
theorem intsOf_some : ∀ {ts : List T} {is : List Int}, intsOf ts = some is → ts = is.map lfI
  | [], is, h => by simp [intsOf] at h; subst h; rfl
  | t :: ts, is, h => by
    unfold intsOf at h
    split at h
    · rename_i e; cases e
    · rename_i i ts' e
      obtain ⟨is', e1, rfl⟩ := Option.map_eq_some_iff.mp h
      cases e
      rw [List.map_cons, ← intsOf_some e1]
      rfl
    · cases h
theorem reps_ints : ∀ {is : List Int} {vs : List V} {S : AS}, Reps K mg F H vs (is.map lfI) S → vs = is.map V.int
  | [], _, _, r => by cases r with | nil _ => rfl
  | i :: is, _, _, r => by
    cases r with
    | cons r q _ _ => rw [reps_ints q, List.map_cons, (r.lf_inv).1]
theorem ints_reps : ∀ (is : List Int), Reps K mg F H (is.map V.int) (is.map lfI) Emp
  | [] => .nil fun _ z => z
  | i :: is => .cons (S1 := Emp) (S2 := Emp) (.lf rfl fun _ z => z) (ints_reps is) dj_emp fun x => ⟨fun z => z.elim, fun z => z.elim id id⟩
theorem clns_ints : ∀ is : List Int, clns (is.map lfI) = true
  | [] => rfl
  | i :: is => by rw [List.map_cons, clns, clns_ints is]; rfl
/-- sorted of a list of ints; of a dict with int keys, its keys -/
def oSorted : T → Option T
  | .nd _ .lst xs => (intsOf xs).map fun is => .nd true .lst ((isort is).map lfI)
  | .nd _ .rol xs => (intsOf xs).map fun is => .nd true .lst ((isort is).map lfI)
  | .nd _ (.dK ks) _ => (intsOf (ks.map fun k => .lf (kV k))).bind fun is => if is.length < 64 then some (.nd true .lst ((isort is).map lfI)) else none
  | _ => none
def rSortA (K : PySem.W.Frag) : List V → Hp → VK → Prop := fun xs H Q => rSortedI K xs H Q ∨ ∃ (a : Addr) (kvs : List (Key × V)) (ks : List Int), xs = [.ref a] ∧ Rd H a (.dK kvs) ∧ kvs.map (·.1) = ks.map Sum.inl ∧ ks.length < 64 ∧ ∀ (ys : List Int) (p : Addr), ys.Perm ks → ys.Pairwise (· ≤ ·) → H p = none → Q (.ref p) (upd H p (.lst (ys.map V.int)))
theorem call_sortA {X : Cx} (hc : X.calm = true) : CallR X (.builtin "sorted") (rSortA X.K) := CallR.or cr_sortedI (call_sortedDI hc)
theorem fin_sort {is ys : List Int} {p : Addr} {u : T} {Q : VK} (le : Le F H) (hp : H p = none) (h1 : ys.Perm is) (h2 : ys.Pairwise (· ≤ ·)) (e : u = .nd true .lst ((isort is).map lfI))
    (q : ∀ v F' H' R', Stp F H Emp F' H' R' → Le F' H' → Rep K mg F' H' v u R' → Q v H') : Q (.ref p) (upd H p (.lst (ys.map V.int))) := by
  have e2 : ys = isort is := sorted_uniq (h1.trans (isort_perm is).symm) h2 (isort_sorted is)
  subst e2
  obtain ⟨g1, g2, g3⟩ := new_one (K := K) (mg := mg) (k := .lst) (o := .lst ((isort is).map V.int)) le hp rfl (ints_reps (isort is))
  exact q _ _ _ _ g1 g2 (by rw [e]; exact g3)
theorem keys_ints : ∀ {ks : List Key} {is : List Int}, intsOf (ks.map fun k => .lf (kV k)) = some is → ks = is.map Sum.inl
  | [], is, h => by simp [intsOf] at h; subst h; rfl
  | .inl i :: ks, is, h => by
    simp only [List.map_cons, kV, intsOf, Option.map_eq_some_iff] at h
    obtain ⟨is', e1, rfl⟩ := h
    rw [List.map_cons, ← keys_ints e1]
  | .inr x :: ks, is, h => by simp [kV, intsOf] at h
theorem e_sorted : Op1E K mg (fun x H Q => rSortA K [x] H Q) oSorted := by
  intro F H x t R u Q le r h q
  have sq : ∀ {o : Bool} {k : Kd} {ys : List T} {is : List Int}, (∀ {a : Addr} {vs : List V}, Here K mg H a k vs → SqL K H a vs) → Rep K mg F H x (.nd o k ys) R → intsOf ys = some is → u = .nd true .lst ((isort is).map lfI) → rSortA K [x] H Q := by
    intro o k ys is hk r c e
    obtain ⟨a, vs, S0, rfl, p, _, hr⟩ := r.nd_inv le
    have e1 := intsOf_some c
    subst e1
    have e2 := reps_ints p
    subst e2
    exact .inl ⟨a, is, rfl, hk hr, fun ys p h1 h2 hp => fin_sort le hp h1 h2 e q⟩
  unfold oSorted at h
  split at h
  · obtain ⟨is, e1, e2⟩ := Option.map_eq_some_iff.mp h
    exact sq (k := .lst) (fun z => SqL.of z) r e1 e2.symm
  · obtain ⟨is, e1, e2⟩ := Option.map_eq_some_iff.mp h
    exact sq (k := .rol) (fun z => z) r e1 e2.symm
  · obtain ⟨is, e1, e2⟩ := Option.bind_eq_some_iff.mp h
    split at e2
    · rename_i c
      obtain ⟨a, vs, S0, rfl, p, _, hl, hr⟩ := r.nd_inv le
      refine .inr ⟨a, _, is, rfl, .inl hr, ?_, c, fun ys p h1 h2 hp => fin_sort le hp h1 h2 (Option.some.inj e2).symm q⟩
      rw [List.map_fst_zip (by omega)]
      exact keys_ints e1
    · cases e2
  · cases h

/-! ### isinstance of built-in types -/
def tyN : T → Option String
  | .lf .non => some "NoneType"
  | .lf (.bl _) => some "bool"
  | .lf (.int _) => some "int"
  | .lf (.str _) => some "str"
  | .nd _ .lst _ => some "list"
  | .nd _ .tup _ => some "tuple"
  | .nd _ (.dK _) _ => some "dict"
  | _ => none
def isiB (a b : String) : Bool := a == b || (a == "bool" && b == "int")
def isiOk (a b : String) : Bool := (["NoneType", "bool", "int", "str", "list", "tuple", "dict"].contains a) && (["bool", "int", "str", "list", "tuple", "dict"].contains b)
def oIsi (b : String) : T → Option T := fun t => (tyN t).map fun a => .lf (.bl (isiB a b))
theorem kit_all : ∀ a ∈ ["NoneType", "bool", "int", "str", "list", "tuple", "dict"], ∀ b ∈ ["bool", "int", "str", "list", "tuple", "dict"], kitB a b = some (isiB a b) := by decide +kernel
theorem tyN_ok {x : V} {t : T} {R : AS} {a : String} (le : Le F H) (r : Rep K mg F H x t R) (h : tyN t = some a) : TyX K H x (.type a) ∧ a ∈ ["NoneType", "bool", "int", "str", "list", "tuple", "dict"] := by
  unfold tyN at h
  split at h
  · cases h; rw [r.lf_inv.1]; exact ⟨.base .non, by decide⟩
  · cases h; rw [r.lf_inv.1]; exact ⟨.base (.bl _), by decide⟩
  · cases h; rw [r.lf_inv.1]; exact ⟨.base (.int _), by decide⟩
  · cases h; rw [r.lf_inv.1]; exact ⟨.base (.str _), by decide⟩
  · cases h; obtain ⟨a, vs, S0, rfl, p, _, hr⟩ := r.nd_inv le; exact ⟨.base (.lst hr), by decide⟩
  · cases h; obtain ⟨a, vs, S0, rfl, p, _, hr⟩ := r.nd_inv le; exact ⟨.base (.tup hr), by decide⟩
  · cases h; obtain ⟨a, vs, S0, rfl, p, _, hl, hr⟩ := r.nd_inv le; exact ⟨.base (.dK hr), by decide⟩
  · cases h
theorem v_isi {b : String} (hb : b ∈ ["bool", "int", "str", "list", "tuple", "dict"]) : Op1V K mg (fun x H Q => rIsi K [x, .ty b] H Q) (oIsi b) := by
  intro F H x t R u Q le r h q
  obtain ⟨a, e1, rfl⟩ := Option.map_eq_some_iff.mp h
  obtain ⟨ty, ha⟩ := tyN_ok le r e1
  exact ⟨x, _, _, _, _, rfl, .ty b, ty, kit_ty (kit_all a ha b hb), q _ Emp (.lf rfl fun _ z => z)⟩
end
end Tr


set_option Elab.async false
set_option linter.all false
set_option maxRecDepth 100000
set_option maxHeartbeats 4000000
/-! D5: expressions put together; arguments, calls. -/
namespace Tr
open PySem PySem.Spec PyProof.Rows L2

section
variable {X : Cx} {op : Operator} {co : CmpOp} {a b : Expr} {pos : Pos} {r : R2} {o : T → T → Option T} {va vb : DV} {da db : DE}
/-! ### two operands -/
theorem sv_bin (ho : OpR X (binaryOp op) r) (hv : Op2V X.K X.mg r o) (ha : SV X a va) (hb : SV X b vb) : SV X (.BinOp a op b pos) (o2V o va vb) := pew (pe_op ho ha hb) fun _ _ _ => i2V hv
theorem sr_binv (ho : OpR X (binaryOp op) r) (hv : Op2V X.K X.mg r o) (ha : SR X a da) (hb : SV X b vb) : SR X (.BinOp a op b pos) (o2v o da vb) := pew (pe_op ho ha hb) fun _ _ _ => i2v hv
theorem sr_binc (ho : OpR X (binaryOp op) r) (hv : Op2V X.K X.mg r o) (ha : SR X a da) (hb : SR X b db) : SR X (.BinOp a op b pos) (o2c o da db) := pew (pe_op ho ha hb) fun _ _ _ => i2c hv
theorem sr_bino (ho : OpR X (binaryOp op) r) (hv : Op2V X.K X.mg r o) (ha : SE X a da) (hb : SR X b db) : SR X (.BinOp a op b pos) (o2o o da db) := pew (pe_op ho ha hb) fun _ _ _ => i2o hv
theorem se_binv (ho : OpR X (binaryOp op) r) (hv : Op2E X.K X.mg r o) (ha : SR X a da) (hb : SV X b vb) : SE X (.BinOp a op b pos) (o2v o da vb) := pew (pe_op ho ha hb) fun _ _ _ => i2vE hv
theorem se_binc (ho : OpR X (binaryOp op) r) (hv : Op2E X.K X.mg r o) (ha : SR X a da) (hb : SR X b db) : SE X (.BinOp a op b pos) (o2c o da db) := pew (pe_op ho ha hb) fun _ _ _ => i2cE hv
theorem se_bino (ho : OpR X (binaryOp op) r) (hv : Op2E X.K X.mg r o) (ha : SE X a da) (hb : SR X b db) : SE X (.BinOp a op b pos) (o2o o da db) := pew (pe_op ho ha hb) fun _ _ _ => i2oE hv
theorem sv_cmp (ho : OpR X (compareOp co) r) (hv : Op2V X.K X.mg r o) (hm : behindInMarks co b = false) (ha : SV X a va) (hb : SV X b vb) : SV X (.Compare a [co] [b] pos) (o2V o va vb) := pew (pe_cmpR ho ha hb hm) fun _ _ _ => i2V hv
theorem sr_cmpv (ho : OpR X (compareOp co) r) (hv : Op2V X.K X.mg r o) (hm : behindInMarks co b = false) (ha : SR X a da) (hb : SV X b vb) : SR X (.Compare a [co] [b] pos) (o2v o da vb) := pew (pe_cmpR ho ha hb hm) fun _ _ _ => i2v hv
theorem sr_cmpc (ho : OpR X (compareOp co) r) (hv : Op2V X.K X.mg r o) (hm : behindInMarks co b = false) (ha : SR X a da) (hb : SR X b db) : SR X (.Compare a [co] [b] pos) (o2c o da db) := pew (pe_cmpR ho ha hb hm) fun _ _ _ => i2c hv
theorem sr_cmpo (ho : OpR X (compareOp co) r) (hv : Op2V X.K X.mg r o) (hm : behindInMarks co b = false) (ha : SE X a da) (hb : SR X b db) : SR X (.Compare a [co] [b] pos) (o2o o da db) := pew (pe_cmpR ho ha hb hm) fun _ _ _ => i2o hv
theorem st_cmp (ho : OpR X (compareOp co) r) (hv : Op2V X.K X.mg r o) (hm : behindInMarks co b = false) (ha : SV X a va) (hb : SV X b vb) : ST X (.Compare a [co] [b] pos) (vr (o2V o va vb)) := ptw (pt_cmpR ho ha hb hm) fun _ _ _ h => i2V hv (vr_imp h)
theorem st_cmpv (ho : OpR X (compareOp co) r) (hv : Op2V X.K X.mg r o) (hm : behindInMarks co b = false) (ha : SR X a da) (hb : SV X b vb) : ST X (.Compare a [co] [b] pos) (o2v o da vb) := ptw (pt_cmpR ho ha hb hm) fun _ _ _ h => i2v hv h
theorem st_cmpc (ho : OpR X (compareOp co) r) (hv : Op2V X.K X.mg r o) (hm : behindInMarks co b = false) (ha : SR X a da) (hb : SR X b db) : ST X (.Compare a [co] [b] pos) (o2c o da db) := ptw (pt_cmpR ho ha hb hm) fun _ _ _ h => i2c hv h
theorem st_cmpo (ho : OpR X (compareOp co) r) (hv : Op2V X.K X.mg r o) (hm : behindInMarks co b = false) (ha : SE X a da) (hb : SR X b db) : ST X (.Compare a [co] [b] pos) (o2o o da db) := ptw (pt_cmpR ho ha hb hm) fun _ _ _ h => i2o hv h
/-! ### subscripts -/
theorem sv_ix (hu : X.A.units + 1 < cLine) (ha : SV X a va) (hb : SV X b vb) (hs : PlainIx b := by exact fun _ _ => rfl) : SV X (.Subscript a b pos) (o2V oIx va vb) := pew (pe_ix (ix_all hu) ha hb hs) fun _ _ _ => i2V v_ix
theorem sr_ixv (hu : X.A.units + 1 < cLine) (ha : SR X a da) (hb : SV X b vb) (hs : PlainIx b := by exact fun _ _ => rfl) : SR X (.Subscript a b pos) (o2v oIx da vb) := pew (pe_ix (ix_all hu) ha hb hs) fun _ _ _ => i2v v_ix
theorem sr_ixc (hu : X.A.units + 1 < cLine) (ha : SR X a da) (hb : SR X b db) (hs : PlainIx b := by exact fun _ _ => rfl) : SR X (.Subscript a b pos) (o2c oIx da db) := pew (pe_ix (ix_all hu) ha hb hs) fun _ _ _ => i2c v_ix
/-- a part of a thing of one's own, the rest let go -/
theorem se_ix (hu : X.A.units + 1 < cLine) (ha : SE X a da) (hb : SV X b vb) (hs : PlainIx b := by exact fun _ _ => rfl) : SE X (.Subscript a b pos) (o2v oIx da vb) := pew (pe_ix (ix_all hu) ha hb hs) fun σ H Q q => by
  obtain ⟨F, env, S, t, env', ok, hd, q⟩ := q
  obtain ⟨x, y, h1, h3, h4⟩ := o2v_some hd
  refine ⟨F, env, S, x, _, ok, h1, fun v F1 H1 S1 R st ok1 r dj => ⟨F1, env', S1, y, ok1, h3, fun w R' r' => ?_⟩⟩
  exact ixA ok1.le r r' h4 fun v' R'' r'' hs => q v' F1 H1 S1 R'' (st.weak fun z hz => hz.elim .inl fun z => .inr (hs _ z)) ok1 r'' fun z a b => dj z a (hs z b)
/-! ### one operand -/
theorem sv_neg (ha : SV X a va) : SV X (.UnaryOp .USub a pos) (o1V oNeg va) := pew (pe_un un_neg ha) fun _ _ _ => i1V v_neg
theorem sr_neg (ha : SR X a da) : SR X (.UnaryOp .USub a pos) (o1 oNeg da) := pew (pe_un un_neg ha) fun _ _ _ => i1R v_neg
end
def oNot : T → Option T
  | .lf (.bl b) => some (.lf (.bl (!b)))
  | _ => none
theorem v_not {K : PySem.W.Frag} {mg : Mg} : Op1V K mg (fun x H Q => ∃ c, x = .bl c ∧ Q (.bl (!c)) H) oNot := by
  intro F H x t R u Q le r h q
  unfold oNot at h
  split at h
  · cases h; exact ⟨_, r.lf_inv.1, q _ Emp (.lf rfl fun _ z => z)⟩
  · cases h
theorem tR_mono {K : PySem.W.Frag} {mg : Mg} {d : DE} {σ : L2.St} {H : Hp} {Q Q' : VK} (h : tR K mg d σ H Q) (m : ∀ v H, Q v H → Q' v H) : tR K mg d σ H Q' := by
  obtain ⟨F, env, S, t, env', ok, hd, q⟩ := h
  exact ⟨F, env, S, t, env', ok, hd, fun v F' H' S' R a b c => m _ _ (q v F' H' S' R a b c)⟩
def dAnd (da db : DE) : DE := fun env => match da env with
  | some (.lf (.bl true), e) => db e
  | some (.lf (.bl false), e) => some (.lf (.bl false), e)
  | _ => none
def dOr (da db : DE) : DE := fun env => match da env with
  | some (.lf (.bl true), e) => some (.lf (.bl true), e)
  | some (.lf (.bl false), e) => db e
  | _ => none
section
variable {X : Cx} {a b : Expr} {rest : List Expr} {pos : Pos} {da db : DE} {K : PySem.W.Frag} {mg : Mg} {σ : L2.St} {H : Hp} {Q : VK}
theorem sr_not (ha : SR X a da) : SR X (.UnaryOp .Not a pos) (o1 oNot da) := pew (pe_not ha) fun _ _ _ h => i1R v_not h
theorem st_not (ha : ST X a da) : ST X (.UnaryOp .Not a pos) (o1 oNot da) := ptw (pt_not ha) fun σ H Q h => by
  have h2 := i1R v_not h
  refine tR_mono h2 fun v H ⟨c, e, k, e2, q⟩ => ?_
  cases e2
  exact ⟨c, e, q⟩
theorem and_imp (h : tR K mg (dAnd da db) σ H Q) : tR K mg da σ H fun x H1 => ∃ c, x = .bl c ∧ if c = true then tR K mg db σ H1 Q else Q (.bl false) H1 := by
  obtain ⟨F, env, S, t, env', ok, hd, q⟩ := h
  unfold dAnd at hd
  split at hd
  · rename_i e e1
    exact ⟨F, env, S, _, e, ok, e1, fun v F' H' S' R st ok' r => ⟨true, r.lf_inv.1, by
      rw [if_pos rfl]
      exact ⟨F', e, S', t, env', ok', hd, fun v2 F2 H2 S2 R2 st2 ok2 r2 => q v2 F2 H2 S2 R2 (st.trans st2) ok2 r2⟩⟩⟩
  · rename_i e e1
    cases hd
    exact ⟨F, env, S, _, _, ok, e1, fun v F' H' S' R st ok' r => ⟨false, r.lf_inv.1, by
      rw [if_neg Bool.false_ne_true]
      exact q _ F' H' S' Emp st ok' (.lf rfl fun _ z => z)⟩⟩
  · cases hd
theorem or_imp (h : tR K mg (dOr da db) σ H Q) : tR K mg da σ H fun x H1 => ∃ c, x = .bl c ∧ if c = true then Q (.bl true) H1 else tR K mg db σ H1 Q := by
  obtain ⟨F, env, S, t, env', ok, hd, q⟩ := h
  unfold dOr at hd
  split at hd
  · rename_i e e1
    cases hd
    exact ⟨F, env, S, _, _, ok, e1, fun v F' H' S' R st ok' r => ⟨true, r.lf_inv.1, by
      rw [if_pos rfl]
      exact q _ F' H' S' Emp st ok' (.lf rfl fun _ z => z)⟩⟩
  · rename_i e e1
    exact ⟨F, env, S, _, e, ok, e1, fun v F' H' S' R st ok' r => ⟨false, r.lf_inv.1, by
      rw [if_neg Bool.false_ne_true]
      exact ⟨F', e, S', t, env', ok', hd, fun v2 F2 H2 S2 R2 st2 ok2 r2 => q v2 F2 H2 S2 R2 (st.trans st2) ok2 r2⟩⟩⟩
  · cases hd
theorem sr_and1 {op} (ha : SR X a da) : SR X (.BoolOp op [a] pos) da := pe_one ha
theorem sr_and (ha : SR X a da) (hb : SR X (.BoolOp .And (b :: rest) pos) db) : SR X (.BoolOp .And (a :: b :: rest) pos) (dAnd da db) := pew (pe_and ha hb) fun _ _ _ => and_imp
theorem sr_or (ha : SR X a da) (hb : SR X (.BoolOp .Or (b :: rest) pos) db) : SR X (.BoolOp .Or (a :: b :: rest) pos) (dOr da db) := pew (pe_or ha hb) fun _ _ _ => or_imp
/-- and, or as tests -/
def SW (X : Cx) (e : Expr) (d : DE) : Prop := PW X e (tTest (tR X.K X.mg d))
theorem SW.t {e : Expr} (h : SW X e da) : ST X e da := PW.pt h
theorem sw_and1 (ha : ST X a da) : SW X (.BoolOp .And [a] pos) da := pw_and1 ha
theorem sw_or1 (ha : ST X a da) : SW X (.BoolOp .Or [a] pos) da := pw_or1 ha
theorem pww {e : Expr} {t t' : TT} (h : PW X e t) (i : ∀ σ H Q, t' σ H Q → t σ H Q) : PW X e t' := ⟨fun wh pins s σ H Q I q => h.run wh pins s σ H Q I (i σ H Q q)⟩
theorem sw_and (ha : ST X a da) (hb : SW X (.BoolOp .And (b :: rest) pos) db) : SW X (.BoolOp .And (a :: b :: rest) pos) (dAnd da db) := pww (pw_and ha hb) fun σ H Q h => by
  refine tR_mono (and_imp h) fun v H1 ⟨c, e, q⟩ => ⟨c, e, ?_⟩
  cases c with
  | true => rw [if_pos rfl] at q ⊢; exact q
  | false =>
    rw [if_neg Bool.false_ne_true] at q ⊢
    obtain ⟨k, e, q⟩ := q
    cases e
    exact q
theorem sw_or (ha : ST X a da) (hb : SW X (.BoolOp .Or (b :: rest) pos) db) : SW X (.BoolOp .Or (a :: b :: rest) pos) (dOr da db) := pww (pw_or ha hb) fun σ H Q h => by
  refine tR_mono (or_imp h) fun v H1 ⟨c, e, q⟩ => ⟨c, e, ?_⟩
  cases c with
  | false => rw [if_neg Bool.false_ne_true] at q ⊢; exact q
  | true =>
    rw [if_pos rfl] at q ⊢
    obtain ⟨k, e, q⟩ := q
    cases e
    exact q
end

/-! ### arguments -/
abbrev DA := List T → Option (List T × List T)
/-- the arguments that are lent, by their slots -/
def Bor (σ : L2.St) (bs : List (Option Nat)) (vs : List V) : Prop := ∀ (j i : Nat), bs[j]? = some (some i) → ∃ v, vs[j]? = some v ∧ σ[i]? = some (some v)
def tA (K : PySem.W.Frag) (mg : Mg) (bs : List (Option Nat)) (d : DA) : TA := fun σ H Q => ∃ F env S ts env', Ok K mg F H σ env S ∧ d env = some (ts, env') ∧
  ∀ vs F' H' S' R, Stp F H S F' H' (Cup S' R) → Ok K mg F' H' σ env' S' → Reps K mg F' H' vs ts R → Dj S' R → Bor σ bs vs → Q vs H'
def SA (X : Cx) (es : List Expr) (bs : List (Option Nat)) (d : DA) : Prop := PA X es (tA X.K X.mg bs d)
theorem paw {X : Cx} {es : List Expr} {t t' : TA} (h : PA X es t) (i : ∀ σ H Q, t' σ H Q → t σ H Q) : PA X es t' := ⟨fun pos pins s σ H Q I q => h.run pos pins s σ H Q I (i σ H Q q)⟩
def aNil : DA := fun env => some ([], env)
def aCons (da : DE) (dr : DA) : DA := fun env => (da env).bind fun p => (dr p.2).map fun q => (p.1 :: q.1, q.2)
section
variable {X : Cx} {e : Expr} {es : List Expr} {d : DE} {dr : DA} {bs : List (Option Nat)} {K : PySem.W.Frag} {mg : Mg} {σ : L2.St} {H : Hp}
theorem aCons_some {env : List T} {ts e2 : List T} (h : aCons d dr env = some (ts, e2)) : ∃ t e1 ts', d env = some (t, e1) ∧ dr e1 = some (ts', e2) ∧ ts = t :: ts' := by
  obtain ⟨⟨t, e1⟩, h1, h2⟩ := Option.bind_eq_some_iff.mp h
  obtain ⟨⟨ts', e2'⟩, h3, h4⟩ := Option.map_eq_some_iff.mp h2
  cases h4
  exact ⟨t, e1, ts', h1, h3, rfl⟩
theorem sa_nil : SA X [] [] aNil := paw pa_nil fun σ H Q ⟨F, env, S, ts, e, ok, h, q⟩ => by
  cases h
  exact q [] F H S Emp (Stp.refl.weak fun _ z => z.elim id fun z => z.elim) ok (.nil fun _ z => z) dj_emp fun j i h => by simp at h
/-- two custodies behind one another -/
theorem join_step {F F1 F2 H H1 H2 : Hp} {S S1 S2 R1 R2 : AS} (a : Stp F H S F1 H1 (Cup S1 R1)) (hR : ∀ x, R1 x → ∃ o, H1 x = some o) (dj : Dj S1 R1) (b : Stp F1 H1 S1 F2 H2 (Cup S2 R2)) :
    Stp F H S F2 H2 (Cup S2 (Cup R1 R2)) ∧ Dj R1 R2 ∧ Dj S2 R1 := by
  have d := b.dj hR dj
  refine ⟨(a.trans (b.frame R1)).weak fun x z => ?_, fun x z y => d x (.inr y) z, fun x z y => d x (.inl z) y⟩
  rcases z with z | z | z
  · exact .inl (.inl z)
  · exact .inr z
  · exact .inl (.inr z)
theorem cons_imp {Q : List V → Hp → Prop} (ta : TE) (hta : ∀ σ H Q, tE K mg d σ H Q → ta σ H Q) (h : tA K mg (none :: bs) (aCons d dr) σ H Q) : tCons ta (tA K mg bs dr) σ H Q := by
  obtain ⟨F, env, S, ts, e2, ok, hd, q⟩ := h
  obtain ⟨t, e1, ts', h1, h2, rfl⟩ := aCons_some hd
  refine hta _ _ _ ⟨F, env, S, t, e1, ok, h1, fun v F1 H1 S1 R1 st ok1 r dj => ⟨F1, e1, S1, ts', e2, ok1, h2, fun vs F2 H2 S2 R2 st2 ok2 r2 dj2 bo => ?_⟩⟩
  obtain ⟨g1, g2, g3⟩ := join_step st (fun x z => (r.dom x z).1) dj st2
  refine q (v :: vs) F2 H2 S2 (Cup R1 R2) g1 ok2 (.cons (r.keep st2 dj) r2 g2 fun _ => Iff.rfl) (fun x a b => b.elim (g3 x a) (dj2 x a)) fun j i hj => ?_
  cases j with
  | zero => simp at hj
  | succ j => exact bo j i (by simpa using hj)
theorem sa_cons (ha : SE X e d) (hr : SA X es bs dr) (hs : starEach (e :: es) X.env = (false, eval e X.env) :: starEach es X.env := by rfl) : SA X (e :: es) (none :: bs) (aCons d dr) :=
  paw (pa_cons ha hr hs) fun _ _ _ h => cons_imp _ (fun _ _ _ z => z) h
/-- a name that is lent -/
theorem sa_lend {i : Nat} {x : Str} {pos : Pos} (hr : SA X es bs dr) (hN : X.N[i]? = some x := by rfl) (hv : Vis X.env.scope x := by first | exact Or.inl rfl | exact Or.inr (Or.inl rfl) | exact Or.inr (Or.inr rfl)) (hd : (x == ("__debug__" : Str)) = false := by decide)
    (hcd : (x == ("__classdict__" : Str)) = false := by decide) (hs : starEach (.Name x pos :: es) X.env = (false, eval (.Name x pos) X.env) :: starEach es X.env := by rfl) : SA X (.Name x pos :: es) (some i :: bs) (aCons (gM i) dr) :=
  paw (pa_cons (pe_var hN hv hd hcd) hr hs) fun σ H Q h => by
    obtain ⟨F, env, S, ts, e2, ok, hd, q⟩ := h
    obtain ⟨t, e1, ts', h1, h2, rfl⟩ := aCons_some hd
    unfold gM at h1
    cases e0 : gV i env with
    | none => rw [e0] at h1; cases h1
    | some t' =>
      rw [e0] at h1; cases h1
      obtain ⟨g1, g2⟩ := gV_some e0
      obtain ⟨v, A, B, ev, r, d, hS, rest⟩ := ok.st.slot g1 g2
      have ok1 : Ok X.K X.mg F H σ (env.set i .no) (Cup Emp B) := ⟨ok.le, by
        have := rest F H (some v) .no Emp (Le.refl _) (fun y z => ⟨rfl, (ok.st.dom y ((hS y).mpr (.inr z))).2⟩) (.no fun _ z => z) emp_dj
        rwa [set_self' ev] at this⟩
      have st1 : Stp F H S F H (Cup (Cup Emp B) A) := ⟨Le.refl _, fun _ _ z _ => z, fun _ _ z => .inl z, fun y z => .inl ((hS y).mpr (z.elim (fun z => .inr (z.elim (fun z => z.elim) id)) .inl))⟩
      have dj1 : Dj (Cup Emp B) A := fun y z a => z.elim (fun z => z.elim) fun z => d y a z
      refine ⟨v, ev, F, _, _, ts', e2, ok1, h2, fun vs F2 H2 S2 R2 st2 ok2 r2 dj2 bo => ?_⟩
      obtain ⟨k1, k2, k3⟩ := join_step st1 (fun x z => (r.dom x z).1) dj1 st2
      refine q (v :: vs) F2 H2 S2 (Cup A R2) k1 ok2 (.cons (r.keep st2 dj1) r2 k2 fun _ => Iff.rfl) (fun x a b => b.elim (k3 x a) (dj2 x a)) fun j k hj => ?_
      cases j with
      | zero => simp at hj; subst hj; exact ⟨v, rfl, ev⟩
      | succ j => exact bo j k (by simpa using hj)
end

/-! ### what a def promises -/
abbrev FT := List T → Option (T × List T)
def spD (K : PySem.W.Frag) (mg : Mg) (n : Nat) (f : FT) : Sp := fun vs H Q _ => vs.length = n ∧ ∃ F S ts r ts', Le F H ∧ Reps K mg F H vs ts S ∧ f ts = some (r, ts') ∧
  ∀ v F' H' R S', Stp F H S F' H' (Cup R S') → Le F' H' → Rep K mg F' H' v r R → Reps K mg F' H' vs ts' S' → Dj R S' → Q v H'
/-- what was lent is put back -/
def wb : List (Option Nat) → List T → List T → Option (List T)
  | some i :: bs, t :: ts, env => match env[i]? with
    | some .no => wb bs ts (env.set i t)
    | _ => none
  | none :: bs, _ :: ts, env => wb bs ts env
  | [], _, env => some env
  | _, _, _ => none
def dCall (f : FT) (bs : List (Option Nat)) (dv : List V) (da : DA) : DE := fun env => (da env).bind fun p => (f (p.1 ++ dv.map .lf)).bind fun r => (wb bs r.2 p.2).map fun e => (r.1, e)
section
variable {K : PySem.W.Frag} {mg : Mg} {F H : Hp} {σ : L2.St}
theorem wb_ok : ∀ {bs : List (Option Nat)} {ts env env' : List T} {vs : List V} {S S' : AS}, wb bs ts env = some env' → Ok K mg F H σ env S → Reps K mg F H vs ts S' → Dj S S' → Bor σ bs vs → ∃ S2, Ok K mg F H σ env' S2 ∧ ∀ x, S2 x → S x ∨ S' x := by
  intro bs
  induction bs with
  | nil => intro ts env env' vs S S' h ok r dj bo; simp [wb] at h; subst h; exact ⟨S, ok, fun _ z => .inl z⟩
  | cons b bs ih =>
    intro ts env env' vs S S' h ok r dj bo
    cases ts with
    | nil => cases b <;> simp [wb] at h
    | cons t ts =>
      cases r with
      | @cons v _ vs _ _ S1 S2 r q d hS =>
        have bo' : Bor σ bs vs := fun j i e => by
          obtain ⟨w, e1, e2⟩ := bo (j + 1) i (by simpa using e)
          exact ⟨w, by simpa using e1, e2⟩
        cases b with
        | none =>
          rw [wb] at h
          obtain ⟨S3, g1, g2⟩ := ih h ok q (fun x a b => dj x a ((hS x).mpr (.inr b))) bo'
          exact ⟨S3, g1, fun x z => (g2 x z).elim .inl fun z => .inr ((hS x).mpr (.inr z))⟩
        | some i =>
          rw [wb] at h
          split at h
          · rename_i e0
            obtain ⟨s, A, B, e1, e2, e3, e4, rest⟩ := ok.st.split e0
            obtain ⟨w, ew, es⟩ := bo 0 i rfl
            simp at ew
            subst ew
            rw [e1] at es
            have es' : s = some v := by simpa using es
            subst es'
            have B_S : ∀ x, B x → S x := fun x z => (e4 x).mpr (.inr z)
            have hn := rest F H (some v) t S1 (Le.refl _) (fun y z => ⟨rfl, (ok.st.dom y (B_S y z)).2⟩) r fun x a b => dj x (B_S x b) ((hS x).mpr (.inl a))
            rw [set_self' e1] at hn
            obtain ⟨S3, g1, g2⟩ := ih h ⟨ok.le, hn⟩ q (fun x a b => a.elim (fun a => d x a b) fun a => dj x (B_S x a) ((hS x).mpr (.inr b))) bo'
            exact ⟨S3, g1, fun x z => (g2 x z).elim (fun z => z.elim (fun z => .inr ((hS x).mpr (.inl z))) fun z => .inl (B_S x z)) fun z => .inr ((hS x).mpr (.inr z))⟩
          · cases h
theorem dvs_reps : ∀ {dv : List V}, dv.all sc = true → Reps K mg F H dv (dv.map .lf) Emp
  | [], _ => .nil fun _ z => z
  | v :: dv, h => by
    simp only [List.all_cons, Bool.and_eq_true] at h
    exact .cons (S1 := Emp) (S2 := Emp) (.lf h.1 fun _ z => z) (dvs_reps h.2) dj_emp fun x => ⟨fun z => z.elim, fun z => z.elim id id⟩
theorem Bor.app {bs : List (Option Nat)} {vs ws : List V} (h : Bor σ bs vs) : Bor σ bs (vs ++ ws) := fun j i e => by
  obtain ⟨v, e1, e2⟩ := h j i e
  exact ⟨v, by rw [List.getElem?_append_left (List.getElem?_eq_some_iff.mp e1).1]; exact e1, e2⟩
theorem dCall_some {f : FT} {bs : List (Option Nat)} {dv : List V} {da : DA} {env : List T} {t : T} {e : List T} (h : dCall f bs dv da env = some (t, e)) :
    ∃ ts e1 ts', da env = some (ts, e1) ∧ f (ts ++ dv.map .lf) = some (t, ts') ∧ wb bs ts' e1 = some e := by
  obtain ⟨⟨ts, e1⟩, h1, h2⟩ := Option.bind_eq_some_iff.mp h
  obtain ⟨⟨r, ts'⟩, h3, h4⟩ := Option.bind_eq_some_iff.mp h2
  obtain ⟨e', h5, h6⟩ := Option.map_eq_some_iff.mp h4
  cases h6
  exact ⟨ts, e1, ts', h1, h3, h5⟩
/-- the callee's end -/
theorem call_end {F0 H0 F1 H1 : Hp} {S S1 R : AS} {e1 e : List T} {f : FT} {bs : List (Option Nat)} {vs : List V} {ts ts' : List T} {t : T} {n : Nat} {Q : VK} {E : XK}
    (st : Stp F0 H0 S F1 H1 (Cup S1 R)) (ok1 : Ok K mg F1 H1 σ e1 S1) (r : Reps K mg F1 H1 vs ts R) (dj : Dj S1 R) (bo : Bor σ bs vs) (hf : f ts = some (t, ts')) (hw : wb bs ts' e1 = some e) (hn : vs.length = n)
    (q : ∀ v F' H' S' R', Stp F0 H0 S F' H' (Cup S' R') → Ok K mg F' H' σ e S' → Rep K mg F' H' v t R' → Dj S' R' → Q v H') : spD K mg n f vs H1 Q E := by
  refine ⟨hn, F1, R, ts, t, ts', ok1.le, r, hf, fun v F' H' R' S' st2 le2 r2 rs dj2 => ?_⟩
  have ok2 := ok1.keep st2 dj.symm le2
  have dj3 : Dj S1 (Cup R' S') := fun x a b => (st2.dj (fun y z => (ok1.st.dom y z).1) dj.symm) x b a
  obtain ⟨S2, g1, g2⟩ := wb_ok hw ok2 rs (fun x a b => dj3 x a (.inr b)) bo
  refine q v F' H' S2 R' ((st.trans (st2.frameL S1)).weak fun x z => ?_) g1 r2 fun x a b => ?_
  · exact z.elim (fun z => (g2 x z).elim .inl fun z => .inr (.inr z)) fun z => .inr (.inl z)
  · exact (g2 x a).elim (fun z => dj3 x z (.inl b)) fun z => dj2 x b z
/-- a def's mirror takes that many arguments -/
def FLen (f : FT) (n : Nat) : Prop := ∀ ts r, f ts = some r → ts.length = n
theorem call_imp {f : FT} {bs : List (Option Nat)} {dv : List V} {da : DA} {n : Nat} {Q : VK} {E : XK} (hdv : dv.all sc = true) (hn : FLen f n) (h : tE K mg (dCall f bs dv da) σ H Q) : tCall (spD K mg n f) dv E (tA K mg bs da) σ H Q := by
  obtain ⟨F, env, S, t, e, ok, hd, q⟩ := h
  obtain ⟨ts, e1, ts', h1, h2, h3⟩ := dCall_some hd
  refine ⟨F, env, S, ts, e1, ok, h1, fun vs F1 H1 S1 R st ok1 r dj bo => ?_⟩
  have rr := (Reps.append (dvs_reps hdv) r dj_emp).iff (S' := R) fun x => ⟨.inl, fun z => z.elim id fun z => z.elim⟩
  exact call_end (Q := Q) (E := E) st ok1 rr dj bo.app h2 h3 ((rr.length (S := Emp)).trans (hn _ _ h2)) q
end
end Tr


set_option Elab.async false
set_option linter.all false
set_option maxRecDepth 100000
set_option maxHeartbeats 4000000
/-! D6: calls of defs, methods, constructors; displays, attributes, built-ins. -/
namespace Tr
open PySem PySem.Spec PyProof.Rows L2

section
variable {X : Cx} {f : Addr} {fd : FuncData} {ps : List Str} {k n : Nat} {g : FT} {x : Str} {p pos apos : Pos} {e o : Expr} {es : List Expr} {bs : List (Option Nat)} {da : DA} {dv : List V} {ds : List Value}
theorem se_call (F : FnOk X.prog X.w X.K X.mg X.base CX0 k f fd ps (spD X.K X.mg n g)) (hn : FLen g n) (hr : Room k X.A) (hg : Gl X x) (hm : X.mg x = some (.ref f)) (hk : PySem.W.keepIn X.K (.ref f) = true) (hb : Binds X.K fd ps ds) (hd : Vals dv ds) (ha : SA X (e :: es) bs da)
    (hs : dv.all sc = true := by rfl) (hdb : (x == ("__debug__" : Str)) = false := by decide) (he : starEach (e :: es) X.env = (false, eval e X.env) :: starEach es X.env := by rfl) (hpl : (backTo pos (starEach es X.env)).any (·.1) = false := by rfl) :
    SE X (.Call (.Name x p) (e :: es) [] pos) (dCall g bs dv da) := pew (pe_call F hr hg hm hk hb hd pass0 ha hdb he hpl) fun _ _ _ h => call_imp hs hn h
theorem nil_imp {K : PySem.W.Frag} {mg : Mg} {σ : L2.St} {H : Hp} {Q : List V → Hp → Prop} (h : tA K mg [] aNil σ H Q) : tNil σ H Q := by
  obtain ⟨F, env, S, ts, e, ok, h, q⟩ := h
  cases h
  exact q [] F H S Emp (Stp.refl.weak fun _ z => z.elim id fun z => z.elim) ok (.nil fun _ z => z) dj_emp fun j i h => by simp at h
theorem se_call0 (F : FnOk X.prog X.w X.K X.mg X.base CX0 k f fd ps (spD X.K X.mg n g)) (hn : FLen g n) (hr : Room k X.A) (hg : Gl X x) (hm : X.mg x = some (.ref f)) (hk : PySem.W.keepIn X.K (.ref f) = true) (hb : Binds X.K fd ps ds) (hd : Vals dv ds)
    (hs : dv.all sc = true := by rfl) (hdb : (x == ("__debug__" : Str)) = false := by decide) :
    SE X (.Call (.Name x p) [] [] pos) (dCall g [] dv aNil) := pew (pe_call0 F hr hg hm hk hb hd pass0 hdb) fun _ _ _ h => nil_imp (call_imp hs hn h)
end

/-! ### methods: the receiver's class is looked at -/
/-- an instance of the class c without an attribute m -/
def isIns (c m : Str) : T → Bool
  | .nd _ (.ins c' ns) _ => decide (c' = c) && ns.all fun a => decide (¬ a = m)
  | _ => false
def dMeth (c m : Str) (f : FT) (b0 : Option Nat) (bs : List (Option Nat)) (dv : List V) (d0 : DE) (da : DA) : DE := fun env => (d0 env).bind fun p => if isIns c m p.1 = true then dCall f (b0 :: bs) dv (fun _ => (da p.2).map fun q => (p.1 :: q.1, q.2)) env else none
section
variable {K : PySem.W.Frag} {mg : Mg} {F H : Hp} {σ : L2.St}
theorem lookup_zip_none {m : Str} : ∀ {ns : List Str} {vs : List V}, (ns.all fun a => decide (¬ a = m)) = true → (ns.zip vs).lookup m = none
  | [], _, _ => rfl
  | _ :: _, [], _ => rfl
  | a :: ns, v :: vs, h => by
    simp only [List.all_cons, Bool.and_eq_true, decide_eq_true_eq] at h
    have ih := lookup_zip_none (vs := vs) h.2
    have e : (m == a) = false := beq_eq_false_iff_ne.mpr fun z => h.1 z.symm
    rw [List.zip_cons_cons, List.lookup_cons, e]
    exact ih
theorem isIns_ok {c m : Str} {C : Addr} {v : V} {t : T} {R : AS} (le : Le F H) (hc : mg c = some (.ref C)) (r : Rep K mg F H v t R) (h : isIns c m t = true) : ∃ a dx fs, v = .ref a ∧ H a = some (.ins C dx fs) ∧ fs.lookup m = none := by
  unfold isIns at h
  split at h
  · rename_i o c' ns xs
    simp only [Bool.and_eq_true, decide_eq_true_eq] at h
    obtain ⟨h1, h2⟩ := h
    subst h1
    obtain ⟨a, vs, S0, rfl, q, _, hl, C', dx, hr, hm⟩ := r.nd_inv le
    rw [hc] at hm
    cases hm
    exact ⟨a, dx, _, rfl, hr, lookup_zip_none (by simpa using h2)⟩
  · cases h
theorem dMeth_some {c m : Str} {f : FT} {b0 : Option Nat} {bs : List (Option Nat)} {dv : List V} {d0 : DE} {da : DA} {env : List T} {t : T} {e : List T} (h : dMeth c m f b0 bs dv d0 da env = some (t, e)) :
    ∃ t0 e0 ts e1 ts', d0 env = some (t0, e0) ∧ isIns c m t0 = true ∧ da e0 = some (ts, e1) ∧ f (t0 :: (ts ++ dv.map .lf)) = some (t, ts') ∧ wb (b0 :: bs) ts' e1 = some e := by
  obtain ⟨⟨t0, e0⟩, h1, h2⟩ := Option.bind_eq_some_iff.mp h
  split at h2
  · rename_i hi
    obtain ⟨ts, e1, ts', h3, h4, h5⟩ := dCall_some h2
    obtain ⟨⟨us, e2⟩, h6, h7⟩ := Option.map_eq_some_iff.mp h3
    cases h7
    exact ⟨t0, e0, us, _, ts', h1, hi, h6, h4, h5⟩
  · cases h2
/-- the receiver is one's own value -/
theorem meth_imp {c m : Str} {C : Addr} {f : FT} {bs : List (Option Nat)} {dv : List V} {d0 : DE} {da : DA} {n : Nat} {Q : VK} {E : XK} (hc : mg c = some (.ref C)) (hdv : dv.all sc = true) (hn : FLen f n) (h : tE K mg (dMeth c m f none bs dv d0 da) σ H Q) :
    tMeth C m (spD K mg n f) dv E (tE K mg d0) (tA K mg bs da) σ H Q := by
  obtain ⟨F, env, S, t, e, ok, hd, q⟩ := h
  obtain ⟨t0, e0, ts, e1, ts', h1, hi, h2, h3, h4⟩ := dMeth_some hd
  refine ⟨F, env, S, t0, e0, ok, h1, fun v F1 H1 S1 R1 st ok1 r dj => ?_⟩
  obtain ⟨a, dx, fs, ev, g1, g2⟩ := isIns_ok ok1.le hc r hi
  refine ⟨a, dx, fs, ev, g1, g2, F1, e0, S1, ts, e1, ok1, h2, fun vs F2 H2 S2 R2 st2 ok2 r2 dj2 bo => ?_⟩
  obtain ⟨k1, k2, k3⟩ := join_step st (fun x z => (r.dom x z).1) dj st2
  have rr := (Reps.append (dvs_reps hdv) r2 dj_emp).iff (S' := R2) fun x => ⟨.inl, fun z => z.elim id fun z => z.elim⟩
  have rc : Reps K mg F2 H2 (v :: (vs ++ dv)) (t0 :: (ts ++ dv.map .lf)) (Cup R1 R2) := .cons (r.keep st2 dj) rr k2 fun _ => Iff.rfl
  refine call_end (bs := none :: bs) k1 ok2 rc (fun x a b => b.elim (k3 x a) (dj2 x a)) (fun j i hj => ?_) h3 h4 ((rc.length (S := Emp)).trans (hn _ _ h3)) q
  cases j with
  | zero => simp at hj
  | succ j => exact bo.app j i (by simpa using hj)
/-- the receiver is a name that is lent -/
theorem methL_imp {c m : Str} {C : Addr} {f : FT} {i : Nat} {bs : List (Option Nat)} {dv : List V} {da : DA} {n : Nat} {Q : VK} {E : XK} (hc : mg c = some (.ref C)) (hdv : dv.all sc = true) (hn : FLen f n) (h : tE K mg (dMeth c m f (some i) bs dv (gM i) da) σ H Q) :
    tMeth C m (spD K mg n f) dv E (tVar i) (tA K mg bs da) σ H Q := by
  obtain ⟨F, env, S, t, e, ok, hd, q⟩ := h
  obtain ⟨t0, e0, ts, e1, ts', h1, hi, h2, h3, h4⟩ := dMeth_some hd
  unfold gM at h1
  cases eq0 : gV i env with
  | none => rw [eq0] at h1; cases h1
  | some t' =>
    rw [eq0] at h1; cases h1
    obtain ⟨g1, g2⟩ := gV_some eq0
    obtain ⟨v, A, B, ev, r, d, hS, rest⟩ := ok.st.slot g1 g2
    have ok1 : Ok K mg F H σ (env.set i .no) (Cup Emp B) := ⟨ok.le, by
      have := rest F H (some v) .no Emp (Le.refl _) (fun y z => ⟨rfl, (ok.st.dom y ((hS y).mpr (.inr z))).2⟩) (.no fun _ z => z) emp_dj
      rwa [set_self' ev] at this⟩
    have st1 : Stp F H S F H (Cup (Cup Emp B) A) := ⟨Le.refl _, fun _ _ z _ => z, fun _ _ z => .inl z, fun y z => .inl ((hS y).mpr (z.elim (fun z => .inr (z.elim (fun z => z.elim) id)) .inl))⟩
    have dj1 : Dj (Cup Emp B) A := fun y z a => z.elim (fun z => z.elim) fun z => d y a z
    obtain ⟨a, dx, fs, ev', k1, k2⟩ := isIns_ok ok.le hc r hi
    refine ⟨v, ev, a, dx, fs, ev', k1, k2, F, _, _, ts, e1, ok1, h2, fun vs F2 H2 S2 R2 st2 ok2 r2 dj2 bo => ?_⟩
    obtain ⟨k1, k2, k3⟩ := join_step st1 (fun x z => (r.dom x z).1) dj1 st2
    have rr := (Reps.append (dvs_reps hdv) r2 dj_emp).iff (S' := R2) fun x => ⟨.inl, fun z => z.elim id fun z => z.elim⟩
    have rc : Reps K mg F2 H2 (v :: (vs ++ dv)) (t0 :: (ts ++ dv.map .lf)) (Cup A R2) := .cons (r.keep st2 dj1) rr k2 fun _ => Iff.rfl
    refine call_end (bs := some i :: bs) k1 ok2 rc (fun x a b => b.elim (k3 x a) (dj2 x a)) (fun j k hj => ?_) h3 h4 ((rc.length (S := Emp)).trans (hn _ _ h3)) q
    cases j with
    | zero => simp at hj; subst hj; exact ⟨v, rfl, ev⟩
    | succ j => exact bo.app j k (by simpa using hj)
end
section
variable {X : Cx} {C f : Addr} {fd : FuncData} {ps : List Str} {k n : Nat} {g : FT} {c m x : Str} {p pos apos : Pos} {e o : Expr} {es : List Expr} {bs : List (Option Nat)} {d0 : DE} {da : DA} {dv : List V} {ds : List Value}
theorem se_meth {pl : Sem Bool} (hc : X.mg c = some (.ref C)) (cl : Cls X.K C) (hm : Meth X.K C m f) (F : FnOk X.prog X.w X.K X.mg X.base CX0 k f fd ps (spD X.K X.mg n g)) (hn : FLen g n) (hr : Room k X.A) (hb : Binds X.K fd ps ds) (hd : Vals dv ds) (ho : SE X o d0) (ha : SA X (e :: es) bs da)
    (hs : dv.all sc = true := by rfl) (hst : starEach (e :: es) X.env = (false, eval e X.env) :: starEach es X.env := by rfl) (hpl : (backTo pos (starEach es X.env)).any (·.1) = false := by rfl)
    (ht : eval (.Call (.Attribute o m apos) (e :: es) [] pos) X.env = (do
      let ov ← eval o X.env
      standAt apos.atName
      let (f, first) ← holding [ov] (getMethod ov m pl)
      callWith pos f first (backTo pos (starEach (e :: es) X.env)) (backToKw pos (keywordEach [] X.env))) := by rfl) :
    SE X (.Call (.Attribute o m apos) (e :: es) [] pos) (dMeth c m g none bs dv d0 da) := pew (pe_meth (pl := pl) ho cl hm F hr hb hd pass0 ha hst hpl ht) fun _ _ _ h => meth_imp hc hs hn h
theorem se_meth0 {pl : Sem Bool} (hc : X.mg c = some (.ref C)) (cl : Cls X.K C) (hm : Meth X.K C m f) (F : FnOk X.prog X.w X.K X.mg X.base CX0 k f fd ps (spD X.K X.mg n g)) (hn : FLen g n) (hr : Room k X.A) (hb : Binds X.K fd ps ds) (hd : Vals dv ds) (ho : SE X o d0)
    (hs : dv.all sc = true := by rfl)
    (ht : eval (.Call (.Attribute o m apos) [] [] pos) X.env = (do
      let ov ← eval o X.env
      standAt apos.atName
      let (f, first) ← holding [ov] (getMethod ov m pl)
      callWith pos f first (backTo pos (starEach [] X.env)) (backToKw pos (keywordEach [] X.env))) := by rfl) :
    SE X (.Call (.Attribute o m apos) [] [] pos) (dMeth c m g none [] dv d0 aNil) := pew (pe_meth0 (pl := pl) ho cl hm F hr hb hd pass0 ht) fun _ _ _ h => by
      have h2 := meth_imp (E := E0) hc hs hn h
      obtain ⟨F, env, S, t, e, ok, hd, q⟩ := h2
      exact ⟨F, env, S, t, e, ok, hd, fun v F' H' S' R a b c d => by
        obtain ⟨a, dx, fs, e1, e2, e3, e4⟩ := q v F' H' S' R a b c d
        exact ⟨a, dx, fs, e1, e2, e3, nil_imp e4⟩⟩
theorem se_methL {pl : Sem Bool} {i : Nat} {px : Pos} (hc : X.mg c = some (.ref C)) (cl : Cls X.K C) (hm : Meth X.K C m f) (F : FnOk X.prog X.w X.K X.mg X.base CX0 k f fd ps (spD X.K X.mg n g)) (hn : FLen g n) (hr : Room k X.A) (hb : Binds X.K fd ps ds) (hd : Vals dv ds) (ha : SA X (e :: es) bs da)
    (hN : X.N[i]? = some x := by rfl) (hv : Vis X.env.scope x := by first | exact Or.inl rfl | exact Or.inr (Or.inl rfl) | exact Or.inr (Or.inr rfl)) (hdd : (x == ("__debug__" : Str)) = false := by decide) (hcd : (x == ("__classdict__" : Str)) = false := by decide)
    (hs : dv.all sc = true := by rfl) (hst : starEach (e :: es) X.env = (false, eval e X.env) :: starEach es X.env := by rfl) (hpl : (backTo pos (starEach es X.env)).any (·.1) = false := by rfl)
    (ht : eval (.Call (.Attribute (.Name x px) m apos) (e :: es) [] pos) X.env = (do
      let ov ← eval (.Name x px) X.env
      standAt apos.atName
      let (f, first) ← holding [ov] (getMethod ov m pl)
      callWith pos f first (backTo pos (starEach (e :: es) X.env)) (backToKw pos (keywordEach [] X.env))) := by rfl) :
    SE X (.Call (.Attribute (.Name x px) m apos) (e :: es) [] pos) (dMeth c m g (some i) bs dv (gM i) da) := pew (pe_meth (pl := pl) (pe_var hN hv hdd hcd) cl hm F hr hb hd pass0 ha hst hpl ht) fun _ _ _ h => methL_imp hc hs hn h
theorem se_methL0 {pl : Sem Bool} {i : Nat} {px : Pos} (hc : X.mg c = some (.ref C)) (cl : Cls X.K C) (hm : Meth X.K C m f) (F : FnOk X.prog X.w X.K X.mg X.base CX0 k f fd ps (spD X.K X.mg n g)) (hn : FLen g n) (hr : Room k X.A) (hb : Binds X.K fd ps ds) (hd : Vals dv ds)
    (hN : X.N[i]? = some x := by rfl) (hv : Vis X.env.scope x := by first | exact Or.inl rfl | exact Or.inr (Or.inl rfl) | exact Or.inr (Or.inr rfl)) (hdd : (x == ("__debug__" : Str)) = false := by decide) (hcd : (x == ("__classdict__" : Str)) = false := by decide)
    (hs : dv.all sc = true := by rfl)
    (ht : eval (.Call (.Attribute (.Name x px) m apos) [] [] pos) X.env = (do
      let ov ← eval (.Name x px) X.env
      standAt apos.atName
      let (f, first) ← holding [ov] (getMethod ov m pl)
      callWith pos f first (backTo pos (starEach [] X.env)) (backToKw pos (keywordEach [] X.env))) := by rfl) :
    SE X (.Call (.Attribute (.Name x px) m apos) [] [] pos) (dMeth c m g (some i) [] dv (gM i) aNil) := pew (pe_meth0 (pl := pl) (pe_var hN hv hdd hcd) cl hm F hr hb hd pass0 ht) fun _ _ _ h => by
      obtain ⟨v, ev, a, dx, fs, e1, e2, e3, e4⟩ := methL_imp (E := E0) hc hs hn h
      exact ⟨v, ev, a, dx, fs, e1, e2, e3, nil_imp e4⟩
end

/-! ### making an instance -/
def dMake (c : Str) (f : FT) (bs : List (Option Nat)) (dv : List V) (da : DA) : DE := fun env => (da env).bind fun p => match f (.nd true (.ins c []) [] :: (p.1 ++ dv.map .lf)) with
  | some (.lf .non, t :: ts') => (wb bs ts' p.2).map fun e => (t, e)
  | _ => none
section
variable {K : PySem.W.Frag} {mg : Mg} {σ : L2.St} {H : Hp}
theorem make_imp {c : Str} {C : Addr} {f : FT} {bs : List (Option Nat)} {dv : List V} {da : DA} {n : Nat} {Q : VK} {E : XK} (hc : mg c = some (.ref C)) (hdv : dv.all sc = true) (hn : FLen f n) (h : tE K mg (dMake c f bs dv da) σ H Q) : tMake C (spD K mg n f) dv E (tA K mg bs da) σ H Q := by
  obtain ⟨F, env, S, t, e, ok, hd, q⟩ := h
  obtain ⟨⟨ts, e1⟩, h1, h2⟩ := Option.bind_eq_some_iff.mp hd
  split at h2
  · rename_i t0 ts' h3
    obtain ⟨e', h4, h5⟩ := Option.map_eq_some_iff.mp h2
    cases h5
    refine ⟨F, env, S, ts, e1, ok, h1, fun vs F1 H1 S1 R st ok1 r dj bo => fun x dx hx hdx ne => ?_⟩
    have hxR : ¬ R x := fun z => by obtain ⟨⟨o, e⟩, _⟩ := r.dom x z; rw [hx] at e; cases e
    have hxS : ¬ S1 x := fun z => by obtain ⟨⟨o, e⟩, _⟩ := ok1.st.dom x z; rw [hx] at e; cases e
    -- the heap with the new instance
    have st2 : Stp F1 H1 Emp F1 (upd (upd H1 dx (.own x)) x (.ins C dx [])) (fun y => y = x) := by
      refine ⟨Le.refl _, fun a o e _ => ?_, fun _ _ e => .inl e, fun a e => .inr (by rw [e]; exact hx)⟩
      rw [upd_ne (ne_of_none e hx), upd_ne (ne_of_none e hdx)]
      exact e
    have le2 : Le F1 (upd (upd H1 dx (.own x)) x (.ins C dx [])) := fun a o e => st2.kp a o (ok1.le a o e) fun z => z
    obtain ⟨a1, a2, a3⟩ := fin_new (σ := σ) (st.weak fun _ z => .inl z) ok1 st2 le2
    have rv := r.keep st2 emp_dj
    have rr := (Reps.append (dvs_reps hdv) rv dj_emp).iff (S' := R) fun x => ⟨.inl, fun z => z.elim id fun z => z.elim⟩
    have rx : Rep K mg F1 (upd (upd H1 dx (.own x)) x (.ins C dx [])) (.ref x) (.nd true (.ins c []) []) (fun y => y = x) :=
      .own (o := .ins C dx []) (vs := []) (S0 := Emp) upd_same (ok1.le.nn hx) ⟨rfl, C, dx, rfl, hc⟩ (.nil fun _ z => z) (fun z => z) fun y => ⟨.inl, fun z => z.elim id fun z => z.elim⟩
    have rc : Reps K mg F1 (upd (upd H1 dx (.own x)) x (.ins C dx [])) (.ref x :: (vs ++ dv)) (.nd true (.ins c []) [] :: (ts ++ dv.map .lf)) (Cup (fun y => y = x) R) := .cons rx rr (fun y a b => hxR (a ▸ b)) fun _ => Iff.rfl
    refine ⟨(rc.length (S := Emp)).trans (hn _ _ h3), F1, _, _, _, _, le2, rc, h3, fun v F' H' R' S' st3 le3 r3 rs dj3 => ⟨(r3.lf_inv).1, ?_⟩⟩
    cases rs with
    | @cons _ _ _ _ _ T1 T2 q1 q2 d hT =>
      have stA : Stp F H S F' H' (Cup S1 (Cup R' S')) := by
        have b1 : Stp F1 H1 (Cup S1 R) F1 (upd (upd H1 dx (.own x)) x (.ins C dx [])) (Cup S1 (Cup (fun y => y = x) R)) := by
          have := st2.frame (Cup S1 R)
          exact (this.big fun y z => z.elim (fun z => z.elim) id).weak fun y z => z.elim (fun z => .inr (.inl z)) fun z => z.elim (fun z => .inl z) fun z => .inr (.inr z)
        exact (st.trans b1).trans (st3.frameL S1)
      have djS : Dj (Cup (fun y => y = x) R) S1 := fun y a b => a.elim (fun a => hxS (a ▸ b)) fun a => dj y b a
      have ok3 := a2.keep st3 djS le3
      have dj4 : Dj S1 (Cup R' S') := fun y a b => (st3.dj (fun y z => (a2.st.dom y z).1) djS) y b a
      obtain ⟨S2, g1, g2⟩ := wb_ok (bs := bs) h4 ok3 q2 (fun y a b => dj4 y a (.inr ((hT y).mpr (.inr b)))) (fun j i e => by
        obtain ⟨w, e1, e2⟩ := bo j i e
        exact ⟨w, by rw [List.getElem?_append_left (List.getElem?_eq_some_iff.mp e1).1]; exact e1, e2⟩)
      refine q (.ref x) F' H' S2 T1 (stA.weak fun y z => ?_) g1 q1 fun y a b => ?_
      · exact z.elim (fun z => (g2 y z).elim .inl fun z => .inr (.inr ((hT y).mpr (.inr z)))) fun z => .inr (.inr ((hT y).mpr (.inl z)))
      · exact (g2 y a).elim (fun z => dj4 y z (.inr ((hT y).mpr (.inl b)))) fun z => d y b z
  · cases h2
end
section
variable {X : Cx} {C f : Addr} {fd : FuncData} {ps : List Str} {k n : Nat} {g : FT} {x : Str} {p pos apos : Pos} {e o : Expr} {es : List Expr} {bs : List (Option Nat)} {da : DA} {dv : List V} {ds : List Value}
theorem se_make (M : Mk X.K C f) (F : FnOk X.prog X.w X.K X.mg X.base CX0 k f fd ps (spD X.K X.mg n g)) (hn : FLen g n) (hr : Room (k + 1) X.A) (hg : Gl X x) (hm : X.mg x = some (.ref C)) (hb : Binds X.K fd ps ds) (hd : Vals dv ds) (ha : SA X (e :: es) bs da)
    (hs : dv.all sc = true := by rfl) (hdb : (x == ("__debug__" : Str)) = false := by decide) (he : starEach (e :: es) X.env = (false, eval e X.env) :: starEach es X.env := by rfl) (hpl : (backTo pos (starEach es X.env)).any (·.1) = false := by rfl) :
    SE X (.Call (.Name x p) (e :: es) [] pos) (dMake x g bs dv da) := pew (pe_make M F hr hg hm hb hd pass0 ha hdb he hpl) fun _ _ _ h => make_imp hm hs hn h
end

/-! ### displays -/
def dLst (da : DA) : DE := fun env => (da env).bind fun p => if p.1.length ≤ sizeLine then some (.nd true .lst p.1, p.2) else none
def dTup (da : DA) : DE := fun env => (da env).bind fun p => if p.1.length ≤ sizeLine then some (.nd false .tup p.1, p.2) else none
def dDic : DE := fun env => some (.nd true (.dK []) [], env)
section
variable {X : Cx} {pos : Pos} {es : List Expr} {da : DA} {bs : List (Option Nat)}
theorem se_lst (ha : SA X es bs da) : SE X (.List es pos) (dLst da) := pew (pe_lst ha) fun σ H Q h => by
  obtain ⟨F, env, S, t, e, ok, hd, q⟩ := h
  obtain ⟨⟨ts, e1⟩, h1, h2⟩ := Option.bind_eq_some_iff.mp hd
  split at h2
  · rename_i hl
    cases h2
    refine ⟨F, env, S, ts, _, ok, h1, fun vs F1 H1 S1 R st ok1 r dj bo => ⟨by rw [r.length (S := Emp)]; exact hl, fun p hp => ?_⟩⟩
    have fp : F1 p = none := ok1.le.nn hp
    have hpS : ∀ y, S1 y → y ≠ p := fun y z e => by obtain ⟨⟨o, e'⟩, _⟩ := ok1.st.dom y z; rw [e, hp] at e'; cases e'
    have hpR : ∀ y, R y → y ≠ p := fun y z e => by obtain ⟨⟨o, e'⟩, _⟩ := r.dom y z; rw [e, hp] at e'; cases e'
    have st2 : Stp F1 H1 Emp F1 (upd H1 p (.lst vs)) (fun y => y = p) := ⟨Le.refl _, fun a o e _ => by rw [upd_ne (ne_of_none e hp)]; exact e, fun _ _ e => .inl e, fun a e => .inr (by rw [e]; exact hp)⟩
    have le2 : Le F1 (upd H1 p (.lst vs)) := fun a o e => st2.kp a o (ok1.le a o e) fun z => z
    refine q (.ref p) F1 (upd H1 p (.lst vs)) S1 (Cup (fun y => y = p) R) ?_ (ok1.keep st2 emp_dj le2) (.own upd_same fp rfl (r.keep st2 emp_dj) (fun z => hpR p z rfl) fun _ => Iff.rfl) fun y a b => b.elim (hpS y a) (dj y a)
    have b1 := (st2.frame (Cup S1 R)).big (R := Cup S1 R) fun y z => z.elim (fun z => z.elim) id
    exact (st.trans b1).weak fun y z => z.elim (fun z => .inr (.inl z)) fun z => z.elim .inl fun z => .inr (.inr z)
  · cases h2
theorem se_tup {k : Nat} (ha : SA X es bs da) : SE X (.Tuple es k pos) (dTup da) := pew (pe_tup ha) fun σ H Q h => by
  obtain ⟨F, env, S, t, e, ok, hd, q⟩ := h
  obtain ⟨⟨ts, e1⟩, h1, h2⟩ := Option.bind_eq_some_iff.mp hd
  split at h2
  · rename_i hl
    cases h2
    refine ⟨F, env, S, ts, _, ok, h1, fun vs F1 H1 S1 R st ok1 r dj bo => ⟨by rw [r.length (S := Emp)]; exact hl, fun p hp => ?_⟩⟩
    have fp : F1 p = none := ok1.le.nn hp
    have ff : Le F1 (upd F1 p (.tup vs)) := fun a o e => by rw [upd_ne (ne_of_none e fp)]; exact e
    have st2 : Stp F1 H1 Emp (upd F1 p (.tup vs)) (upd H1 p (.tup vs)) Emp := ⟨ff, fun a o e _ => by rw [upd_ne (ne_of_none e hp)]; exact e, fun a o e => by
      by_cases h : a = p
      · exact .inr (.inr (by rw [h]; exact hp))
      · rw [upd_ne h] at e; exact .inl e, fun a z => z.elim⟩
    have le2 : Le (upd F1 p (.tup vs)) (upd H1 p (.tup vs)) := fun a o e => by
      by_cases h : a = p
      · subst h; rw [upd_same] at e ⊢; exact e
      · rw [upd_ne h] at e ⊢; exact ok1.le a o e
    refine q (.ref p) _ (upd H1 p (.tup vs)) S1 R ?_ (ok1.keep st2 emp_dj le2) (.frz upd_same rfl (r.keep st2 emp_dj)) dj
    have b1 := (st2.frame (Cup S1 R)).big (R := Cup S1 R) fun y z => z.elim (fun z => z.elim) id
    exact (st.trans b1).weak fun y z => .inr z
  · cases h2
theorem se_dic : SE X (.Dict [] [] pos) dDic := pew pe_dnewK fun σ H Q h p hp => by
  obtain ⟨F, env, S, t, e, ok, hd, q⟩ := h
  cases hd
  obtain ⟨g1, g2, g3⟩ := new_one (K := X.K) (mg := X.mg) (k := .dK []) (o := .dK []) (vs := []) (xs := []) ok.le hp ⟨rfl, rfl⟩ (.nil fun _ z => z)
  obtain ⟨a, b, c⟩ := fin_new Stp.refl ok g1 g2
  exact q _ _ _ _ _ a b g3 c
end

/-! ### attributes -/
def getF : List Str → List T → Str → Option T
  | n :: ns, x :: xs, f => if n = f then some x else getF ns xs f
  | _, _, _ => none
/-- o.f of an instance of the class c -/
def oFld (c f : Str) : T → Option T
  | .nd _ (.ins c' ns) xs => if c' = c then getF ns xs f else none
  | _ => none
section
variable {K : PySem.W.Frag} {mg : Mg} {F H : Hp}
theorem getF_ok {f : Str} : ∀ {ns : List Str} {vs : List V} {ts : List T} {S : AS} {t : T}, Reps K mg F H vs ts S → ns.length = vs.length → getF ns ts f = some t → ∃ v R, (ns.zip vs).lookup f = some v ∧ Rep K mg F H v t R ∧ ∀ x, R x → S x := by
  intro ns
  induction ns with
  | nil => intro vs ts S t r hl h; simp [getF] at h
  | cons a ns ih =>
    intro vs ts S t r hl h
    cases r with
    | nil _ => simp at hl
    | @cons v t0 vs ts _ S1 S2 r q d hS =>
      unfold getF at h
      by_cases e : a = f
      · rw [if_pos e] at h
        cases h
        subst e
        exact ⟨v, S1, by rw [List.zip_cons_cons, List.lookup_cons, beq_self_eq_true], r, fun x z => (hS x).mpr (.inl z)⟩
      · rw [if_neg e] at h
        obtain ⟨v', R, h1, h2, h3⟩ := ih q (by simpa using hl) h
        have e' : (f == a) = false := beq_eq_false_iff_ne.mpr fun z => e z.symm
        exact ⟨v', R, by rw [List.zip_cons_cons, List.lookup_cons, e']; exact h1, h2, fun x z => (hS x).mpr (.inr (h3 x z))⟩
def rFld (K : PySem.W.Frag) (f : Str) : V → Hp → VK → Prop := fun x H Q => ∃ a C dx fs v, x = .ref a ∧ H a = some (.ins C dx fs) ∧ Cls K C ∧ NoAttr K C f ∧ fs.lookup f = some v ∧ Q v H
theorem fldA {c f : Str} {C : Addr} {x : V} {t u : T} {R : AS} {Q : VK} (hc : mg c = some (.ref C)) (cl : Cls K C) (na : NoAttr K C f) (le : Le F H) (r : Rep K mg F H x t R) (h : oFld c f t = some u) (q : ∀ v R', Rep K mg F H v u R' → (∀ x, R' x → R x) → Q v H) : rFld K f x H Q := by
  unfold oFld at h
  split at h
  · split at h
    · rename_i e
      subst e
      obtain ⟨a, vs, S0, rfl, p, hs, hl, C', dx, hr, hm⟩ := r.nd_inv le
      rw [hc] at hm
      cases hm
      obtain ⟨v, R', g1, g2, g3⟩ := getF_ok p hl h
      exact ⟨a, C, dx, _, v, rfl, hr, cl, na, g1, q v R' g2 fun x z => hs x (g3 x z)⟩
    · cases h
  · cases h
theorem v_fld {c f : Str} {C : Addr} (hc : mg c = some (.ref C)) (cl : Cls K C) (na : NoAttr K C f) : Op1V K mg (rFld K f) (oFld c f) := fun F H x t R u Q le r h q => fldA hc cl na le r h fun v R' r _ => q v R' r
end
section
variable {X : Cx} {e : Expr} {c f : Str} {C : Addr} {pos : Pos} {d : DV} {de : DE}
theorem sv_fld (hc : X.mg c = some (.ref C)) (cl : Cls X.K C) (na : NoAttr X.K C f) (he : SV X e d) (hb : attributeBase e f X.env (eval e X.env) = eval e X.env := by rfl) : SV X (.Attribute e f pos) (o1V (oFld c f) d) := pew (pe_fld he hb) fun _ _ _ => i1V (v_fld hc cl na)
theorem sr_fld (hc : X.mg c = some (.ref C)) (cl : Cls X.K C) (na : NoAttr X.K C f) (he : SR X e de) (hb : attributeBase e f X.env (eval e X.env) = eval e X.env := by rfl) : SR X (.Attribute e f pos) (o1 (oFld c f) de) := pew (pe_fld he hb) fun _ _ _ => i1R (v_fld hc cl na)
end

/-! ### built-ins of one argument -/
section
variable {X : Cx} {e : Expr} {x : Str} {id : String} {p pos : Pos} {d : DV} {de : DE} {r : List V → Hp → VK → Prop} {o : T → Option T}
theorem sv_b1 (hc : CallR X (.builtin id) r) (hv : Op1V X.K X.mg (fun x H Q => r [x] H Q) o) (hb : bootBuiltins x = some (.builtin id)) (hg : Gl X x) (hm : X.mg x = none) (ha : SV X e d) (hn : x ≠ "__name__" := by decide) (hdb : (x == ("__debug__" : Str)) = false := by decide)
    (hs : starEach (e :: []) X.env = (false, eval e X.env) :: starEach [] X.env := by rfl) : SV X (.Call (.Name x p) [e] [] pos) (o1V o d) := pew (pe_callB hc hg hm hb (pa_cons ha pa_nil hs) hn hdb (he := hs)) fun _ _ _ h => i1V hv h
theorem sr_b1 (hc : CallR X (.builtin id) r) (hv : Op1V X.K X.mg (fun x H Q => r [x] H Q) o) (hb : bootBuiltins x = some (.builtin id)) (hg : Gl X x) (hm : X.mg x = none) (ha : SR X e de) (hn : x ≠ "__name__" := by decide) (hdb : (x == ("__debug__" : Str)) = false := by decide)
    (hs : starEach (e :: []) X.env = (false, eval e X.env) :: starEach [] X.env := by rfl) : SR X (.Call (.Name x p) [e] [] pos) (o1 o de) := pew (pe_callB hc hg hm hb (pa_cons ha pa_nil hs) hn hdb (he := hs)) fun _ _ _ h => i1R hv h
theorem se_b1 (hc : CallR X (.builtin id) r) (hv : Op1E X.K X.mg (fun x H Q => r [x] H Q) o) (hb : bootBuiltins x = some (.builtin id)) (hg : Gl X x) (hm : X.mg x = none) (ha : SR X e de) (hn : x ≠ "__name__" := by decide) (hdb : (x == ("__debug__" : Str)) = false := by decide)
    (hs : starEach (e :: []) X.env = (false, eval e X.env) :: starEach [] X.env := by rfl) : SE X (.Call (.Name x p) [e] [] pos) (o1 o de) := pew (pe_callB hc hg hm hb (pa_cons ha pa_nil hs) hn hdb (he := hs)) fun _ _ _ h => i1E hv h
theorem sv_t1 (hc : CallR X (.type id) r) (hv : Op1V X.K X.mg (fun x H Q => r [x] H Q) o) (hb : bootBuiltins x = some (.type id)) (hg : Gl X x) (hm : X.mg x = none) (ha : SV X e d) (hn : x ≠ "__name__" := by decide) (hdb : (x == ("__debug__" : Str)) = false := by decide)
    (hs : starEach (e :: []) X.env = (false, eval e X.env) :: starEach [] X.env := by rfl) : SV X (.Call (.Name x p) [e] [] pos) (o1V o d) := pew (pe_callTy hc hg hm hb (pa_cons ha pa_nil hs) hn hdb (he := hs)) fun _ _ _ h => i1V hv h
theorem se_t1 (hc : CallR X (.type id) r) (hv : Op1E X.K X.mg (fun x H Q => r [x] H Q) o) (hb : bootBuiltins x = some (.type id)) (hg : Gl X x) (hm : X.mg x = none) (ha : SR X e de) (hn : x ≠ "__name__" := by decide) (hdb : (x == ("__debug__" : Str)) = false := by decide)
    (hs : starEach (e :: []) X.env = (false, eval e X.env) :: starEach [] X.env := by rfl) : SE X (.Call (.Name x p) [e] [] pos) (o1 o de) := pew (pe_callTy hc hg hm hb (pa_cons ha pa_nil hs) hn hdb (he := hs)) fun _ _ _ h => i1E hv h
/-- isinstance(e, T), T a built-in type -/
theorem sv_isi {b : String} {y : Str} {py : Pos} (hb : b ∈ ["bool", "int", "str", "list", "tuple", "dict"]) (hbt : bootBuiltins y = some (.type b)) (hgi : Gl X "isinstance") (hmi : X.mg "isinstance" = none) (hgy : Gl X y) (hmy : X.mg y = none) (ha : SV X e d)
    (hn : y ≠ "__name__" := by decide) (hdb : (y == ("__debug__" : Str)) = false := by decide)
    (hs : starEach (e :: [.Name y py]) X.env = (false, eval e X.env) :: starEach [.Name y py] X.env := by rfl) (hs2 : starEach [.Name y py] X.env = (false, eval (.Name y py) X.env) :: starEach [] X.env := by rfl) (hpl : (backTo pos (starEach [.Name y py] X.env)).any (·.1) = false := by rfl) :
    SV X (.Call (.Name "isinstance" p) [e, .Name y py] [] pos) (o1V (oIsi b) d) :=
  pew (pe_callB call_isi hgi hmi (by decide +kernel) (pa_cons ha (pa_cons (pe_bltn hgy hmy hbt (show RelV (.ty b) (.type b) from rfl) hn hdb) pa_nil hs2) hs) (he := hs) (hpl := hpl)) fun _ _ _ h => i1V (v_isi hb) h
theorem sr_isi {b : String} {y : Str} {py : Pos} (hb : b ∈ ["bool", "int", "str", "list", "tuple", "dict"]) (hbt : bootBuiltins y = some (.type b)) (hgi : Gl X "isinstance") (hmi : X.mg "isinstance" = none) (hgy : Gl X y) (hmy : X.mg y = none) (ha : SR X e de)
    (hn : y ≠ "__name__" := by decide) (hdb : (y == ("__debug__" : Str)) = false := by decide)
    (hs : starEach (e :: [.Name y py]) X.env = (false, eval e X.env) :: starEach [.Name y py] X.env := by rfl) (hs2 : starEach [.Name y py] X.env = (false, eval (.Name y py) X.env) :: starEach [] X.env := by rfl) (hpl : (backTo pos (starEach [.Name y py] X.env)).any (·.1) = false := by rfl) :
    SR X (.Call (.Name "isinstance" p) [e, .Name y py] [] pos) (o1 (oIsi b) de) :=
  pew (pe_callB call_isi hgi hmi (by decide +kernel) (pa_cons ha (pa_cons (pe_bltn hgy hmy hbt (show RelV (.ty b) (.type b) from rfl) hn hdb) pa_nil hs2) hs) (he := hs) (hpl := hpl)) fun _ _ _ h => i1R (v_isi hb) h
end
end Tr


set_option Elab.async false
set_option linter.all false
set_option pp.maxSteps 3000
set_option maxRecDepth 100000
set_option maxHeartbeats 4000000
/-! D7: statements, loops, defs. -/
namespace Tr
open PySem PySem.Spec PyProof.Rows L2

inductive Fl where
  | nx | rt (t : T) | bk | ct
abbrev DS := List T → Option (Fl × List T)
section
variable (K : PySem.W.Frag) (mg : Mg)
def fin (D : Ends) (r : Fl) (F H : Hp) (R : AS) (σ : L2.St) : Prop := match r with
  | .nx => D.nx σ H
  | .bk => D.bk σ H
  | .ct => D.ct σ H
  | .rt t => ∀ v, Rep K mg F H v t R → D.rt v H
/-- off the slots W nothing is stored -/
structure Off (W : List Nat) (σ σ' : L2.St) : Prop where
  at_ : ∀ i, i ∉ W → σ'[i]? = σ[i]?
  len : σ'.length = σ.length
/-- what is wanted behind -/
def Cont' (D : Ends) (W : List Nat) (F H : Hp) (S : AS) (σ : L2.St) (r : Fl) (env' : List T) : Prop :=
  ∀ F' H' S' R σ', Stp F H S F' H' (Cup S' R) → Ok K mg F' H' σ' env' S' → Off W σ σ' → Dj S' R → fin K mg D r F' H' R σ'
def tS (W : List Nat) (d : DS) : TS := fun D σ H => ∃ F env S r env', Ok K mg F H σ env S ∧ d env = some (r, env') ∧ Cont' K mg D W F H S σ r env'
end
def SS (X : Cx) (st : Stmt) (W : List Nat) (d : DS) : Prop := PS X st (tS X.K X.mg W d)
def SSs (X : Cx) (st : List Stmt) (W : List Nat) (d : DS) : Prop := PSs X st (tS X.K X.mg W d)
theorem psw {X : Cx} {st : Stmt} {t t' : TS} (h : PS X st t) (i : ∀ D σ H, t' D σ H → t D σ H) : PS X st t' := ⟨fun pins s σ H D I q => h.run pins s σ H D I (i D σ H q)⟩
theorem pssw {X : Cx} {st : List Stmt} {t t' : TS} (h : PSs X st t) (i : ∀ D σ H, t' D σ H → t D σ H) : PSs X st t' := ⟨fun pins s σ H D I q => h.run pins s σ H D I (i D σ H q)⟩
theorem Off.refl {W : List Nat} {σ : L2.St} : Off W σ σ := ⟨fun _ _ => rfl, rfl⟩
theorem Off.trans {W : List Nat} {a b c : L2.St} (h : Off W a b) (k : Off W b c) : Off W a c := ⟨fun i n => (k.at_ i n).trans (h.at_ i n), k.len.trans h.len⟩
theorem Off.mono {W W' : List Nat} {a b : L2.St} (h : Off W a b) (k : ∀ i, i ∈ W → i ∈ W') : Off W' a b := ⟨fun i n => h.at_ i fun z => n (k i z), h.len⟩
theorem Off.set {σ : L2.St} {i : Nat} {v : Option V} : Off [i] σ (σ.set i v) := ⟨fun j n => by
  rw [List.getElem?_set_ne]
  intro e
  exact n (by simp [e]), by rw [List.length_set]⟩
def dSeq (a b : DS) : DS := fun env => match a env with
  | some (.nx, e) => b e
  | some (r, e) => some (r, e)
  | none => none
def dIf (c : DE) (a b : DS) : DS := fun env => match c env with
  | some (.lf (.bl true), e) => a e
  | some (.lf (.bl false), e) => b e
  | _ => none
def dSet (i : Nat) (d : DE) : DS := fun env => match d env with
  | some (t, e) => if i < e.length then some (.nx, e.set i t) else none
  | none => none
def dRet (d : DE) : DS := fun env => (d env).map fun p => (.rt p.1, p.2)
def dRetN : DS := fun env => some (.rt (.lf .non), env)
def dEx (d : DE) : DS := fun env => (d env).map fun p => (.nx, p.2)
def dNx : DS := fun env => some (.nx, env)
def dBk : DS := fun env => some (.bk, env)
def dCt : DS := fun env => some (.ct, env)
def dFail : DS := fun _ => none
section
variable {K : PySem.W.Frag} {mg : Mg} {D : Ends} {σ σ' : L2.St} {H H' F F' : Hp} {S S' R : AS} {W W1 W2 : List Nat} {env env' : List T} {r : Fl}
theorem Cont'.step (c : Cont' K mg D W F H S σ r env') (st : Stp F H S F' H' (Cup S' R)) (of : Off W σ σ') : Cont' K mg D W F' H' S' σ' r env' := fun F2 H2 S2 R2 σ2 st2 ok of2 dj =>
  c F2 H2 S2 R2 σ2 ((st.weak fun _ z => .inl z).trans st2) ok (of.trans of2) dj
theorem Cont'.sub (c : Cont' K mg D W F H S σ r env') (h : ∀ i, i ∈ W1 → i ∈ W) : Cont' K mg D W1 F H S σ r env' := fun F2 H2 S2 R2 σ2 st2 ok of2 dj => c F2 H2 S2 R2 σ2 st2 ok (of2.mono h) dj
/-- right away -/
theorem Cont'.now (c : Cont' K mg D W F H S σ .nx env') (st : Stp F H S F' H' S') (ok : Ok K mg F' H' σ' env' S') (of : Off W σ σ') : D.nx σ' H' :=
  c F' H' S' Emp σ' (st.weak fun _ z => z.elim id fun z => z.elim) ok of dj_emp
theorem seq_imp {a b : DS} (h : tS K mg (W1 ++ W2) (dSeq a b) D σ H) : tSeq (tS K mg W1 a) (tS K mg W2 b) D σ H := by
  obtain ⟨F, env, S, r, env', ok, hd, c⟩ := h
  unfold dSeq at hd
  split at hd
  · rename_i e h1
    refine ⟨F, env, S, .nx, e, ok, h1, fun F1 H1 S1 R1 σ1 st1 ok1 of1 dj1 => ?_⟩
    exact ⟨F1, e, S1, r, env', ok1, hd, (c.step st1 (of1.mono fun i z => List.mem_append_left _ z)).sub fun i z => List.mem_append_right _ z⟩
  · rename_i r' e hne h1
    cases hd
    refine ⟨F, env, S, r, env', ok, h1, fun F1 H1 S1 R1 σ1 st1 ok1 of1 dj1 => ?_⟩
    have q := c F1 H1 S1 R1 σ1 st1 ok1 (of1.mono fun i z => List.mem_append_left _ z) dj1
    cases r with
    | nx => exact (hne rfl).elim
    | rt t => exact q
    | bk => exact q
    | ct => exact q
  · cases hd
theorem if_imp {c : DE} {a b : DS} (h : tS K mg (W1 ++ W2) (dIf c a b) D σ H) : tIfS (tTest (tR K mg c)) (tS K mg W1 a) (tS K mg W2 b) D σ H := by
  obtain ⟨F, env, S, r, env', ok, hd, q⟩ := h
  unfold dIf at hd
  split at hd
  · rename_i e h1
    refine ⟨F, env, S, _, e, ok, h1, fun v F1 H1 S1 R1 st1 ok1 r1 => ⟨true, r1.lf_inv.1, ?_⟩⟩
    refine iteT ?_
    exact ⟨F1, e, S1, r, env', ok1, hd, (q.step (R := Emp) (st1.weak fun _ z => z.elim id fun z => z.elim) .refl).sub fun i z => List.mem_append_left _ z⟩
  · rename_i e h1
    refine ⟨F, env, S, _, e, ok, h1, fun v F1 H1 S1 R1 st1 ok1 r1 => ⟨false, r1.lf_inv.1, ?_⟩⟩
    refine iteF ?_
    exact ⟨F1, e, S1, r, env', ok1, hd, (q.step (R := Emp) (st1.weak fun _ z => z.elim id fun z => z.elim) .refl).sub fun i z => List.mem_append_right _ z⟩
  · cases hd
/-- a value stored in a slot -/
theorem store_ok' {v : V} {t : T} {i : Nat} (ok : Ok K mg F H σ env S) (r : Rep K mg F H v t R) (dj : Dj S R) (hi : i < env.length) : ∃ S2, Ok K mg F H (σ.set i (some v)) (env.set i t) S2 ∧ (∀ x, S2 x → S x ∨ R x) := by
  obtain ⟨s, A, B, e1, e2, e3, e4, rest⟩ := ok.st.split (List.getElem?_eq_getElem hi)
  refine ⟨Cup R B, ⟨ok.le, rest F H (some v) t R (Le.refl _) (fun y z => ⟨rfl, (ok.st.dom y ((e4 y).mpr (.inr z))).2⟩) r fun x a b => dj x ((e4 x).mpr (.inr b)) a⟩, fun x z => z.elim .inr fun z => .inl ((e4 x).mpr (.inr z))⟩
theorem set_imp {i : Nat} {d : DE} (h : tS K mg [i] (dSet i d) D σ H) : tAsg (tE K mg d) (gName i) D σ H := by
  obtain ⟨F, env, S, r, env', ok, hd, q⟩ := h
  unfold dSet at hd
  split at hd
  · rename_i t e h1
    split at hd
    · rename_i hi
      cases hd
      refine ⟨F, env, S, t, e, ok, h1, fun v F1 H1 S1 R1 st1 ok1 r1 dj1 => ?_⟩
      obtain ⟨S2, ok2, sub⟩ := store_ok' ok1 r1 dj1 hi
      exact q.now (st1.weak sub) ok2 Off.set
    · cases hd
  · cases hd
theorem ret_imp {d : DE} (h : tS K mg [] (dRet d) D σ H) : tRet (tE K mg d) D σ H := by
  obtain ⟨F, env, S, r, env', ok, hd, q⟩ := h
  obtain ⟨⟨t, e⟩, h1, h2⟩ := Option.map_eq_some_iff.mp hd
  cases h2
  exact ⟨F, env, S, t, _, ok, h1, fun v F1 H1 S1 R1 st1 ok1 r1 dj1 => q F1 H1 S1 R1 σ st1 ok1 .refl dj1 v r1⟩
theorem ex_imp {d : DE} (h : tS K mg [] (dEx d) D σ H) : tDrop (tE K mg d) D σ H := by
  obtain ⟨F, env, S, r, env', ok, hd, q⟩ := h
  obtain ⟨⟨t, e⟩, h1, h2⟩ := Option.map_eq_some_iff.mp hd
  cases h2
  exact ⟨F, env, S, t, _, ok, h1, fun v F1 H1 S1 R1 st1 ok1 r1 dj1 => q.now (st1.weak fun _ z => .inl z) ok1 .refl⟩
end
section
variable {X : Cx} {st : Stmt} {sts : List Stmt} {W W1 W2 : List Nat} {a b : DS} {e c : Expr} {d : DE} {pos pos' : Pos} {i : Nat} {x : Str} {xs ys : List Stmt}
theorem ss_cons (h1 : SS X st W1 a) (h2 : SSs X sts W2 b) : SSs X (st :: sts) (W1 ++ W2) (dSeq a b) := pssw (pss_cons h1 h2) fun _ _ _ => seq_imp
theorem ss_one (h1 : SS X st W a) : SSs X [st] W a := pss_one h1
theorem ss_nil : SSs X [] [] dNx := pssw pss_nil fun D σ H ⟨F, env, S, r, env', ok, hd, q⟩ => by cases hd; exact q.now .refl ok .refl
theorem ss_pass : SS X (.Pass pos) [] dNx := psw ps_pass fun D σ H ⟨F, env, S, r, env', ok, hd, q⟩ => by cases hd; exact q.now .refl ok .refl
theorem ss_brk : SS X (.Break pos) [] dBk := psw ps_break fun D σ H ⟨F, env, S, r, env', ok, hd, q⟩ => by cases hd; exact q F H S Emp σ (Stp.refl.weak fun _ z => z.elim id fun z => z.elim) ok .refl dj_emp
theorem ss_cnt : SS X (.Continue pos) [] dCt := psw ps_continue fun D σ H ⟨F, env, S, r, env', ok, hd, q⟩ => by cases hd; exact q F H S Emp σ (Stp.refl.weak fun _ z => z.elim id fun z => z.elim) ok .refl dj_emp
theorem ss_fail : SS X st [] dFail := psw ps_never fun D σ H ⟨F, env, S, r, env', ok, hd, q⟩ => by cases hd
theorem ss_if (hc : ST X c d) (h1 : SSs X xs W1 a) (h2 : SSs X ys W2 b) : SS X (.If c xs ys pos) (W1 ++ W2) (dIf d a b) := psw (ps_if hc h1 h2) fun _ _ _ => if_imp
theorem ss_set (hN : X.N.Nodup) (hi : X.N[i]? = some x) (hx : Loc X.env.scope x) (he : SE X e d) (hs : swapsWith e (some (.Name x pos')) pos.line X.env = pure false := by rfl) (hf : X.fn x = true ∨ X.env.scope.names.lookup x = some .local := by first | exact .inl rfl | exact .inr rfl | assumption) :
    SS X (.Assign [.Name x pos'] e pos) [i] (dSet i d) := psw (ps_set hN hi hx he hs hf) fun _ _ _ => set_imp
theorem ss_ret (he : SE X e d) : SS X (.Return (some e) pos) [] (dRet d) := psw (ps_ret he) fun _ _ _ => ret_imp
theorem ss_retN : SS X (.Return none pos) [] dRetN := psw ps_retN fun D σ H ⟨F, env, S, r, env', ok, hd, q⟩ => by
  cases hd
  exact q F H S Emp σ (Stp.refl.weak fun _ z => z.elim id fun z => z.elim) ok .refl dj_emp .non (.lf rfl fun _ z => z)
theorem ss_ex (he : SE X e d) (hs : swapsWith e none pos.line X.env = pure false := by rfl) : SS X (.Expr e pos) [] (dEx d) := psw (ps_expr he hs) fun _ _ _ => ex_imp
end

/-! ### while -/
def dWh (c : DE) (d : DS) : Nat → DS
  | 0, _ => none
  | n + 1, env => match c env with
    | some (.lf (.bl true), e) => match d e with
      | some (.nx, e2) => dWh c d n e2
      | some (.ct, e2) => dWh c d n e2
      | some (.bk, e2) => some (.nx, e2)
      | some (.rt t, e2) => some (.rt t, e2)
      | none => none
    | some (.lf (.bl false), e) => some (.nx, e)
    | _ => none
section
variable {K : PySem.W.Frag} {mg : Mg} {D : Ends} {σ σ' : L2.St} {H H' F F' : Hp} {S S' R : AS} {W W1 W2 : List Nat} {env env' : List T} {r : Fl}
theorem while_imp {c : DE} {d : DS} {n : Nat} (h : tS K mg W (dWh c d n) D σ H) : tWhile (tTest (tR K mg c)) (tS K mg W d) D σ H := by
  refine ⟨fun m σ H => tS K mg W (dWh c d m) D σ H, ⟨n, h⟩, ?_⟩
  rintro m σ H ⟨F, env, S, r, env', ok, hd, q⟩
  cases m with
  | zero => simp [dWh] at hd
  | succ m =>
    rw [dWh] at hd
    split at hd
    · rename_i e h1
      refine ⟨F, env, S, _, e, ok, h1, fun v F1 H1 S1 R1 st1 ok1 r1 => ⟨true, r1.lf_inv.1, ?_⟩⟩
      refine iteT ?_
      refine ⟨fun σ' H' => tS K mg W (dWh c d m) D σ' H', fun σ' H' z => ⟨m, Nat.lt_succ_self m, z⟩, ?_⟩
      have q1 := q.step (R := Emp) (st1.weak fun _ z => z.elim id fun z => z.elim) .refl
      split at hd
      · rename_i e2 h2
        exact ⟨F1, e, S1, .nx, e2, ok1, h2, fun F2 H2 S2 R2 σ2 st2 ok2 of2 dj2 => ⟨F2, e2, S2, r, env', ok2, hd, q1.step st2 of2⟩⟩
      · rename_i e2 h2
        exact ⟨F1, e, S1, .ct, e2, ok1, h2, fun F2 H2 S2 R2 σ2 st2 ok2 of2 dj2 => ⟨F2, e2, S2, r, env', ok2, hd, q1.step st2 of2⟩⟩
      · rename_i e2 h2
        cases hd
        exact ⟨F1, e, S1, .bk, _, ok1, h2, fun F2 H2 S2 R2 σ2 st2 ok2 of2 dj2 => q1 F2 H2 S2 R2 σ2 st2 ok2 of2 dj2⟩
      · rename_i t e2 h2
        cases hd
        exact ⟨F1, e, S1, .rt t, _, ok1, h2, fun F2 H2 S2 R2 σ2 st2 ok2 of2 dj2 => q1 F2 H2 S2 R2 σ2 st2 ok2 of2 dj2⟩
      · cases hd
    · rename_i e h1
      cases hd
      refine ⟨F, env, S, _, _, ok, h1, fun v F1 H1 S1 R1 st1 ok1 r1 => ⟨false, r1.lf_inv.1, ?_⟩⟩
      refine iteF ?_
      exact q.now st1 ok1 .refl
    · cases hd
theorem ss_while {X : Cx} {c : Expr} {body : List Stmt} {dc : DE} {d : DS} {pos : Pos} (n : Nat) (hp : PassesOwn (model X.prog X.w) X.A X.env X.xe) (hc : ST X c dc) (hb : SSs X body W d) : SS X (.While c body [] pos) W (dWh dc d n) :=
  psw (ps_while hp hc hb) fun _ _ _ => while_imp
end

/-! ### what is walked -/
abbrev DI := List T → Option (List T × List T)
section
variable (K : PySem.W.Frag) (mg : Mg)
/-- the iterator hands out these things, one after another -/
def Good (its : List T) (J : It) (F H : Hp) (S : AS) : Prop := ∀ (i : Nat) (F2 H2 : Hp) (S2 : AS), Stp F H S F2 H2 S2 → Le F2 H2 →
  (∀ t, its[i]? = some t → J.go i H2 ∧ ∀ x H3, J.yld i H2 x H3 → ∃ F3, Stp F2 H2 Emp F3 H3 Emp ∧ Le F3 H3 ∧ Rep K mg F3 H3 x t Emp) ∧ (its.length ≤ i → J.stop i H2)
def tI (d : DI) : TI := fun σ H Rk => ∃ F env S its env', Ok K mg F H σ env S ∧ d env = some (its, env') ∧ ∀ J F' H' S', Stp F H S F' H' S' → Ok K mg F' H' σ env' S' → Good K mg its J F' H' S' → Rk J H'
/-- a target: the thing goes into the slots -/
abbrev DG := T → List T → Option (List T)
def tG (W : List Nat) (dg : DG) : TG := fun v σ H Q => ∃ F env S R t env', Ok K mg F H σ env S ∧ Rep K mg F H v t R ∧ Dj S R ∧ dg t env = some env' ∧ ∀ σ' S', Ok K mg F H σ' env' S' → (∀ x, S' x → S x ∨ R x) → Off W σ σ' → Q σ' H
end
def SI (X : Cx) (tg iter : Expr) (d : DI) : Prop := PI X tg iter (tI X.K X.mg d)
def SG (X : Cx) (tg : Expr) (W : List Nat) (dg : DG) : Prop := PG X tg (tG X.K X.mg W dg)
theorem piw {X : Cx} {tg iter : Expr} {t t' : TI} (h : PI X tg iter t) (i : ∀ σ H R, t' σ H R → t σ H R) : PI X tg iter t' := ⟨fun pins s σ H R I q => h.run pins s σ H R I (i σ H R q)⟩
theorem pgw {X : Cx} {tg : Expr} {t t' : TG} (h : PG X tg t) (i : ∀ v σ H Q, t' v σ H Q → t v σ H Q) : PG X tg t' := ⟨fun pins s σ H v u Q I r q => h.run pins s σ H v u Q I r (i v σ H Q q)⟩
def gN (i : Nat) : DG := fun t env => if i < env.length then some (env.set i t) else none
def gT2 (a b : DG) : DG := fun t env => match t with
  | .nd _ .tup [x, y] => (a x env).bind fun e => b y e
  | _ => none
def gT3 (a b c : DG) : DG := fun t env => match t with
  | .nd _ .tup [x, y, z] => (a x env).bind fun e => (b y e).bind fun e => c z e
  | _ => none
section
variable {X : Cx} {i : Nat} {x : Str} {pos : Pos}
theorem sg_name (hN : X.N.Nodup) (hi : X.N[i]? = some x) (hx : Loc X.env.scope x) (hf : X.fn x = true ∨ X.env.scope.names.lookup x = some .local := by first | exact .inl rfl | exact .inr rfl | assumption) : SG X (.Name x pos) [i] (gN i) :=
  pgw (pg_name hN hi hx hf) fun v σ H Q ⟨F, env, S, R, t, env', ok, r, dj, hd, q⟩ => by
    unfold gN at hd
    split at hd
    · rename_i hl
      cases hd
      obtain ⟨S2, ok2, sub⟩ := store_ok' ok r dj hl
      exact q _ S2 ok2 sub Off.set
    · cases hd
theorem sg_two {a b : Expr} {W1 W2 : List Nat} {da db : DG} {k : Nat} (hc : X.calm = true) (ha : SG X a W1 da) (hb : SG X b W2 db) (h1 : (assignEach [a, b] X.env).map (·.2) = assign a X.env :: (assignEach [b] X.env).map (·.2) := by rfl) (h2 : (assignEach [b] X.env).map (·.2) = assign b X.env :: (assignEach [] X.env).map (·.2) := by rfl)
    (hn : (assignEach [a, b] X.env).length = 2 := by rfl) (hst : (assignEach [a, b] X.env).findIdx? (·.1) = none := by rfl) : SG X (.Tuple [a, b] k pos) (W1 ++ W2) (gT2 da db) :=
  pgw (pg_tup hc (pgs_cons ha (pgs_cons hb pgs_nil h2) h1) hn hst) fun v σ H Q ⟨F, env, S, R, t, env', ok, r, dj, hd, q⟩ => by
    unfold gT2 at hd
    split at hd
    · rename_i o x y
      obtain ⟨e1, g1, g2⟩ := Option.bind_eq_some_iff.mp hd
      obtain ⟨a, vs, S0, rfl, p, hs, hr⟩ := r.nd_inv ok.le
      cases p with
      | @cons v1 _ vs _ _ A1 B1 r1 p1 d1 hS1 =>
        cases p1 with
        | @cons v2 _ vs _ _ A2 B2 r2 p2 d2 hS2 =>
          cases p2 with
          | nil _ =>
            refine ⟨a, [v1, v2], rfl, SqT.of hr, rfl, v1, [v2], rfl, F, env, S, A1, x, e1, ok, r1, fun z s u => dj z s (hs z ((hS1 z).mpr (.inl u))), g1, fun σ1 S1 ok1 sub1 of1 => ?_⟩
            refine ⟨v2, [], rfl, F, e1, S1, A2, y, env', ok1, r2, fun z s u => (sub1 z s).elim (fun s => dj z s (hs z ((hS1 z).mpr (.inr ((hS2 z).mpr (.inl u)))))) (fun s => d1 z s ((hS2 z).mpr (.inl u))), g2, fun σ2 S2 ok2 sub2 of2 => ⟨rfl, ?_⟩⟩
            refine q σ2 S2 ok2 (fun z s => ?_) ((of1.mono fun i z => List.mem_append_left _ z).trans (of2.mono fun i z => List.mem_append_right _ z))
            rcases sub2 z s with s | s
            · exact (sub1 z s).elim .inl fun s => .inr (hs z ((hS1 z).mpr (.inl s)))
            · exact .inr (hs z ((hS1 z).mpr (.inr ((hS2 z).mpr (.inl s)))))
    · cases hd
theorem sg_three {a b c : Expr} {W1 W2 W3 : List Nat} {da db dc : DG} {k : Nat} (hc : X.calm = true) (ha : SG X a W1 da) (hb : SG X b W2 db) (hcc : SG X c W3 dc) (h1 : (assignEach [a, b, c] X.env).map (·.2) = assign a X.env :: (assignEach [b, c] X.env).map (·.2) := by rfl) (h2 : (assignEach [b, c] X.env).map (·.2) = assign b X.env :: (assignEach [c] X.env).map (·.2) := by rfl)
    (h3 : (assignEach [c] X.env).map (·.2) = assign c X.env :: (assignEach [] X.env).map (·.2) := by rfl)
    (hn : (assignEach [a, b, c] X.env).length = 3 := by rfl) (hst : (assignEach [a, b, c] X.env).findIdx? (·.1) = none := by rfl) : SG X (.Tuple [a, b, c] k pos) (W1 ++ (W2 ++ W3)) (gT3 da db dc) :=
  pgw (pg_tup hc (pgs_cons ha (pgs_cons hb (pgs_cons hcc pgs_nil h3) h2) h1) hn hst) fun v σ H Q ⟨F, env, S, R, t, env', ok, r, dj, hd, q⟩ => by
    unfold gT3 at hd
    split at hd
    · rename_i o x y z
      obtain ⟨e1, g1, g2⟩ := Option.bind_eq_some_iff.mp hd
      obtain ⟨e2, g3, g4⟩ := Option.bind_eq_some_iff.mp g2
      obtain ⟨a, vs, S0, rfl, p, hs, hr⟩ := r.nd_inv ok.le
      cases p with
      | @cons v1 _ vs _ _ A1 B1 r1 p1 d1 hS1 =>
        cases p1 with
        | @cons v2 _ vs _ _ A2 B2 r2 p2 d2 hS2 =>
          cases p2 with
          | @cons v3 _ vs _ _ A3 B3 r3 p3 d3 hS3 =>
            cases p3 with
            | nil _ =>
              have i1 : ∀ z, A1 z → S0 z := fun z u => (hS1 z).mpr (.inl u)
              have i2 : ∀ z, A2 z → B1 z := fun z u => (hS2 z).mpr (.inl u)
              have i3 : ∀ z, A3 z → B2 z := fun z u => (hS3 z).mpr (.inl u)
              have i3' : ∀ z, A3 z → B1 z := fun z u => (hS2 z).mpr (.inr (i3 z u))
              have ib : ∀ z, B1 z → S0 z := fun z u => (hS1 z).mpr (.inr u)
              refine ⟨a, [v1, v2, v3], rfl, SqT.of hr, rfl, v1, [v2, v3], rfl, F, env, S, A1, x, e1, ok, r1, fun z s u => dj z s (hs z (i1 z u)), g1, fun σ1 S1 ok1 sub1 of1 => ?_⟩
              refine ⟨v2, [v3], rfl, F, e1, S1, A2, y, e2, ok1, r2, fun z s u => (sub1 z s).elim (fun s => dj z s (hs z (ib z (i2 z u)))) (fun s => d1 z s (i2 z u)), g3, fun σ2 S2 ok2 sub2 of2 => ?_⟩
              refine ⟨v3, [], rfl, F, e2, S2, A3, z, env', ok2, r3, fun z s u => (sub2 z s).elim (fun s => (sub1 z s).elim (fun s => dj z s (hs z (ib z (i3' z u)))) fun s => d1 z s (i3' z u)) (fun s => d2 z s (i3 z u)), g4, fun σ3 S3 ok3 sub3 of3 => ⟨rfl, ?_⟩⟩
              refine q σ3 S3 ok3 (fun z s => ?_) ((of1.mono fun i z => List.mem_append_left _ z).trans ((of2.mono fun i z => List.mem_append_right _ (List.mem_append_left _ z)).trans (of3.mono fun i z => List.mem_append_right _ (List.mem_append_right _ z))))
              rcases sub3 z s with s | s
              · rcases sub2 z s with s | s
                · exact (sub1 z s).elim .inl fun s => .inr (hs z (i1 z s))
                · exact .inr (hs z (ib z (i2 z s)))
              · exact .inr (hs z (ib z (i3' z s)))
    · cases hd
end
/-- the turns -/
def dFr (dg : DG) (d : DS) : List T → DS
  | [], env => some (.nx, env)
  | t :: ts, env => match dg t env with
    | some e => match d e with
      | some (.nx, e2) => dFr dg d ts e2
      | some (.ct, e2) => dFr dg d ts e2
      | some (.bk, e2) => some (.nx, e2)
      | some (.rt t, e2) => some (.rt t, e2)
      | none => none
    | none => none
def dFor (di : DI) (dg : DG) (d : DS) : DS := fun env => (di env).bind fun p => dFr dg d p.1 p.2
section
variable {K : PySem.W.Frag} {mg : Mg} {D : Ends} {σ σ' : L2.St} {H H' F F' : Hp} {S S' R : AS} {W W1 W2 : List Nat} {env env' : List T} {r : Fl}
/-- the loop, over an iterator that is good -/
theorem for_core {dg : DG} {d : DS} {its : List T} {J : It} {F0 H0 : Hp} {S0 : AS} {σ0 : L2.St} {e0 : List T} (hG : Good K mg its J F0 H0 S0) (ok0 : Ok K mg F0 H0 σ0 e0 S0) (hd0 : dFr dg d its e0 = some (r, env')) (c0 : Cont' K mg D (W1 ++ W2) F0 H0 S0 σ0 r env') :
    ∃ Wi : Nat → Nat → L2.St → Hp → Prop, (∃ m, Wi 0 m σ0 H0) ∧ ∀ i m σ H, Wi i m σ H →
      (J.stop i H ∧ D.nx σ H) ∨ (J.go i H ∧ ∃ N : L2.St → Hp → Prop, (∀ σ' H', N σ' H' → ∃ m', m' < m ∧ Wi (i + 1) m' σ' H') ∧ ∀ x H', J.yld i H x H' → tG K mg W1 dg x σ H' fun σ2 H2 => tS K mg W2 d { D with nx := N, ct := N, bk := D.nx } σ2 H2) := by
  refine ⟨fun i m σ H => m = its.length - i ∧ i ≤ its.length ∧ ∃ F env S, Stp F0 H0 S0 F H S ∧ Ok K mg F H σ env S ∧ dFr dg d (its.drop i) env = some (r, env') ∧ Cont' K mg D (W1 ++ W2) F H S σ r env', ⟨its.length, rfl, Nat.zero_le _, F0, e0, S0, .refl, ok0, hd0, c0⟩, ?_⟩
  rintro i m σ H ⟨rfl, hi, F, env, S, st, ok, hd, c⟩
  obtain ⟨g1, g2⟩ := hG i F H S st ok.le
  by_cases hlt : i < its.length
  · obtain ⟨go, yl⟩ := g1 _ (List.getElem?_eq_getElem hlt)
    rw [List.drop_eq_getElem_cons hlt, dFr] at hd
    refine .inr ⟨go, fun σ' H' => ∃ F env S, Stp F0 H0 S0 F H' S ∧ Ok K mg F H' σ' env S ∧ dFr dg d (its.drop (i + 1)) env = some (r, env') ∧ Cont' K mg D (W1 ++ W2) F H' S σ' r env', fun σ' H' z => ⟨its.length - (i + 1), by omega, rfl, hlt, z⟩, fun x H3 y => ?_⟩
    obtain ⟨F3, st3, le3, r3⟩ := yl x H3 y
    have ok3 := ok.keep st3 emp_dj le3
    have a0 : Stp F H (Cup Emp S) F3 H3 (Cup Emp S) := st3.frame S
    have st3' : Stp F H S F3 H3 S := (a0.big (R := S) fun z u => Or.elim u (fun u => False.elim u) id).weak fun z u => Or.inr u
    split at hd
    · rename_i e h1
      refine ⟨F3, env, S, Emp, its[i], e, ok3, r3, dj_emp, h1, fun σ1 S1 ok1 sub1 of1 => ?_⟩
      have st4 : Stp F H S F3 H3 (Cup S1 Emp) := st3'.weak fun z u => u.elim (fun u => (sub1 z u).elim id fun u => u.elim) fun u => u.elim
      have c1 := c.step st4 (of1.mono fun i z => List.mem_append_left _ z)
      have st5 : Stp F0 H0 S0 F3 H3 S1 := st.trans (st4.weak fun _ z => .inl z)
      split at hd
      · rename_i e2 h2
        refine ⟨F3, e, S1, .nx, e2, ok1, h2, fun F2 H2 S2 R2 σ2 st2 ok2 of2 dj2 => ?_⟩
        exact ⟨F2, e2, S2, st5.trans (st2.weak fun _ z => .inl z), ok2, hd, c1.step st2 (of2.mono fun i z => List.mem_append_right _ z)⟩
      · rename_i e2 h2
        refine ⟨F3, e, S1, .ct, e2, ok1, h2, fun F2 H2 S2 R2 σ2 st2 ok2 of2 dj2 => ?_⟩
        exact ⟨F2, e2, S2, st5.trans (st2.weak fun _ z => .inl z), ok2, hd, c1.step st2 (of2.mono fun i z => List.mem_append_right _ z)⟩
      · rename_i e2 h2
        cases hd
        exact ⟨F3, e, S1, .bk, _, ok1, h2, fun F2 H2 S2 R2 σ2 st2 ok2 of2 dj2 => c1 F2 H2 S2 R2 σ2 st2 ok2 (of2.mono fun i z => List.mem_append_right _ z) dj2⟩
      · rename_i t e2 h2
        cases hd
        exact ⟨F3, e, S1, .rt t, _, ok1, h2, fun F2 H2 S2 R2 σ2 st2 ok2 of2 dj2 => c1 F2 H2 S2 R2 σ2 st2 ok2 (of2.mono fun i z => List.mem_append_right _ z) dj2⟩
      · cases hd
    · cases hd
  · have e : i = its.length := by omega
    subst e
    rw [List.drop_length] at hd
    cases hd
    exact .inl ⟨g2 (Nat.le_refl _), c.now .refl ok .refl⟩
theorem for_imp {di : DI} {dg : DG} {d : DS} (h : tS K mg (W1 ++ W2) (dFor di dg d) D σ H) : tFor (tI K mg di) (tG K mg W1 dg) (tS K mg W2 d) D σ H := by
  obtain ⟨F, env, S, r, env', ok, hd, q⟩ := h
  obtain ⟨⟨its, e⟩, h1, h2⟩ := Option.bind_eq_some_iff.mp hd
  exact ⟨F, env, S, its, e, ok, h1, fun J F1 H1 S1 st1 ok1 g1 => for_core g1 ok1 h2 (q.step (R := Emp) (st1.weak fun _ z => z.elim id fun z => z.elim) .refl)⟩
theorem ss_for {X : Cx} {tg iter : Expr} {body : List Stmt} {di : DI} {dg : DG} {d : DS} {pos : Pos} (hp : PassesOwn (model X.prog X.w) X.A X.env X.xe) (hc : X.calm = true) (hi : SI X tg iter di) (hg : SG X tg W1 dg) (hb : SSs X body W2 d)
    (hs : ∀ x, foldedSetIterable iter X.env x = pure x := by intro _; rfl) : SS X (.For tg iter body [] pos) (W1 ++ W2) (dFor di dg d) := psw (ps_for hp hc hi hg hb hs) fun _ _ _ => for_imp
end

/-! ### a def -/
/-- the parameters behind the body: those that are never stored -/
def outs : List Bool → List T → List T
  | b :: bs, t :: ts => (if b = true then t else .no) :: outs bs ts
  | _, _ => []
def dFun (keep : List Bool) (n : Nat) (d : DS) : FT := fun ts => if ts.length = keep.length then match d (ts ++ List.replicate (n - keep.length) .no) with
    | some (.rt t, e) => some (t, outs keep e)
    | some (.nx, e) => some (.lf .non, outs keep e)
    | _ => none
  else none
theorem dFun_len {keep : List Bool} {n : Nat} {d : DS} {m : Nat} (h : keep.length = m) : FLen (dFun keep n d) m := fun ts r e => by
  unfold dFun at e
  split at e
  · rw [← h]; assumption
  · cases e
section
variable {K : PySem.W.Frag} {mg : Mg} {F H : Hp}
theorem start_rep : ∀ {vs : List V} {ts : List T} {S : AS} {k : Nat}, Reps K mg F H vs ts S → StR K mg F H (vs.map some ++ List.replicate k none) (ts ++ List.replicate k .no) S
  | _, _, S, 0, .nil h => .nil h
  | _, _, S, k + 1, .nil h => .cons (S1 := S) (S2 := S) ⟨rfl, h⟩ (start_rep (k := k) (.nil h)) (fun x a => (h x a).elim) fun x => ⟨.inl, fun z => z.elim id id⟩
  | _, _, _, k, .cons r q d hS => .cons r (start_rep q) d hS
theorem outs_rep : ∀ {keep : List Bool} {vs : List V} {σ : L2.St} {env : List T} {S : AS}, keep.length = vs.length → StR K mg F H σ env S → (∀ (i : Nat) (v : V), keep[i]? = some true → vs[i]? = some v → σ[i]? = some (some v)) → vs.length ≤ σ.length →
    ∃ S', Reps K mg F H vs (outs keep env) S' ∧ ∀ x, S' x → S x
  | [], [], _, env, S, _, _, _, _ => ⟨Emp, (show Reps K mg F H [] [] Emp from .nil fun _ z => z), fun _ z => z.elim⟩
  | [], _ :: _, _, _, _, h, _, _, _ => by simp at h
  | _ :: _, [], _, _, _, h, _, _, _ => by simp at h
  | b :: keep, v :: vs, [], _, _, _, _, _, h => by simp at h
  | b :: keep, v :: vs, s :: σ, env, S, hl, r, hk, hle => by
    cases r with
    | @cons _ t _ env _ S1 S2 r q d hS =>
      obtain ⟨S', g1, g2⟩ := outs_rep (keep := keep) (vs := vs) (by simpa using hl) q (fun i w h1 h2 => by simpa using hk (i + 1) w (by simpa using h1) (by simpa using h2)) (by simpa using hle)
      cases b with
      | false =>
        refine ⟨S', ?_, fun x z => (hS x).mpr (.inr (g2 x z))⟩
        rw [outs, if_neg Bool.false_ne_true]
        exact .cons (S1 := Emp) (S2 := S') (.no fun _ z => z) g1 emp_dj fun x => ⟨.inr, fun z => z.elim (fun z => z.elim) id⟩
      | true =>
        have e := hk 0 v rfl rfl
        simp at e
        subst e
        refine ⟨Cup S1 S', ?_, fun x z => z.elim (fun z => (hS x).mpr (.inl z)) fun z => (hS x).mpr (.inr (g2 x z))⟩
        rw [outs, if_pos rfl]
        exact .cons r g1 (fun x a b => d x a (g2 x b)) fun _ => Iff.rfl
end
section
variable {P : Program} {w : World} {K : PySem.W.Frag} {mg : Mg} {base : Heap}
theorem def_end {n : Nat} {N ps : List Str} {W : List Nat} {d : DS} {keep : List Bool} {vs : List V} {H : Hp} {Q : VK} {E : XK} (hk : keep.length = ps.length) (hN : N.length = n) (hW : ∀ i ∈ W, keep[i]? ≠ some true) (h : spD K mg ps.length (dFun keep n d) vs H Q E) :
    tS K mg W d { nx := fun _ H' => Q .non H', rt := Q } (L2.start N vs) H := by
  obtain ⟨hl, F0, S0, ts, r, ts', le, rp, hf, q⟩ := h
  have hln : N.length - vs.length = n - keep.length := by rw [hN, hl, hk]
  have hst : StR K mg F0 H (L2.start N vs) (ts ++ List.replicate (n - keep.length) .no) S0 := by
    unfold L2.start
    rw [hln]
    exact start_rep rp
  have tail : ∀ {σ' : L2.St} {e : List T} {F' H' : Hp} {S' R : AS} {v : V}, Stp F0 H S0 F' H' (Cup S' R) → Ok K mg F' H' σ' e S' → Off W (L2.start N vs) σ' → Dj S' R → outs keep e = ts' → Rep K mg F' H' v r R → Q v H' := by
    intro σ' e F' H' S' R v st ok of dj ho rv
    have hkv : keep.length = vs.length := by rw [hk, hl]
    have hlen : vs.length ≤ σ'.length := by
      rw [of.len]
      unfold L2.start
      simp
    obtain ⟨S'', g1, g2⟩ := outs_rep hkv ok.st (fun i v h1 h2 => by
      have hn : i ∉ W := fun z => hW i z h1
      rw [of.at_ i hn]
      unfold L2.start
      obtain ⟨h3, h4⟩ := List.getElem?_eq_some_iff.mp h2
      rw [List.getElem?_append_left (by simpa using h3)]
      simp [h4, h3]) hlen
    exact q v F' H' R S'' (st.weak fun x z => z.elim .inr fun z => .inl (g2 x z)) ok.le rv (by rw [← ho]; exact g1) fun x a b => dj x (g2 x b) a
  unfold dFun at hf
  split at hf
  · split at hf
    · rename_i t e h1
      cases hf
      exact ⟨F0, _, S0, _, _, ⟨le, hst⟩, h1, fun F' H' S' R σ' st ok of dj v rv => tail st ok of dj rfl rv⟩
    · rename_i e h1
      cases hf
      exact ⟨F0, _, S0, _, _, ⟨le, hst⟩, h1, fun F' H' S' R σ' st ok of dj => tail (R := Emp) (st.weak fun _ z => z.elim .inl fun z => z.elim) ok of dj_emp rfl (.lf rfl fun _ z => z)⟩
    · cases hf
  · cases hf
theorem ok_def {n : Nat} {x qual : Str} {st : Stmt} {f : Addr} {fd : FuncData} {N ps : List Str} {k : Nat} {W : List Nat} {d : DS} {keep : List Bool} (F : Fun K x qual st f fd) (S : FnScope N ps (defScope st)) (hk : keep.length = ps.length) (hN : N.length = n) (hW : ∀ i ∈ W, keep[i]? ≠ some true)
    (hb : ∀ (cdv : Value) (A : Around) (outer : List Env) (s : Shared) (H : Hp) (E : XK), Room k (A.deeper (envOfC qual (defScope st) s.heap.objs.size f cdv)) →
      SSs (cxOf CX0 P w K mg base N qual (defScope st) f cdv A outer s H E).nox (defBody st) W d) : FnOk P w K mg base CX0 (k + 1) f fd ps (spD K mg ps.length (dFun keep n d)) := by
  refine F.ok S (fun vs H Q E h => h.1) (fun cdv A outer s H vs Q E hr h => ?_)
  exact ⟨_, hb cdv A outer s H E hr, def_end hk hN hW h⟩
end
end Tr


set_option Elab.async false
set_option linter.all false
set_option maxRecDepth 100000
set_option maxHeartbeats 4000000
/-! D8: what is walked; comprehensions. -/
namespace Tr
open PySem PySem.Spec PyProof.Rows L2

section
variable {K : PySem.W.Frag} {mg : Mg} {F H : Hp}
/-- a range -/
def dRng (d : DE) : DI := fun env => match d env with
  | some (.lf (.int j), e) => if -(2 ^ 62) ≤ j ∧ j < 2 ^ 62 then some ((List.range j.toNat).map fun (k : Nat) => lfI k, e) else none
  | _ => none
def dRng2 (a b : DV) : DI := fun env => match a env, b env with
  | some (.lf (.int i)), some (.lf (.int j)) => if (-(2 ^ 62) ≤ i ∧ i < 2 ^ 62) ∧ -(2 ^ 62) ≤ j ∧ j < 2 ^ 62 then some ((List.range (j - i).toNat).map fun (k : Nat) => lfI (i + k), env) else none
  | _, _ => none
theorem good_rng {lo : Int} {n : Nat} {S : AS} : Good K mg ((List.range n).map fun (k : Nat) => lfI (lo + k)) (Itr lo n) F H S := fun i F2 H2 S2 st le => by
  refine ⟨fun t h => ?_, fun h => by
    have h' : n ≤ i := by simpa using h
    exact h'⟩
  have hi : i < n := by
    have := (List.getElem?_eq_some_iff.mp h).1
    simpa using this
  rw [List.getElem?_map, List.getElem?_range hi] at h
  cases h
  refine ⟨hi, fun x H3 y => ?_⟩
  obtain ⟨e1, e2⟩ := y
  subst e1 e2
  exact ⟨F2, .refl, le, .lf rfl fun _ z => z⟩
theorem si_rng {X : Cx} {tg e : Expr} {d : DE} {p pos : Pos} (hg : Gl X "range") (hm : X.mg "range" = none) (ha : SR X e d) (hs : starEach [e] X.env = [(false, eval e X.env)] := by rfl) : SI X tg (.Call (.Name "range" p) [e] [] pos) (dRng d) :=
  piw (pi_range1 hg hm (pa_cons ha pa_nil hs) hs) fun σ H R ⟨F, env, S, its, env', ok, hd, q⟩ => by
    unfold dRng at hd
    split at hd
    · rename_i j e1 h1
      split at hd
      · rename_i hj
        cases hd
        refine ⟨F, env, S, _, _, ok, h1, fun v F1 H1 S1 R1 st ok1 r => ⟨j, by rw [r.lf_inv.1], hj.1, hj.2, ?_⟩⟩
        refine q (Itr 0 j.toNat) F1 H1 S1 st ok1 ?_
        have := good_rng (K := X.K) (mg := X.mg) (F := F1) (H := H1) (lo := 0) (n := j.toNat) (S := S1)
        simpa using this
      · cases hd
    · cases hd
theorem si_rng2 {X : Cx} {tg a b : Expr} {da db : DV} {p pos : Pos} (hg : Gl X "range") (hm : X.mg "range" = none) (ha : SV X a da) (hb : SV X b db) (hs : starEach [a, b] X.env = [(false, eval a X.env), (false, eval b X.env)] := by rfl) (hs2 : starEach [b] X.env = [(false, eval b X.env)] := by rfl) :
    SI X tg (.Call (.Name "range" p) [a, b] [] pos) (dRng2 da db) :=
  piw (pi_range2 hg hm (pa_cons ha (pa_cons hb pa_nil hs2) (hs.trans (by rw [hs2]))) hs hs2) fun σ H R ⟨F, env, S, its, env', ok, hd, q⟩ => by
    unfold dRng2 at hd
    split at hd
    · rename_i i j h1 h2
      split at hd
      · rename_i hj
        cases hd
        refine ⟨F, _, S, _, ok, h1, fun v R1 r1 => ⟨F, _, S, _, ok, h2, fun w R2 r2 => ⟨i, j, by rw [r1.lf_inv.1, r2.lf_inv.1], ⟨hj.1.1, hj.1.2, hj.2.1, hj.2.2⟩, ?_⟩⟩⟩
        exact q (Itr i (j - i).toNat) F H S .refl ok good_rng
      · cases hd
    · cases hd

/-! ### lists, tuples -/
/-- where a node stands is nobody else's -/
theorem Rep.stays {v : V} {o : Bool} {k : Kd} {xs : List T} {R S : AS} (le : Le F H) (r : Rep K mg F H v (.nd o k xs) R) (dj : Dj S R) (hS : ∀ x, S x → F x = none) :
    ∃ a vs S0, v = .ref a ∧ Reps K mg F H vs xs S0 ∧ (∀ x, S0 x → R x) ∧ ∀ F2 H2 S2, Stp F H S F2 H2 S2 → Le F2 H2 → Here K mg H2 a k vs := by
  cases r with
  | own h1 h2 c r na hS' => exact ⟨_, _, _, rfl, r, fun x z => (hS' x).mpr (.inr z), fun F2 H2 S2 st le2 => .of (st.kp _ _ h1 fun z => dj _ z ((hS' _).mpr (.inl rfl))) c⟩
  | frz h c r => exact ⟨_, _, _, rfl, r, fun _ z => z, fun F2 H2 S2 st le2 => .of (le2 _ _ (st.ff _ _ h)) c⟩
  | rol h r => exact ⟨_, _, _, rfl, r, fun _ z => z, fun F2 H2 S2 st le2 => (st.ff.trans le2).sqL h⟩
  | rot h r => exact ⟨_, _, _, rfl, r, fun _ z => z, fun F2 H2 S2 st le2 => (st.ff.trans le2).sqT h⟩
def itemsL : T → Option (List T)
  | .nd _ .lst xs => some (frzs xs)
  | .nd _ .rol xs => some (frzs xs)
  | _ => none
def itemsT : T → Option (List T)
  | .nd _ .tup xs => some (frzs xs)
  | .nd _ .rot xs => some (frzs xs)
  | _ => none
def dIt (f : T → Option (List T)) (d : DE) : DI := fun env => (d env).bind fun p => (f p.1).map fun its => (its, p.2)
theorem frzs_get {xs : List T} {i : Nat} {t : T} (h : (frzs xs)[i]? = some t) : ∃ u, xs[i]? = some u ∧ t = frz u := by
  rw [frzs_map, List.getElem?_map] at h
  obtain ⟨u, h1, h2⟩ := Option.map_eq_some_iff.mp h
  exact ⟨u, h1, h2.symm⟩
mutual
theorem cln_frz : ∀ t : T, cln (frz t) = true
  | .no => by rw [frz, cln]
  | .lf _ => by rw [frz, cln]
  | .nd _ _ xs => by rw [frz, cln, clns_frz xs]; rfl
theorem clns_frz : ∀ ts : List T, clns (frzs ts) = true
  | [] => by rw [frzs, clns]
  | t :: ts => by rw [frzs, clns, cln_frz t, clns_frz ts]; rfl
end
mutual
theorem frz_cln : ∀ t : T, cln t = true → frz t = t
  | .no, _ => by rw [frz]
  | .lf _, _ => by rw [frz]
  | .nd o k xs, h => by
    simp only [cln, Bool.and_eq_true, Bool.not_eq_true'] at h
    rw [frz, frzs_cln xs h.2, h.1]
theorem frzs_cln : ∀ ts : List T, clns ts = true → frzs ts = ts
  | [], _ => by rw [frzs]
  | t :: ts, h => by
    simp only [clns, Bool.and_eq_true] at h
    rw [frzs, frz_cln t h.1, frzs_cln ts h.2]
end
/-- the things of a value of one's own, all frozen -/
theorem items_frozen {σ : L2.St} {env : List T} {F0 H0 : Hp} {S0 S R : AS} {v : V} {o : Bool} {k : Kd} {xs : List T} (st : Stp F0 H0 S0 F H (Cup S R)) (ok : Ok K mg F H σ env S) (r : Rep K mg F H v (.nd o k xs) R) (dj : Dj S R) :
    ∃ F' a vs, v = .ref a ∧ Stp F0 H0 S0 F' H S ∧ Ok K mg F' H σ env S ∧ Reps K mg F' H vs (frzs xs) Emp ∧ ∀ F2 H2 S2, Stp F' H S F2 H2 S2 → Le F2 H2 → Here K mg H2 a k vs := by
  have ff := frF_le (A := R) ok.le
  have stF : Stp F H (Cup S R) (frF F H R) H S := frF_stp ok.le (fun _ z => .inr z) fun _ z => .inl z
  have stF' : Stp F H R (frF F H R) H Emp := frF_stp ok.le (fun _ z => z) fun _ z => z.elim
  have ok' := ok.keep stF' dj.symm ff.2
  have r' : Rep K mg (frF F H R) H v (frz (.nd o k xs)) Emp := r.freeze ff.1 (fun x z => frF_in z) fun _ z => z
  rw [frz] at r'
  obtain ⟨a, vs, S1, rfl, p, hs, hr⟩ := r'.stays (S := S) ff.2 dj_emp fun x z => (ok'.st.dom x z).2
  exact ⟨frF F H R, a, vs, rfl, st.trans stF, ok', p.clean0 (clns_frz xs), hr⟩
theorem good_list {a : Addr} {vs : List V} {its : List T} {S : AS} (r : Reps K mg F H vs its Emp) (hr : ∀ F2 H2 S2, Stp F H S F2 H2 S2 → Le F2 H2 → SqL K H2 a vs) : Good K mg its (Itl K a) F H S := fun i F2 H2 S2 st le => by
  have hq := hr F2 H2 S2 st le
  refine ⟨fun t h => ?_, fun h => ⟨vs, hq, by rw [r.length (S := Emp)]; exact h⟩⟩
  obtain ⟨v, R, e1, e2, e3⟩ := r.get h
  refine ⟨⟨vs, v, hq, e1⟩, fun x H3 y => ?_⟩
  obtain ⟨e4, y⟩ := y
  subst e4
  have e5 := (y vs hq).symm.trans e1
  cases e5
  exact ⟨F2, .refl, le, (e2.iff (S' := Emp) fun x => ⟨fun z => z.elim, fun z => e3 x z⟩).frame st.ff fun _ z => z.elim⟩
theorem good_tup {a : Addr} {vs : List V} {its : List T} {S : AS} (r : Reps K mg F H vs its Emp) (hr : ∀ F2 H2 S2, Stp F H S F2 H2 S2 → Le F2 H2 → SqT K H2 a vs) : Good K mg its (Itt K a) F H S := fun i F2 H2 S2 st le => by
  have hq := hr F2 H2 S2 st le
  refine ⟨fun t h => ?_, fun h => ⟨vs, hq, by rw [r.length (S := Emp)]; exact h⟩⟩
  obtain ⟨v, R, e1, e2, e3⟩ := r.get h
  refine ⟨⟨vs, v, hq, e1⟩, fun x H3 y => ?_⟩
  obtain ⟨e4, y⟩ := y
  subst e4
  have e5 := (y vs hq).symm.trans e1
  cases e5
  exact ⟨F2, .refl, le, (e2.iff (S' := Emp) fun x => ⟨fun z => z.elim, fun z => e3 x z⟩).frame st.ff fun _ z => z.elim⟩
theorem dIt_some {f : T → Option (List T)} {d : DE} {env its e : List T} (h : dIt f d env = some (its, e)) : ∃ t, d env = some (t, e) ∧ f t = some its := by
  obtain ⟨⟨t, e1⟩, h1, h2⟩ := Option.bind_eq_some_iff.mp h
  obtain ⟨its', h3, h4⟩ := Option.map_eq_some_iff.mp h2
  cases h4
  exact ⟨t, h1, h3⟩
theorem itemsL_some {t : T} {its : List T} (h : itemsL t = some its) : ∃ o k xs, t = .nd o k xs ∧ its = frzs xs ∧ ∀ (K : PySem.W.Frag) (mg : Mg) (H : Hp) (a : Addr) (vs : List V), Here K mg H a k vs → SqL K H a vs := by
  unfold itemsL at h
  split at h
  · cases h; exact ⟨_, _, _, rfl, rfl, fun _ _ _ _ _ z => SqL.of z⟩
  · cases h; exact ⟨_, _, _, rfl, rfl, fun _ _ _ _ _ z => z⟩
  · cases h
theorem itemsT_some {t : T} {its : List T} (h : itemsT t = some its) : ∃ o k xs, t = .nd o k xs ∧ its = frzs xs ∧ ∀ (K : PySem.W.Frag) (mg : Mg) (H : Hp) (a : Addr) (vs : List V), Here K mg H a k vs → SqT K H a vs := by
  unfold itemsT at h
  split at h
  · cases h; exact ⟨_, _, _, rfl, rfl, fun _ _ _ _ _ z => SqT.of z⟩
  · cases h; exact ⟨_, _, _, rfl, rfl, fun _ _ _ _ _ z => z⟩
  · cases h
theorem si_list {X : Cx} {tg l : Expr} {d : DE} (hl : SE X l d) : SI X tg l (dIt itemsL d) := piw (pi_list hl) fun σ H Rk ⟨F, env, S, its, e, ok, hd, q⟩ => by
  obtain ⟨t, h1, h2⟩ := dIt_some hd
  obtain ⟨o, k, xs, rfl, rfl, hk⟩ := itemsL_some h2
  refine ⟨F, env, S, _, e, ok, h1, fun v F1 H1 S1 R1 st ok1 r dj => ?_⟩
  obtain ⟨F', a, vs, rfl, st', ok', p, hr⟩ := items_frozen st ok1 r dj
  exact ⟨a, rfl, ⟨vs, hk _ _ _ _ _ (hr F' H1 S1 .refl ok'.le)⟩, q _ F' H1 S1 st' ok' (good_list p fun F2 H2 S2 s l => hk _ _ _ _ _ (hr F2 H2 S2 s l))⟩
theorem si_tup {X : Cx} {tg l : Expr} {d : DE} (hl : SE X l d) : SI X tg l (dIt itemsT d) := piw (pi_tup hl) fun σ H Rk ⟨F, env, S, its, e, ok, hd, q⟩ => by
  obtain ⟨t, h1, h2⟩ := dIt_some hd
  obtain ⟨o, k, xs, rfl, rfl, hk⟩ := itemsT_some h2
  refine ⟨F, env, S, _, e, ok, h1, fun v F1 H1 S1 R1 st ok1 r dj => ?_⟩
  obtain ⟨F', a, vs, rfl, st', ok', p, hr⟩ := items_frozen st ok1 r dj
  exact ⟨a, rfl, ⟨vs, hk _ _ _ _ _ (hr F' H1 S1 .refl ok'.le)⟩, q _ F' H1 S1 st' ok' (good_tup p fun F2 H2 S2 s l => hk _ _ _ _ _ (hr F2 H2 S2 s l))⟩
/-- a text, sign by sign -/
def itemsS : T → Option (List T)
  | .lf (.str x) => some (x.cps.toList.map fun c => .lf (.str ⟨#[c]⟩))
  | _ => none
theorem si_str {X : Cx} {tg l : Expr} {d : DE} (hl : SR X l d) : SI X tg l (dIt itemsS d) := piw (pi_str hl) fun σ H Rk ⟨F, env, S, its, e, ok, hd, q⟩ => by
  obtain ⟨t, h1, h2⟩ := dIt_some hd
  unfold itemsS at h2
  split at h2
  · rename_i x
    cases h2
    refine ⟨F, env, S, _, e, ok, h1, fun v F1 H1 S1 R1 st ok1 r => ⟨x, r.lf_inv.1, q _ F1 H1 S1 st ok1 fun i F2 H2 S2 st2 le => ⟨fun t h => ?_, fun h => ?_⟩⟩⟩
    · have hi : i < x.cps.size := by
        have := (List.getElem?_eq_some_iff.mp h).1
        simpa using this
      refine ⟨hi, fun y H3 z => ?_⟩
      obtain ⟨e1, c, e2, e3⟩ := z
      subst e1 e3
      rw [List.getElem?_map] at h
      obtain ⟨c', h3, h4⟩ := Option.map_eq_some_iff.mp h
      have : c' = c := by
        have e2' : x.cps.toList[i]? = some c := by simpa using e2
        rw [e2'] at h3
        exact (Option.some.inj h3).symm
      subst this h4
      exact ⟨F2, .refl, le, .lf rfl fun _ z => z⟩
    · have : x.cps.size ≤ i := by simpa using h
      exact this
  · cases h2
end
end Tr


set_option Elab.async false
set_option linter.all false
set_option maxRecDepth 100000
set_option maxHeartbeats 4000000
/-! D9: list comprehensions. -/
namespace Tr
open PySem PySem.Spec PyProof.Rows L2

/-- the block's own slots emptied -/
def wipeT : List T → List Nat → List T
  | env, [] => env
  | env, v :: vs => (wipeT env vs).set v .no
/-- .. and given back -/
def backT (old : List T) : List T → List Nat → List T
  | env, [] => env
  | env, v :: vs => backT old (env.set v (old.getD v .no)) vs
/-- the slots hold nothing owned -/
def cleanAt (env : List T) (vs : List Nat) : Bool := vs.all fun v => decide (v < env.length) && cln (env.getD v .no)
/-- the turns: the things made so far -/
def dLr (dg : DG) (dc de : DE) (vs : List Nat) : List T → List T → List T → Option (List T × List T)
  | [], acc, env => some (acc, env)
  | t :: ts, acc, env => (dg t env).bind fun e => match dc e with
    | some (.lf (.bl true), e1) => (de e1).bind fun p => if acc.length < sizeLine then dLr dg dc de vs ts (acc ++ [p.1]) (wipeT p.2 vs) else none
    | some (.lf (.bl false), e1) => dLr dg dc de vs ts acc (wipeT e1 vs)
    | _ => none
def dLc (di : DI) (dg : DG) (dc de : DE) (vs : List Nat) : DE := fun env => (di env).bind fun p => if cleanAt p.2 vs = true then
  (dLr dg dc de vs p.1 [] (wipeT p.2 vs)).map fun q => (.nd true .lst q.1, backT p.2 q.2 vs) else none
section
variable {K : PySem.W.Frag} {mg : Mg} {F H : Hp} {σ : L2.St}
theorem wipe_rep {env : List T} {S : AS} (ok : Ok K mg F H σ env S) : ∀ vs : List Nat, ∃ S', Ok K mg F H (wipe σ vs) (wipeT env vs) S' ∧ ∀ x, S' x → S x
  | [] => ⟨S, ok, fun _ z => z⟩
  | v :: vs => by
    obtain ⟨S1, ok1, h1⟩ := wipe_rep ok vs
    by_cases hv : v < (wipeT env vs).length
    · obtain ⟨s, A, B, e1, e2, e3, e4, rest⟩ := ok1.st.split (List.getElem?_eq_getElem hv)
      refine ⟨Cup Emp B, ⟨ok.le, ?_⟩, fun x z => z.elim (fun z => z.elim) fun z => h1 x ((e4 x).mpr (.inr z))⟩
      exact rest F H none .no Emp (Le.refl _) (fun y z => ⟨rfl, (ok1.st.dom y ((e4 y).mpr (.inr z))).2⟩) ⟨rfl, fun _ z => z⟩ emp_dj
    · refine ⟨S1, ⟨ok.le, ?_⟩, h1⟩
      have hl := ok1.st.length
      rw [wipe, wipeT, List.set_eq_of_length_le (by omega), List.set_eq_of_length_le (by omega)]
      exact ok1.st
theorem wipeT_length (env : List T) : ∀ vs : List Nat, (wipeT env vs).length = env.length
  | [] => rfl
  | v :: vs => by rw [wipeT, List.length_set, wipeT_length env vs]
/-- what stands in the slots, clean, wherever one is -/
def SlotsOk (K : PySem.W.Frag) (mg : Mg) (F H : Hp) (σ : L2.St) (old : List T) (vs : List Nat) : Prop := ∀ v ∈ vs, ∃ s, σ[v]? = some s ∧ RepO K mg F H s (old.getD v .no) Emp
theorem slots_ok {env : List T} {S : AS} (ok : Ok K mg F H σ env S) {vs : List Nat} (c : cleanAt env vs = true) : SlotsOk K mg F H σ env vs := fun v hv => by
  have h := List.all_eq_true.mp c v hv
  simp only [Bool.and_eq_true, decide_eq_true_eq] at h
  obtain ⟨s, A, B, e1, e2, _⟩ := ok.st.split (List.getElem?_eq_getElem h.1)
  have e : env.getD v .no = env[v] := by rw [List.getD_eq_getElem?_getD, List.getElem?_eq_getElem h.1]; rfl
  refine ⟨s, e1, ?_⟩
  rw [e]
  rw [e] at h
  cases s with
  | none => exact ⟨e2.1, fun _ z => z⟩
  | some w => exact Rep.clean0 e2 h.2
theorem SlotsOk.stay {F' H' : Hp} {old : List T} {vs : List Nat} (ff : Le F F') (h : SlotsOk K mg F H σ old vs) : SlotsOk K mg F' H' σ old vs := fun v hv => by
  obtain ⟨s, e, r⟩ := h v hv
  exact ⟨s, e, r.frame ff fun _ z => z.elim⟩
theorem back_rep {old : List T} : ∀ {vs : List Nat} {env : List T} {S : AS}, vs.Nodup → Ok K mg F H (wipe σ vs) env S → SlotsOk K mg F H σ old vs → ∃ S', Ok K mg F H σ (backT old env vs) S' ∧ ∀ x, S' x → S x
  | [], env, S, _, ok, _ => ⟨S, ok, fun _ z => z⟩
  | v :: vs, env, S, nd, ok, so => by
    have nd' := List.nodup_cons.mp nd
    obtain ⟨s, e, r⟩ := so v (List.mem_cons_self ..)
    have hl := ok.st.length
    have hvσ : v < σ.length := (List.getElem?_eq_some_iff.mp e).1
    have hv : v < env.length := by rw [← hl, wipe_length]; exact hvσ
    obtain ⟨s0, A, B, e1, e2, e3, e4, rest⟩ := ok.st.split (List.getElem?_eq_getElem hv)
    have q := rest F H s (old.getD v .no) Emp (Le.refl _) (fun y z => ⟨rfl, (ok.st.dom y ((e4 y).mpr (.inr z))).2⟩) r emp_dj
    have es : (wipe σ (v :: vs)).set v s = wipe σ vs := by
      rw [wipe, List.set_set]
      exact set_self' ((wipe_out nd'.1).trans e)
    rw [es] at q
    obtain ⟨S2, ok2, h2⟩ := back_rep nd'.2 ⟨ok.le, q⟩ fun w hw => so w (List.mem_cons_of_mem _ hw)
    exact ⟨S2, ok2, fun x z => (h2 x z).elim (fun z => z.elim) fun z => (e4 x).mpr (.inr z)⟩
/-- a thing put behind a list of one's own -/
theorem snoc_rep {D : Addr} {acc : List V} {ts : List T} {RD R : AS} {y : V} {t : T} (h1 : H D = some (.lst acc)) (h2 : F D = none) (rs : Reps K mg F H acc ts RD) (nD : ¬ RD D) (r : Rep K mg F H y t R) (dj : Dj RD R) (nR : ¬ R D) :
    Reps K mg F (upd H D (.lst (acc ++ [y]))) (acc ++ [y]) (ts ++ [t]) (Cup RD R) := by
  have up : ∀ x, Cup RD R x → upd H D (.lst (acc ++ [y])) x = H x ∧ F x = none := fun x z => by
    have hx : x ≠ D := fun e => z.elim (fun z => nD (e ▸ z)) fun z => nR (e ▸ z)
    exact ⟨upd_ne hx, z.elim (fun z => (rs.dom x z).2) fun z => (r.dom x z).2⟩
  have one : Reps K mg F H [y] [t] R := .cons (S1 := R) (S2 := Emp) r (.nil fun _ z => z) dj_emp fun x => ⟨.inl, fun z => z.elim id fun z => z.elim⟩
  exact (Reps.append one rs dj).frame (Le.refl _) up
/-- a written list is a step of its own custody -/
theorem write_step {D : Addr} {o : HO} {S : AS} (hD : S D) : Stp F H S F (upd H D o) S :=
  ⟨Le.refl _, fun a o' e n => by rw [upd_ne fun z => n (by rw [z]; exact hD)]; exact e, fun _ _ e => .inl e, fun _ z => .inl z⟩
theorem wipe_in {τ : L2.St} {j : Nat} : ∀ {vs : List Nat}, j ∈ vs → (wipe τ vs)[j]? = if j < τ.length then some none else none
  | [], h => by simp at h
  | v :: vs, h => by
    rw [wipe]
    by_cases e : v = j
    · subst e
      by_cases hlt : v < τ.length
      · rw [if_pos hlt, List.getElem?_set_self (by rw [wipe_length]; exact hlt)]
      · rw [if_neg hlt, List.getElem?_eq_none (by rw [List.length_set, wipe_length]; omega)]
    · rw [List.getElem?_set_ne e]
      exact wipe_in ((List.mem_cons.mp h).elim (fun z => (e z.symm).elim) id)
theorem wipe_off {τ : L2.St} {vs W : List Nat} (of : Off W (wipe σ vs) τ) (hW : ∀ i ∈ W, i ∈ vs) : wipe τ vs = wipe σ vs := by
  refine List.ext_getElem? fun j => ?_
  have hl : τ.length = σ.length := of.len.trans (wipe_length _ _)
  by_cases hj : j ∈ vs
  · rw [wipe_in hj, wipe_in hj, hl]
  · rw [wipe_out hj, of.at_ j fun z => hj (hW j z)]
theorem lc_imp {di : DI} {dg : DG} {dc de : DE} {vs W : List Nat} {tt : TT} {Q : VK} (nd : vs.Nodup) (hW : ∀ i ∈ W, i ∈ vs) (htt : ∀ σ H Q, tTest (tR K mg dc) σ H Q → tt σ H Q) (h : tE K mg (dLc di dg dc de vs) σ H Q) :
    tLc (tI K mg di) (tG K mg W dg) tt (tE K mg de) vs σ H Q := by
  obtain ⟨F, env, S, t, env', ok, hd, q⟩ := h
  obtain ⟨⟨its, e0⟩, h1, h2⟩ := Option.bind_eq_some_iff.mp hd
  split at h2
  · rename_i hc
    obtain ⟨⟨acc, e9⟩, h3, h4⟩ := Option.map_eq_some_iff.mp h2
    cases h4
    refine ⟨F, env, S, its, e0, ok, h1, fun J F1 H1 S1 st1 ok1 good => fun D hD => ?_⟩
    have so1 := slots_ok ok1 hc
    have fD : F1 D = none := ok1.le.nn hD
    have sD : ¬ S1 D := fun z => by obtain ⟨⟨o, e⟩, _⟩ := ok1.st.dom D z; rw [hD] at e; cases e
    -- the new list
    have st2 : Stp F1 H1 Emp F1 (upd H1 D (.lst [])) (fun y => y = D) := ⟨Le.refl _, fun a o e _ => by rw [upd_ne (ne_of_none e hD)]; exact e, fun _ _ e => .inl e, fun a e => .inr (by rw [e]; exact hD)⟩
    have le2 : Le F1 (upd H1 D (.lst [])) := fun a o e => st2.kp a o (ok1.le a o e) fun z => z
    obtain ⟨Sw, okw, subw⟩ := wipe_rep ok1 vs
    have okw2 := okw.keep st2 emp_dj le2
    -- the invariant of the turns
    refine ⟨fun i m H => m = its.length - i ∧ i ≤ its.length ∧ ∃ F2 e2 S2 accV accT RA, Stp F1 (upd H1 D (.lst [])) (Cup S1 (fun y => y = D)) F2 H (Cup S2 (Cup (fun y => y = D) RA)) ∧ Ok K mg F2 H (wipe σ vs) e2 S2 ∧
      H D = some (.lst accV) ∧ F2 D = none ∧ ¬ S2 D ∧ ¬ RA D ∧ Reps K mg F2 H accV accT RA ∧ Dj S2 RA ∧ dLr dg dc de vs (its.drop i) accT e2 = some (acc, e9), ⟨its.length, rfl, Nat.zero_le _, F1, wipeT e0 vs, Sw, [], [], Emp, ?_, okw2, upd_same, fD, fun z => sD (subw _ z), fun z => z, .nil fun _ z => z, dj_emp, h3⟩, ?_⟩
    · exact Stp.refl.weak fun x z => z.elim (fun z => .inl (subw x z)) fun z => .inr (z.elim id fun z => z.elim)
    rintro i m H2 ⟨rfl, hi, F2, e2, S2, accV, accT, RA, st3, ok3, hD3, fD3, sD3, rD3, rs3, dj3, hd3⟩
    -- from the good iterator's start to here
    have stg : Stp F1 H1 S1 F2 H2 (Cup S2 (Cup (fun y => y = D) RA)) := by
      have b1 := (st2.frameL S1)
      exact (b1.big fun x z => z.elim id fun z => z.elim).trans st3
    obtain ⟨g1, g2⟩ := good i F2 H2 _ stg ok3.le
    by_cases hlt : i < its.length
    · obtain ⟨go, yl⟩ := g1 _ (List.getElem?_eq_getElem hlt)
      rw [List.drop_eq_getElem_cons hlt, dLr] at hd3
      obtain ⟨e4, h5, h6⟩ := Option.bind_eq_some_iff.mp hd3
      refine .inr ⟨go, fun H' => ∃ F2 e2 S2 accV accT RA, Stp F1 (upd H1 D (.lst [])) (Cup S1 (fun y => y = D)) F2 H' (Cup S2 (Cup (fun y => y = D) RA)) ∧ Ok K mg F2 H' (wipe σ vs) e2 S2 ∧
        H' D = some (.lst accV) ∧ F2 D = none ∧ ¬ S2 D ∧ ¬ RA D ∧ Reps K mg F2 H' accV accT RA ∧ Dj S2 RA ∧ dLr dg dc de vs (its.drop (i + 1)) accT e2 = some (acc, e9), fun H' z => ⟨its.length - (i + 1), by omega, rfl, hlt, z⟩, fun x H3 y => ?_⟩
      obtain ⟨F3, st4, le4, r4⟩ := yl x H3 y
      have ok4 := ok3.keep st4 emp_dj le4
      have rs4 := rs3.keep st4 emp_dj
      have hD4 : H3 D = some (.lst accV) := st4.kp _ _ hD3 fun z => z
      have fD4 : F3 D = none := (st4.keeps (R := fun y => y = D) (fun z e => by subst e; exact ⟨⟨_, hD3⟩, fD3⟩) emp_dj D rfl).2
      refine ⟨F3, e2, S2, Emp, its[i], e4, ok4, r4, dj_emp, h5, fun σ5 S5 ok5 sub5 of5 => ⟨?_, ?_⟩⟩
      · -- the block's slots alone were stored
        exact wipe_off of5 hW
      · have sub5' : ∀ z, S5 z → S2 z := fun z u => (sub5 z u).elim id fun u => u.elim
        have stA : Stp F1 (upd H1 D (.lst [])) (Cup S1 (fun y => y = D)) F3 H3 (Cup S5 (Cup (fun y => y = D) RA)) := by
          have b1 := (st4.frame (Cup S2 (Cup (fun y => y = D) RA))).big (R := Cup S2 (Cup (fun y => y = D) RA)) fun z u => u.elim (fun u => u.elim) id
          exact (st3.trans b1).weak fun z u => u.elim (fun u => .inr (.inl (sub5' z u))) fun u => .inr (.inr u)
        have cust : ∀ z, Cup (fun y => y = D) RA z → (∃ o, H3 z = some o) ∧ F3 z = none := fun z u => u.elim (fun e => by subst e; exact ⟨⟨_, hD4⟩, fD4⟩) fun u => rs4.dom z u
        have dj5 : Dj S5 (Cup (fun y => y = D) RA) := fun z a b => b.elim (fun e => sD3 (by rw [← e]; exact sub5' z a)) fun b => dj3 z (sub5' z a) b
        -- the wiping behind a turn
        have wp : ∀ {F6 H6 : Hp} {e6 : List T} {S6 : AS}, Ok K mg F6 H6 σ5 e6 S6 → ∃ S', Ok K mg F6 H6 (wipe σ vs) (wipeT e6 vs) S' ∧ ∀ x, S' x → S6 x := fun {F6 H6 e6 S6} ok6 => by
          obtain ⟨S', a, b⟩ := wipe_rep ok6 vs
          refine ⟨S', ?_, b⟩
          have ew : wipe σ5 vs = wipe σ vs := wipe_off of5 hW
          rw [← ew]
          exact a
        refine htt _ _ _ ?_
        split at h6
        · rename_i e6 h7
          obtain ⟨⟨t8, e8⟩, h8, h9⟩ := Option.bind_eq_some_iff.mp h6
          split at h9
          · rename_i hz
            refine ⟨F3, e4, S5, _, e6, ok5, h7, fun v F6 H6 S6 R6 st6 ok6 r6 => ⟨true, r6.lf_inv.1, iteT ?_⟩⟩
            refine ⟨F6, e6, S6, t8, e8, ok6, h8, fun y F7 H7 S7 R7 st7 ok7 r7 dj7 => ?_⟩
            have st67 : Stp F3 H3 S5 F7 H7 (Cup S7 R7) := st6.trans st7
            have k7 := st67.keeps cust dj5
            have hD7 : H7 D = some (.lst accV) := (k7 D (.inl rfl)).1.trans hD4
            have fD7 : F7 D = none := (k7 D (.inl rfl)).2
            have dj7' : Dj (Cup S7 R7) (Cup (fun y => y = D) RA) := st67.dj (fun z u => (cust z u).1) dj5
            have rs7 := rs4.keep st67 fun z a b => dj5 z a (.inr b)
            have nR7 : ¬ R7 D := fun z => dj7' D (.inr z) (.inl rfl)
            refine ⟨accV, hD7, by rw [rs7.length (S := Emp)]; exact hz, ?_⟩
            obtain ⟨S8, ok8, sub8⟩ := wp ok7
            have nS8 : ¬ S8 D := fun z => dj7' D (.inl (sub8 D z)) (.inl rfl)
            have rs8 := snoc_rep hD7 fD7 rs7 rD3 r7 (fun z a b => dj7' z (.inr b) (.inr a)) nR7
            have stw : Stp F7 H7 (fun y => y = D) F7 (upd H7 D (.lst (accV ++ [y]))) (fun y => y = D) := write_step rfl
            have ok9 := ok8.keep stw (fun z a b => nS8 (a ▸ b)) (fun a o e => by
              rw [upd_ne fun z => by rw [z, fD7] at e; cases e]
              exact ok7.le a o e)
            refine ⟨F7, _, S8, accV ++ [y], accT ++ [t8], Cup RA R7, ?_, ok9, upd_same, fD7, nS8, fun z => z.elim rD3 nR7, rs8, fun z a b => b.elim (fun b => dj7' z (.inl (sub8 z a)) (.inr b)) fun b => dj7 z (sub8 z a) b, h9⟩
            have b2 := st67.frame (Cup (fun y => y = D) RA)
            have b3 : Stp F7 H7 (Cup (Cup S7 R7) (Cup (fun y => y = D) RA)) F7 (upd H7 D (.lst (accV ++ [y]))) (Cup (Cup S7 R7) (Cup (fun y => y = D) RA)) := write_step (.inr (.inl rfl))
            refine (stA.trans (b2.trans b3)).weak fun z u => ?_
            rcases u with u | u | u | u
            · exact .inl (.inl (sub8 z u))
            · exact .inr (.inl u)
            · exact .inr (.inr u)
            · exact .inl (.inr u)
          · cases h9
        · rename_i e6 h7
          refine ⟨F3, e4, S5, _, e6, ok5, h7, fun v F6 H6 S6 R6 st6 ok6 r6 => ⟨false, r6.lf_inv.1, iteF ?_⟩⟩
          have k6 := st6.keeps cust dj5
          have dj6' : Dj S6 (Cup (fun y => y = D) RA) := st6.dj (fun z u => (cust z u).1) dj5
          obtain ⟨S8, ok8, sub8⟩ := wp ok6
          refine ⟨F6, _, S8, accV, accT, RA, ?_, ok8, (k6 D (.inl rfl)).1.trans hD4, (k6 D (.inl rfl)).2, fun z => dj6' D (sub8 D z) (.inl rfl), rD3, rs4.keep st6 fun z a b => dj5 z a (.inr b), fun z a b => dj6' z (sub8 z a) (.inr b), h6⟩
          exact (stA.trans (st6.frame (Cup (fun y => y = D) RA))).weak fun z u => u.elim (fun u => .inl (sub8 z u)) .inr
        · cases h6
    · have e : i = its.length := by omega
      subst e
      rw [List.drop_length] at hd3
      cases hd3
      refine .inl ⟨g2 (Nat.le_refl _), ?_⟩
      obtain ⟨S9, ok9, sub9⟩ := back_rep nd ok3 (so1.stay (stg.ff))
      refine q (.ref D) F2 H2 S9 (Cup (fun y => y = D) RA) ((st1.trans stg).weak fun z u => u.elim (fun u => .inl (sub9 z u)) .inr) ok9 (.own hD3 fD3 rfl rs3 rD3 fun _ => Iff.rfl) fun z a b => b.elim (fun e => sD3 (by rw [← e]; exact sub9 z a)) fun b => dj3 z (sub9 z a) b
  · cases h2
end
/-- no if -/
def dYes : DE := vr (gC (.bl true))
theorem yes_imp {K : PySem.W.Frag} {mg : Mg} (σ : L2.St) (H : Hp) (Q : Bool → Hp → Prop) (h : tTest (tR K mg dYes) σ H Q) : tYes σ H Q := by
  obtain ⟨F, env, S, t, e, ok, hd, q⟩ := h
  cases hd
  obtain ⟨k, e1, e2⟩ := q (.bl true) F H S Emp .refl ok (.lf rfl fun _ z => z)
  cases e1
  exact e2
section
variable {X : Cx} {elt tg iter c : Expr} {scope : Scope} {own : List (Str × Nat)} {pos : Pos} {W vs : List Nat} {di : DI} {dg : DG} {dc de : DE}
theorem se_lc (hc : X.calm = true) (hN : X.N.Nodup) (hi : SI X tg iter di) (ok : BlkOk X.N X.env.scope scope own) (hvs : own.map (·.2) = vs) (nd : vs.Nodup) (hW : ∀ i ∈ W, i ∈ vs)
    (hg : ∀ (s : Shared) (H : Hp) (C : Addr) (cl : List (Str × Addr)) (fp : List Addr), SG (X.blk s H scope (compEnvC scope cl C X.env) fp) tg W dg)
    (he : ∀ (s : Shared) (H : Hp) (C : Addr) (cl : List (Str × Addr)) (fp : List Addr), SE (X.blk s H scope (compEnvC scope cl C X.env) fp) elt de) (hs : ∀ x, foldedSetIterable iter X.env x = pure x := by intro _; rfl) :
    SE X (.ListComp elt [⟨tg, iter, [], 0⟩] scope pos) (dLc di dg dYes de vs) := by
  subst hvs
  exact pew (pe_lc (g := tG X.K X.mg W dg) (tt := tYes) (te := tE X.K X.mg de) hc hN hi ok hg (fun _ _ _ _ _ => pts_nil) he hs) fun _ _ _ h => lc_imp nd hW yes_imp h
theorem se_lcIf (hc : X.calm = true) (hN : X.N.Nodup) (hi : SI X tg iter di) (ok : BlkOk X.N X.env.scope scope own) (hvs : own.map (·.2) = vs) (nd : vs.Nodup) (hW : ∀ i ∈ W, i ∈ vs)
    (hg : ∀ (s : Shared) (H : Hp) (C : Addr) (cl : List (Str × Addr)) (fp : List Addr), SG (X.blk s H scope (compEnvC scope cl C X.env) fp) tg W dg)
    (ht : ∀ (s : Shared) (H : Hp) (C : Addr) (cl : List (Str × Addr)) (fp : List Addr), ST (X.blk s H scope (compEnvC scope cl C X.env) fp) c dc)
    (he : ∀ (s : Shared) (H : Hp) (C : Addr) (cl : List (Str × Addr)) (fp : List Addr), SE (X.blk s H scope (compEnvC scope cl C X.env) fp) elt de) (hs : ∀ x, foldedSetIterable iter X.env x = pure x := by intro _; rfl) :
    SE X (.ListComp elt [⟨tg, iter, [c], 0⟩] scope pos) (dLc di dg dc de vs) := by
  subst hvs
  exact pew (pe_lc (g := tG X.K X.mg W dg) (tt := tTest (tR X.K X.mg dc)) (te := tE X.K X.mg de) hc hN hi ok hg (fun s H C cl fp => pts_one (ht s H C cl fp)) he hs) fun _ _ _ h => lc_imp nd hW (fun _ _ _ z => z) h
theorem ss_setLc {i : Nat} {y : Str} {py : Pos} {spos : Pos} (hc : X.calm = true) (hN : X.N.Nodup) (hy : X.N[i]? = some y) (hyl : X.env.scope.names.lookup y = some .local)
    (hsw : swapsWith (.ListComp elt [⟨tg, iter, [], 0⟩] scope pos) (some (.Name y py)) spos.line X.env = pure true) (hi : SI X tg iter di) (ok : BlkOk X.N X.env.scope scope own) (hvs : own.map (·.2) = vs) (nd : vs.Nodup) (hW : ∀ i ∈ W, i ∈ vs)
    (hg : ∀ (s : Shared) (H : Hp) (C : Addr) (cl : List (Str × Addr)) (fp : List Addr), SG (X.blk s H scope (compEnvC scope cl C X.env) fp) tg W dg)
    (he : ∀ (s : Shared) (H : Hp) (C : Addr) (cl : List (Str × Addr)) (fp : List Addr), SE (X.blk s H scope (compEnvC scope cl C X.env) fp) elt de) (hs : ∀ x, foldedSetIterable iter X.env x = pure x := by intro _; rfl) :
    SS X (.Assign [.Name y py] (.ListComp elt [⟨tg, iter, [], 0⟩] scope pos) spos) [i] (dSet i (dLc di dg dYes de vs)) :=
  by
  subst hvs
  exact psw (ps_setLc (g := tG X.K X.mg W dg) (tt := tYes) (te := tE X.K X.mg de) hc hN hy hyl hsw hi ok hg (fun _ _ _ _ _ => pts_nil) he hs) fun D σ H h => lc_imp nd hW yes_imp (set_imp h)
theorem ss_setLcIf {i : Nat} {y : Str} {py : Pos} {spos : Pos} (hc : X.calm = true) (hN : X.N.Nodup) (hy : X.N[i]? = some y) (hyl : X.env.scope.names.lookup y = some .local)
    (hsw : swapsWith (.ListComp elt [⟨tg, iter, [c], 0⟩] scope pos) (some (.Name y py)) spos.line X.env = pure true) (hi : SI X tg iter di) (ok : BlkOk X.N X.env.scope scope own) (hvs : own.map (·.2) = vs) (nd : vs.Nodup) (hW : ∀ i ∈ W, i ∈ vs)
    (hg : ∀ (s : Shared) (H : Hp) (C : Addr) (cl : List (Str × Addr)) (fp : List Addr), SG (X.blk s H scope (compEnvC scope cl C X.env) fp) tg W dg)
    (ht : ∀ (s : Shared) (H : Hp) (C : Addr) (cl : List (Str × Addr)) (fp : List Addr), ST (X.blk s H scope (compEnvC scope cl C X.env) fp) c dc)
    (he : ∀ (s : Shared) (H : Hp) (C : Addr) (cl : List (Str × Addr)) (fp : List Addr), SE (X.blk s H scope (compEnvC scope cl C X.env) fp) elt de) (hs : ∀ x, foldedSetIterable iter X.env x = pure x := by intro _; rfl) :
    SS X (.Assign [.Name y py] (.ListComp elt [⟨tg, iter, [c], 0⟩] scope pos) spos) [i] (dSet i (dLc di dg dc de vs)) :=
  by
  subst hvs
  exact psw (ps_setLc (g := tG X.K X.mg W dg) (tt := tTest (tR X.K X.mg dc)) (te := tE X.K X.mg de) hc hN hy hyl hsw hi ok hg (fun s H C cl fp => pts_one (ht s H C cl fp)) he hs) fun D σ H h => lc_imp nd hW (fun _ _ _ z => z) (set_imp h)
end
end Tr


set_option Elab.async false
set_option linter.all false
set_option maxRecDepth 100000
set_option maxHeartbeats 4000000
/-! D10: things changed in place. -/
namespace Tr
open PySem PySem.Spec PyProof.Rows L2

section
variable (K : PySem.W.Frag) (mg : Mg)
/-- a method that changes its receiver: what it hands back, the receiver behind it -/
def OpM (r : V → List V → Hp → VK → Prop) (op : T → List T → Option (T × T)) : Prop := ∀ (F H : Hp) (x : V) (t : T) (A : AS) (vs : List V) (ts : List T) (R : AS) (res t' : T) (Q : VK), Le F H → Rep K mg F H x t A → Reps K mg F H vs ts R → Dj A R → op t ts = some (res, t') →
  (∀ v H' A' Rv, Stp F H (Cup A R) F H' (Cup A' Rv) → Le F H' → Rep K mg F H' x t' A' → Rep K mg F H' v res Rv → Dj A' Rv → Q v H') → r x vs H Q
end
/-- the receiver is a list, a dict -/
def isTy (ty : String) : T → Bool
  | .nd _ .lst _ => ty == "list"
  | .nd _ (.dK _) _ => ty == "dict"
  | _ => false
/-- x.m(..): the name in slot i is changed -/
def dMut (ty : String) (i : Nat) (op : T → List T → Option (T × T)) (da : DA) : DE := fun env => match gV i env with
  | some t0 => if isTy ty t0 = true then (da env).bind fun p => match gV i p.2 with
    | some t => (op t p.1).map fun q => (q.1, p.2.set i q.2)
    | none => none
    else none
  | none => none
section
variable {K : PySem.W.Frag} {mg : Mg} {F H : Hp} {σ : L2.St}
theorem isTy_ok {ty : String} {v : V} {t : T} {R : AS} (le : Le F H) (r : Rep K mg F H v t R) (h : isTy ty t = true) : tyV K ty v H := by
  unfold isTy at h
  split at h
  · obtain ⟨a, vs, S0, rfl, _, _, hr⟩ := r.nd_inv le
    exact .inl ⟨by simpa using h, vs, SqL.of hr⟩
  · obtain ⟨a, vs, S0, rfl, _, _, hl, hr⟩ := r.nd_inv le
    exact .inr (.inr (.inl ⟨by simpa using h, .inl ⟨_, hr⟩⟩))
  · cases h
theorem dMut_some {ty : String} {i : Nat} {op : T → List T → Option (T × T)} {da : DA} {env : List T} {res : T} {e : List T} (h : dMut ty i op da env = some (res, e)) :
    ∃ t0 ts e1 t t', gV i env = some t0 ∧ isTy ty t0 = true ∧ da env = some (ts, e1) ∧ gV i e1 = some t ∧ op t ts = some (res, t') ∧ e = e1.set i t' := by
  unfold dMut at h
  split at h
  · rename_i t0 h0
    split at h
    · rename_i hi
      obtain ⟨⟨ts, e1⟩, h1, h2⟩ := Option.bind_eq_some_iff.mp h
      split at h2
      · rename_i t h3
        obtain ⟨⟨r', t'⟩, h4, h5⟩ := Option.map_eq_some_iff.mp h2
        cases h5
        exact ⟨t0, ts, e1, t, t', h0, hi, h1, h3, h4, rfl⟩
      · cases h2
    · cases h
  · cases h
/-- the end of a change in slot i -/
theorem mut_end {r : V → List V → Hp → VK → Prop} {op : T → List T → Option (T × T)} {F0 H0 : Hp} {S0 S R : AS} {i : Nat} {e1 : List T} {ts : List T} {vs : List V} {t t' res : T} {x : V} {Q : VK} (ho : OpM K mg r op) (st : Stp F0 H0 S0 F H (Cup S R)) (ok : Ok K mg F H σ e1 S) (rs : Reps K mg F H vs ts R) (dj : Dj S R) (hx : σ[i]? = some (some x)) (ht : gV i e1 = some t) (hop : op t ts = some (res, t'))
    (q : ∀ v F' H' S' R', Stp F0 H0 S0 F' H' (Cup S' R') → Ok K mg F' H' σ (e1.set i t') S' → Rep K mg F' H' v res R' → Dj S' R' → Q v H') : r x vs H Q := by
  obtain ⟨g1, g2⟩ := gV_some ht
  obtain ⟨v, A, B, ev, rx, d, hS, rest⟩ := ok.st.slot g1 g2
  rw [hx] at ev
  cases ev
  have djAR : Dj A R := fun y a b => dj y ((hS y).mpr (.inl a)) b
  refine ho F H x t A vs ts R res t' Q ok.le rx rs djAR hop fun w H' A' Rv stm le rx' rw' dj' => ?_
  have djB : Dj (Cup A R) B := fun y a b => a.elim (fun a => d y a b) fun a => dj y ((hS y).mpr (.inr b)) a
  have kB := stm.keeps (R := B) (fun y z => ok.st.dom y ((hS y).mpr (.inr z))) djB
  have djB' : Dj (Cup A' Rv) B := stm.dj (fun y z => (ok.st.dom y ((hS y).mpr (.inr z))).1) djB
  have hn := rest F H' (some x) t' A' (Le.refl _) kB rx' fun y a b => djB' y (.inl a) b
  rw [set_self' hx] at hn
  refine q w F H' (Cup A' B) Rv ?_ ⟨le, hn⟩ rw' fun y a b => a.elim (fun a => dj' y a b) fun a => djB' y (.inr b) a
  have b1 := stm.frame B
  have b2 : Stp F H (Cup S R) F H' (Cup (Cup A' Rv) B) := b1.big fun y z => z.elim (fun z => z.elim (fun z => .inl ((hS y).mpr (.inl z))) .inr) fun z => .inl ((hS y).mpr (.inr z))
  exact (st.trans b2).weak fun y z => z.elim (fun z => z.elim (fun z => .inl (.inl z)) .inr) fun z => .inl (.inr z)
theorem mut_imp {ty : String} {i : Nat} {r : V → List V → Hp → VK → Prop} {op : T → List T → Option (T × T)} {da : DA} {bs : List (Option Nat)} {Q : VK} (ho : OpM K mg r op) (h : tE K mg (dMut ty i op da) σ H Q) : tBM K ty r (tVar i) (tA K mg bs da) σ H Q := by
  obtain ⟨F, env, S, res, e, ok, hd, q⟩ := h
  obtain ⟨t0, ts, e1, t, t', h0, hi, h1, h2, h3, rfl⟩ := dMut_some hd
  obtain ⟨g1, g2⟩ := gV_some h0
  obtain ⟨x, A, B, ev, rx, _⟩ := ok.st.slot g1 g2
  exact ⟨x, ev, isTy_ok ok.le rx hi, F, env, S, ts, e1, ok, h1, fun vs F1 H1 S1 R st ok1 rs dj bo => mut_end ho st ok1 rs dj ev h2 h3 q⟩
theorem mut0_imp {ty : String} {i : Nat} {r : V → List V → Hp → VK → Prop} {op : T → List T → Option (T × T)} {Q : VK} (ho : OpM K mg r op) (h : tE K mg (dMut ty i op aNil) σ H Q) : tBM0 K ty r (tVar i) σ H Q := by
  obtain ⟨x, ev, ty, k⟩ := mut_imp (bs := []) ho h
  obtain ⟨F, env, S, ts, e, ok, hd, q⟩ := k
  cases hd
  exact ⟨x, ev, ty, q [] F H S Emp (Stp.refl.weak fun _ z => z.elim id fun z => z.elim) ok (.nil fun _ z => z) dj_emp fun j i h => by simp at h⟩
end
section
variable {X : Cx} {x : Str} {i : Nat} {e : Expr} {es : List Expr} {name : Str} {ty id : String} {px apos cpos : Pos} {r : V → List V → Hp → VK → Prop} {op : T → List T → Option (T × T)} {da : DA} {bs : List (Option Nat)}
theorem se_mut (pa : PlainAttrs ty) (slot : Slot ty name id) (hty : typeOf (.builtin id) = pure (.type "method_descriptor")) (hm : MtR X id r) (ho : OpM X.K X.mg r op) (ha : SA X (e :: es) bs da)
    (hN : X.N[i]? = some x := by rfl) (hv : Vis X.env.scope x := by first | exact Or.inl rfl | exact Or.inr (Or.inl rfl) | exact Or.inr (Or.inr rfl)) (hd : (x == ("__debug__" : Str)) = false := by decide) (hcd : (x == ("__classdict__" : Str)) = false := by decide)
    (hbase : attributeBase (.Name x px) name X.env (eval (.Name x px) X.env) = eval (.Name x px) X.env := by rfl)
    (hfew : ((backTo cpos (starEach (e :: es) X.env)).all (fun x => !x.1) && (backToKw cpos (keywordEach [] X.env)).all (fun x => x.1.isSome)
      && decide ((e :: es).length + ([] : List Keyword).length + (if ([] : List Keyword).isEmpty then 0 else 1) < 30)) = true := by rfl)
    (hline : (apos.endLine == cpos.line) = true := by rfl) (hs : starEach (e :: es) X.env = (false, eval e X.env) :: starEach es X.env := by rfl) (hplain : (backTo cpos (starEach es X.env)).any (·.1) = false := by rfl) :
    SE X (.Call (.Attribute (.Name x px) name apos) (e :: es) [] cpos) (dMut ty i op da) := pew (pe_bm pa slot hty hm (pe_var hN hv hd hcd) ha hbase hfew hline hs hplain) fun _ _ _ h => mut_imp ho h
theorem se_mut0 (pa : PlainAttrs ty) (slot : Slot ty name id) (hty : typeOf (.builtin id) = pure (.type "method_descriptor")) (hm : MtR X id r) (ho : OpM X.K X.mg r op)
    (hN : X.N[i]? = some x := by rfl) (hv : Vis X.env.scope x := by first | exact Or.inl rfl | exact Or.inr (Or.inl rfl) | exact Or.inr (Or.inr rfl)) (hd : (x == ("__debug__" : Str)) = false := by decide) (hcd : (x == ("__classdict__" : Str)) = false := by decide)
    (hbase : attributeBase (.Name x px) name X.env (eval (.Name x px) X.env) = eval (.Name x px) X.env := by rfl) (hline : (apos.endLine == cpos.line) = true := by rfl) :
    SE X (.Call (.Attribute (.Name x px) name apos) [] [] cpos) (dMut ty i op aNil) := pew (pe_bm0 pa slot hty hm (pe_var hN hv hd hcd) hbase hline) fun _ _ _ h => mut0_imp ho h
end

/-! ### the methods of a list -/
def mAppend : T → List T → Option (T × T)
  | .nd true .lst xs, [t] => if xs.length < sizeLine then some (.lf .non, .nd true .lst (xs ++ [t])) else none
  | _, _ => none
def mExtend : T → List T → Option (T × T)
  | .nd true .lst xs, [.nd _ .lst ys] => if xs.length + ys.length ≤ sizeLine then some (.lf .non, .nd true .lst (xs ++ ys)) else none
  | _, _ => none
def mPop : T → List T → Option (T × T)
  | .nd true .lst xs, [] => (xs[xs.length - 1]?).map fun t => (t, .nd true .lst xs.dropLast)
  | _, _ => none
def mReverse : T → List T → Option (T × T)
  | .nd true .lst xs, [] => some (.lf .non, .nd true .lst xs.reverse)
  | _, _ => none
def mClear : T → List T → Option (T × T)
  | .nd true .lst _, [] => some (.lf .non, .nd true .lst [])
  | _, _ => none
section
variable {K : PySem.W.Frag} {mg : Mg} {F H : Hp}
theorem Rep.own_inv {v : V} {k : Kd} {xs : List T} {R : AS} (r : Rep K mg F H v (.nd true k xs) R) : ∃ a o vs S0, v = .ref a ∧ H a = some o ∧ F a = none ∧ Cont mg k o vs ∧ Reps K mg F H vs xs S0 ∧ ¬ S0 a ∧ ∀ x, R x ↔ x = a ∨ S0 x := by
  cases r with
  | own h1 h2 c r na hS => exact ⟨_, _, _, _, rfl, h1, h2, c, r, na, hS⟩
theorem Reps.dropLast : ∀ {vs : List V} {ts : List T} {S : AS}, Reps K mg F H vs ts S → ∀ {t : T}, ts[ts.length - 1]? = some t → ∃ v A B, vs[vs.length - 1]? = some v ∧ Rep K mg F H v t A ∧ Reps K mg F H vs.dropLast ts.dropLast B ∧ Dj A B ∧ ∀ x, S x ↔ A x ∨ B x
  | _, _, _, .nil _, _, h => by simp at h
  | _, _, S, .cons (v := v) (t := t0) (vs := vs) (ts := ts) (S1 := S1) (S2 := S2) r q d hS, t, h => by
    cases q with
    | nil hn =>
      simp at h
      subst h
      exact ⟨v, S1, Emp, rfl, r, .nil fun _ z => z, dj_emp, fun x => by
        rw [hS x]
        exact ⟨fun z => z.elim .inl fun z => (hn x z).elim, fun z => z.elim .inl fun z => z.elim⟩⟩
    | @cons v2 t2 vs2 ts2 _ S3 S4 r2 q2 d2 hS2 =>
      have hh : (t2 :: ts2)[(t2 :: ts2).length - 1]? = some t := by simpa using h
      obtain ⟨w, A, B, e1, e2, e3, e4, e5⟩ := Reps.dropLast (Reps.cons r2 q2 d2 hS2) hh
      refine ⟨w, A, Cup S1 B, by simpa using e1, e2, ?_, fun x a b => b.elim (fun b => d x b ((e5 x).mpr (.inl a))) (e4 x a), fun x => ?_⟩
      · show Reps K mg F H (v :: (v2 :: vs2).dropLast) (t0 :: (t2 :: ts2).dropLast) (Cup S1 B)
        exact .cons r e3 (fun x a b => d x a ((e5 x).mpr (.inr b))) fun _ => Iff.rfl
      · rw [hS x, e5 x]
        unfold Cup
        exact ⟨fun z => z.elim (fun z => .inr (.inl z)) fun z => z.elim .inl fun z => .inr (.inr z), fun z => z.elim (fun z => .inr (.inl z)) fun z => z.elim .inl fun z => .inr (.inr z)⟩
theorem Reps.reverse : ∀ {vs : List V} {ts : List T} {S : AS}, Reps K mg F H vs ts S → Reps K mg F H vs.reverse ts.reverse S
  | _, _, _, .nil h => .nil h
  | _, _, S, .cons (S1 := S1) (S2 := S2) r q d hS => by
    rw [List.reverse_cons, List.reverse_cons]
    have one := Reps.cons (S := S1) (S1 := S1) (S2 := Emp) r (.nil fun _ z => z) dj_emp fun x => ⟨.inl, fun z => z.elim id fun z => z.elim⟩
    exact (Reps.append one (Reps.reverse q) d.symm).iff fun x => by rw [hS x]; exact ⟨fun z => z.elim .inr .inl, fun z => z.elim .inr .inl⟩
/-- a list of one's own, written anew -/
theorem own_write {a : Addr} {o : HO} {vs : List V} {xs : List T} {S0 : AS} (le : Le F H) (h2 : F a = none) (r : Reps K mg F H vs xs S0) (na : ¬ S0 a) (o' : HO) (k : Kd) (c : Cont mg k o' vs) {R : AS} (hR : ∀ x, x = a ∨ S0 x → R x) :
    Stp F H R F (upd H a o') (Cup (fun x => x = a ∨ S0 x) Emp) ∧ Le F (upd H a o') ∧ Rep K mg F (upd H a o') (.ref a) (.nd true k xs) (fun x => x = a ∨ S0 x) := by
  refine ⟨⟨Le.refl _, fun x o e n => by rw [upd_ne fun z => n (hR x (.inl z))]; exact e, fun _ _ e => .inl e, fun x z => .inl (hR x (z.elim id fun z => z.elim))⟩, fun x o e => by
    rw [upd_ne fun z => by rw [z, h2] at e; cases e]; exact le x o e, .own upd_same h2 c (r.frame (Le.refl _) fun x z => ⟨upd_ne fun e => na (e ▸ z), (r.dom x z).2⟩) na fun _ => Iff.rfl⟩
theorem m_append : OpM K mg rAppend mAppend := by
  intro F H x t A vs ts R res t' Q le rx rs dj h q
  unfold mAppend at h
  split at h
  · rename_i xs y
    split at h
    · rename_i hl
      cases h
      obtain ⟨a, o, ws, S0, rfl, h1, h2, rfl, r, na, hA⟩ := rx.own_inv
      cases rs with
      | @cons v _ vs _ _ R1 R2 ry rn dy hR =>
        cases rn with
        | nil hn =>
          have nRa : ¬ R1 a := fun z => dj a ((hA a).mpr (.inl rfl)) ((hR a).mpr (.inl z))
          refine ⟨a, ws, v, rfl, rfl, h1, by rw [r.length (S := Emp)]; exact hl, ?_⟩
          have rn := snoc_rep h1 h2 r na ry (fun x z y => dj x ((hA x).mpr (.inr z)) ((hR x).mpr (.inl y))) nRa
          refine q .non _ (fun x => x = a ∨ Cup S0 R1 x) Emp ?_ ?_ (.own upd_same h2 rfl rn (fun z => z.elim na nRa) fun _ => Iff.rfl) (.lf rfl fun _ z => z) dj_emp
          · refine ⟨Le.refl _, fun x o e n => by rw [upd_ne fun z => n (.inl ((hA x).mpr (.inl z)))]; exact e, fun _ _ e => .inl e, fun x z => .inl ?_⟩
            rcases z with (z | z | z) | z
            · exact .inl ((hA x).mpr (.inl z))
            · exact .inl ((hA x).mpr (.inr z))
            · exact .inr ((hR x).mpr (.inl z))
            · exact z.elim
          · exact fun x o e => by rw [upd_ne fun z => by rw [z, h2] at e; cases e]; exact le x o e
    · cases h
  · cases h
theorem m_extend : OpM K mg rExtend mExtend := by
  intro F H x t A vs ts R res t' Q le rx rs dj h q
  unfold mExtend at h
  split at h
  · rename_i xs ob ys
    split at h
    · rename_i hl
      cases h
      obtain ⟨a, o, ws, S0, rfl, h1, h2, rfl, r, na, hA⟩ := rx.own_inv
      cases rs with
      | @cons v _ vs _ _ R1 R2 ry rn dy hR =>
        cases rn with
        | nil hn =>
          obtain ⟨b, zs, S1, rfl, p, hs, hb⟩ := ry.nd_inv le
          have nRa : ¬ S1 a := fun z => dj a ((hA a).mpr (.inl rfl)) ((hR a).mpr (.inl (hs a z)))
          refine ⟨a, b, ws, zs, rfl, rfl, h1, hb, by rw [r.length (S := Emp), p.length (S := Emp)]; exact hl, ?_⟩
          have rn := Reps.append p r fun x z y => dj x ((hA x).mpr (.inr z)) ((hR x).mpr (.inl (hs x y)))
          have rn' : Reps K mg F (upd H a (.lst (ws ++ zs))) (ws ++ zs) (xs ++ ys) (Cup S0 S1) := rn.frame (Le.refl _) fun x z => ⟨upd_ne fun e => z.elim (fun z => na (e ▸ z)) fun z => nRa (e ▸ z), (rn.dom x z).2⟩
          refine q .non _ (fun x => x = a ∨ Cup S0 S1 x) Emp ?_ ?_ (.own upd_same h2 rfl rn' (fun z => z.elim na nRa) fun _ => Iff.rfl) (.lf rfl fun _ z => z) dj_emp
          · refine ⟨Le.refl _, fun x o e n => by rw [upd_ne fun z => n (.inl ((hA x).mpr (.inl z)))]; exact e, fun _ _ e => .inl e, fun x z => .inl ?_⟩
            rcases z with (z | z | z) | z
            · exact .inl ((hA x).mpr (.inl z))
            · exact .inl ((hA x).mpr (.inr z))
            · exact .inr ((hR x).mpr (.inl (hs x z)))
            · exact z.elim
          · exact fun x o e => by rw [upd_ne fun z => by rw [z, h2] at e; cases e]; exact le x o e
    · cases h
  · cases h
theorem Reps.nil_inv {vs : List V} {S : AS} (r : Reps K mg F H vs [] S) : vs = [] := by cases r with | nil _ => rfl
theorem m_pop : OpM K mg rPop mPop := by
  intro F H x t A vs ts R res t' Q le rx rs dj h q
  unfold mPop at h
  split at h
  · rename_i xs
    obtain ⟨t1, e1, e2⟩ := Option.map_eq_some_iff.mp h
    cases e2
    obtain ⟨a, o, ws, S0, rfl, h1, h2, rfl, r, na, hA⟩ := rx.own_inv
    obtain rfl := rs.nil_inv
    obtain ⟨w, A1, B1, g1, g2, g3, g4, g5⟩ := r.dropLast e1
    refine ⟨a, ws, w, rfl, rfl, h1, g1, ?_⟩
    have nB : ¬ B1 a := fun z => na ((g5 a).mpr (.inr z))
    have nA : ¬ A1 a := fun z => na ((g5 a).mpr (.inl z))
    obtain ⟨k1, k2, k3⟩ := own_write (K := K) (mg := mg) (o := .lst ws) le h2 g3 nB (.lst ws.dropLast) .lst rfl (R := Cup A R) fun x z => .inl ((hA x).mpr (z.imp id fun z => (g5 x).mpr (.inr z)))
    refine q w _ (fun x => x = a ∨ B1 x) A1 ?_ k2 k3 (g2.frame (Le.refl _) fun x z => ⟨upd_ne fun e => nA (e ▸ z), (g2.dom x z).2⟩) fun x z y => z.elim (fun e => nA (e ▸ y)) fun z => g4 x y z
    exact ⟨k1.ff, k1.kp, k1.nf, fun x z => .inl (.inl ((hA x).mpr (z.elim (fun z => z.imp id fun z => (g5 x).mpr (.inr z)) fun z => .inr ((g5 x).mpr (.inl z)))))⟩
  · cases h
theorem m_reverse : OpM K mg rReverse mReverse := by
  intro F H x t A vs ts R res t' Q le rx rs dj h q
  unfold mReverse at h
  split at h
  · cases h
    obtain ⟨a, o, ws, S0, rfl, h1, h2, rfl, r, na, hA⟩ := rx.own_inv
    obtain rfl := rs.nil_inv
    obtain ⟨k1, k2, k3⟩ := own_write (K := K) (mg := mg) (o := .lst ws) le h2 r.reverse na (.lst ws.reverse) .lst rfl (R := Cup A R) fun x z => .inl ((hA x).mpr z)
    exact ⟨a, ws, rfl, rfl, h1, q .non _ _ Emp k1 k2 k3 (.lf rfl fun _ z => z) dj_emp⟩
  · cases h
theorem m_clear : OpM K mg rClear mClear := by
  intro F H x t A vs ts R res t' Q le rx rs dj h q
  unfold mClear at h
  split at h
  · cases h
    obtain ⟨a, o, ws, S0, rfl, h1, h2, rfl, r, na, hA⟩ := rx.own_inv
    obtain rfl := rs.nil_inv
    obtain ⟨k1, k2, k3⟩ := own_write (K := K) (mg := mg) (vs := []) (xs := []) (S0 := Emp) (o := .lst ws) le h2 (.nil fun _ z => z) (fun z => z) (.lst []) .lst rfl (R := Cup A R) fun x z => .inl ((hA x).mpr (.inl (z.elim id fun z => z.elim)))
    exact ⟨a, ws, rfl, rfl, h1, q .non _ _ Emp k1 k2 k3 (.lf rfl fun _ z => z) dj_emp⟩
  · cases h
end

/-! ### x[k] = e -/
def putKT : List Key → List T → Key → T → List Key × List T
  | a :: ks, x :: xs, k, t => if a = k then (a :: ks, t :: xs) else let p := putKT ks xs k t; (a :: p.1, x :: p.2)
  | _, _, k, t => ([k], [t])
def nodupK : List Key → Bool
  | [] => true
  | a :: ks => !hasK ks a && nodupK ks
def putFT : List Str → List T → Str → T → List Str × List T
  | a :: ns, x :: xs, f, t => if a = f then (a :: ns, t :: xs) else let p := putFT ns xs f t; (a :: p.1, x :: p.2)
  | _, _, f, t => ([f], [t])
/-- a list's item, a dict's, an instance's attribute is stored -/
def mSetL (k : V) : T → List T → Option (T × T)
  | .nd true .lst xs, [t] => match k with
    | .int i => (ixN xs.length i).map fun j => (.lf .non, .nd true .lst (xs.set j t))
    | _ => none
  | _, _ => none
def mSetD (k : V) : T → List T → Option (T × T)
  | .nd true (.dK ks) xs, [t] => (keyOf k).bind fun k => if ks.length < sizeLine ∧ nodupK ks = true then some (.lf .non, .nd true (.dK (putKT ks xs k t).1) (putKT ks xs k t).2) else none
  | _, _ => none
def mFld (c f : Str) : T → List T → Option (T × T)
  | .nd true (.ins c' ns) xs, [t] => if c' = c ∧ ns.length < 1000 then some (.lf .non, .nd true (.ins c' (putFT ns xs f t).1) (putFT ns xs f t).2) else none
  | _, _ => none
/-- the value, then the key, then the store in slot i -/
def dPut (i : Nat) (mk : V → T → List T → Option (T × T)) (dv : DE) (dk : DV) : DS := fun env => (dv env).bind fun p => match gV i p.2, dk p.2 with
  | some t, some (.lf k) => (mk k t [p.1]).map fun q => (.nx, p.2.set i q.2)
  | _, _ => none
section
variable {K : PySem.W.Frag} {mg : Mg} {F H : Hp} {σ : L2.St}
theorem Reps.setAt {w : V} {t : T} {R : AS} (rt : Rep K mg F H w t R) : ∀ {j : Nat} {vs : List V} {ts : List T} {S : AS}, Reps K mg F H vs ts S → Dj S R → j < ts.length → ∃ S', Reps K mg F H (vs.set j w) (ts.set j t) S' ∧ ∀ x, S' x → S x ∨ R x
  | _, _, _, _, .nil _, _, h => by simp at h
  | 0, _, _, S, .cons (S1 := S1) (S2 := S2) r q d hS, dj, h => ⟨Cup R S2, .cons rt q (fun x a b => dj x ((hS x).mpr (.inr b)) a) fun _ => Iff.rfl, fun x z => z.elim .inr fun z => .inl ((hS x).mpr (.inr z))⟩
  | j + 1, _, _, S, .cons (S1 := S1) (S2 := S2) r q d hS, dj, h => by
    obtain ⟨S', g1, g2⟩ := Reps.setAt rt q (fun x a b => dj x ((hS x).mpr (.inr a)) b) (by simpa using h)
    exact ⟨Cup S1 S', .cons r g1 (fun x a b => (g2 x b).elim (d x a) (dj x ((hS x).mpr (.inl a)))) fun _ => Iff.rfl, fun x z => z.elim (fun z => .inl ((hS x).mpr (.inl z))) fun z => (g2 x z).imp (fun z => (hS x).mpr (.inr z)) id⟩
theorem putK_cons {a k : Key} {v w : V} {kvs : List (Key × V)} (h : ¬ a = k) : putK ((a, v) :: kvs) k w = (a, v) :: putK kvs k w := by
  unfold putK
  simp only [List.any_cons, decide_eq_false h, Bool.false_or]
  split
  · simp [h]
  · rfl
theorem map_no {k : Key} {w : V} : ∀ {ks : List Key} {vs : List V}, k ∉ ks → ((ks.zip vs).map fun kv => if kv.1 = k then (kv.1, w) else kv) = ks.zip vs
  | [], _, _ => rfl
  | _ :: _, [], _ => rfl
  | a :: ks, v :: vs, h => by
    have h1 : ¬ a = k := fun e => h (by simp [e])
    have h2 : k ∉ ks := fun e => h (List.mem_cons_of_mem _ e)
    rw [List.zip_cons_cons, List.map_cons, map_no h2]
    simp [h1]
/-- the keys, each once -/
theorem putKT_rep {k : Key} {w : V} {t : T} {R : AS} (rt : Rep K mg F H w t R) : ∀ {ks : List Key} {vs : List V} {ts : List T} {S : AS}, Reps K mg F H vs ts S → Dj S R → ks.length = vs.length → ks.Nodup →
    ∃ vs' S', putK (ks.zip vs) k w = (putKT ks ts k t).1.zip vs' ∧ (putKT ks ts k t).1.length = vs'.length ∧ Reps K mg F H vs' (putKT ks ts k t).2 S' ∧ ∀ x, S' x → S x ∨ R x
  | [], _, _, S, .nil h, dj, _, _ => ⟨[w], R, rfl, rfl, .cons (S1 := R) (S2 := Emp) rt (.nil fun _ z => z) dj_emp fun x => ⟨.inl, fun z => z.elim id fun z => z.elim⟩, fun x z => .inr z⟩
  | _ :: _, _, _, _, .nil _, _, h, _ => by simp at h
  | [], _, _, _, .cons .., _, h, _ => by simp at h
  | a :: ks, _, _, S, .cons (v := v) (t := t0) (vs := vs) (ts := ts) (S1 := S1) (S2 := S2) r q d hS, dj, hl, nd => by
    have nd' := List.nodup_cons.mp nd
    by_cases e : a = k
    · subst e
      have ek : putKT (a :: ks) (t0 :: ts) a t = (a :: ks, t :: ts) := by rw [putKT, if_pos rfl]
      rw [ek]
      refine ⟨w :: vs, Cup R S2, ?_, hl, .cons rt q (fun x a b => dj x ((hS x).mpr (.inr b)) a) fun _ => Iff.rfl, fun x z => z.elim .inr fun z => .inl ((hS x).mpr (.inr z))⟩
      unfold putK
      rw [List.zip_cons_cons, List.any_cons, decide_eq_true rfl, Bool.true_or, if_pos rfl, List.map_cons, if_pos rfl, map_no nd'.1]
      rfl
    · have ek : putKT (a :: ks) (t0 :: ts) k t = (a :: (putKT ks ts k t).1, t0 :: (putKT ks ts k t).2) := by rw [putKT, if_neg e]
      rw [ek]
      obtain ⟨vs', S', g1, g2, g3, g4⟩ := putKT_rep rt q (fun x a b => dj x ((hS x).mpr (.inr a)) b) (by simpa using hl) nd'.2
      refine ⟨v :: vs', Cup S1 S', ?_, by simp [g2], .cons r g3 (fun x a b => (g4 x b).elim (d x a) (dj x ((hS x).mpr (.inl a)))) fun _ => Iff.rfl, fun x z => z.elim (fun z => .inl ((hS x).mpr (.inl z))) fun z => (g4 x z).imp (fun z => (hS x).mpr (.inr z)) id⟩
      rw [List.zip_cons_cons, putK_cons e, g1]
      rfl
theorem nodupK_ok : ∀ {ks : List Key}, nodupK ks = true → ks.Nodup
  | [], _ => .nil
  | a :: ks, h => by
    simp only [nodupK, Bool.and_eq_true, Bool.not_eq_true'] at h
    refine List.nodup_cons.mpr ⟨fun z => ?_, nodupK_ok h.2⟩
    have : hasK ks a = true := List.any_eq_true.mpr ⟨a, z, by simp⟩
    rw [h.1] at this
    cases this
theorem putF_zip {f : Str} {w : V} {t : T} {R : AS} (rt : Rep K mg F H w t R) : ∀ {ns : List Str} {vs : List V} {ts : List T} {S : AS}, Reps K mg F H vs ts S → Dj S R → ns.length = vs.length →
    ∃ vs' S', putF f w (ns.zip vs) = (putFT ns ts f t).1.zip vs' ∧ (putFT ns ts f t).1.length = vs'.length ∧ Reps K mg F H vs' (putFT ns ts f t).2 S' ∧ ∀ x, S' x → S x ∨ R x
  | [], _, _, S, .nil h, dj, _ => ⟨[w], R, rfl, rfl, .cons (S1 := R) (S2 := Emp) rt (.nil fun _ z => z) dj_emp fun x => ⟨.inl, fun z => z.elim id fun z => z.elim⟩, fun x z => .inr z⟩
  | _ :: _, _, _, _, .nil _, _, h => by simp at h
  | [], _, _, _, .cons .., _, h => by simp at h
  | a :: ns, _, _, S, .cons (v := v) (t := t0) (vs := vs) (ts := ts) (S1 := S1) (S2 := S2) r q d hS, dj, hl => by
    by_cases e : a = f
    · have ek : putFT (a :: ns) (t0 :: ts) f t = (a :: ns, t :: ts) := by rw [putFT, if_pos e]
      rw [ek]
      refine ⟨w :: vs, Cup R S2, ?_, hl, .cons rt q (fun x a b => dj x ((hS x).mpr (.inr b)) a) fun _ => Iff.rfl, fun x z => z.elim .inr fun z => .inl ((hS x).mpr (.inr z))⟩
      rw [List.zip_cons_cons, putF, if_pos e]
      rw [List.zip_cons_cons]
    · have ek : putFT (a :: ns) (t0 :: ts) f t = (a :: (putFT ns ts f t).1, t0 :: (putFT ns ts f t).2) := by rw [putFT, if_neg e]
      rw [ek]
      obtain ⟨vs', S', g1, g2, g3, g4⟩ := putF_zip rt q (fun x a b => dj x ((hS x).mpr (.inr a)) b) (by simpa using hl)
      refine ⟨v :: vs', Cup S1 S', ?_, by simp [g2], .cons r g3 (fun x a b => (g4 x b).elim (d x a) (dj x ((hS x).mpr (.inl a)))) fun _ => Iff.rfl, fun x z => z.elim (fun z => .inl ((hS x).mpr (.inl z))) fun z => (g4 x z).imp (fun z => (hS x).mpr (.inr z)) id⟩
      rw [List.zip_cons_cons, putF, if_neg e, g1]
      rw [List.zip_cons_cons]
/-- the end of a write: a node of one's own with new parts -/
theorem write_end {a : Addr} {k : Kd} {o' : HO} {vs' : List V} {xs' : List T} {A R S0 S' : AS} {Q : VK} {t' : T} (le : Le F H) (h2 : F a = none) (hA : ∀ x, A x ↔ x = a ∨ S0 x) (na : ¬ S0 a) (nR : ¬ R a) (r : Reps K mg F H vs' xs' S') (hs : ∀ x, S' x → S0 x ∨ R x) (c : Cont mg k o' vs') (et : t' = .nd true k xs')
    (q : ∀ v H' A' Rv, Stp F H (Cup A R) F H' (Cup A' Rv) → Le F H' → Rep K mg F H' (.ref a) t' A' → Rep K mg F H' v (.lf .non) Rv → Dj A' Rv → Q v H') : Q .non (upd H a o') := by
  subst et
  have na' : ¬ S' a := fun z => (hs a z).elim na nR
  refine q .non _ (fun x => x = a ∨ S' x) Emp ?_ ?_ (.own upd_same h2 c (r.frame (Le.refl _) fun x z => ⟨upd_ne fun e => na' (e ▸ z), (r.dom x z).2⟩) na' fun _ => Iff.rfl) (.lf rfl fun _ z => z) dj_emp
  · refine ⟨Le.refl _, fun x o e n => by rw [upd_ne fun z => n (.inl ((hA x).mpr (.inl z)))]; exact e, fun _ _ e => .inl e, fun x z => .inl ?_⟩
    rcases z with (z | z) | z
    · exact .inl ((hA x).mpr (.inl z))
    · exact (hs x z).elim (fun z => .inl ((hA x).mpr (.inr z))) .inr
    · exact z.elim
  · exact fun x o e => by rw [upd_ne fun z => by rw [z, h2] at e; cases e]; exact le x o e
def rSetLM (k : V) : V → List V → Hp → VK → Prop := fun x vs H Q => ∃ v, vs = [v] ∧ rSetL x k v H fun H' => Q .non H'
def rSetDM (k : V) : V → List V → Hp → VK → Prop := fun x vs H Q => ∃ v a H4, vs = [v] ∧ x = .ref a ∧ DPut H a k v H4 ∧ Q .non H4
def rFldM (K : PySem.W.Frag) (f : Str) : V → List V → Hp → VK → Prop := fun x vs H Q => ∃ v a C dx fs, vs = [v] ∧ x = .ref a ∧ H a = some (.ins C dx fs) ∧ Cls K C ∧ NoAttr K C f ∧ fs.length < 1000 ∧ Q .non (upd H a (.ins C dx (putF f v fs)))
theorem m_setL (k : V) : OpM K mg (rSetLM k) (mSetL k) := by
  intro F H x t A vs ts R res t' Q le rx rs dj h q
  unfold mSetL at h
  split at h
  · rename_i xs y
    split at h
    · obtain ⟨j, e1, e2⟩ := Option.map_eq_some_iff.mp h
      cases e2
      obtain ⟨a, o, ws, S0, rfl, h1, h2, rfl, r, na, hA⟩ := rx.own_inv
      cases rs with
      | @cons v _ vs _ _ R1 R2 ry rn dy hR =>
        cases rn with
        | nil hn =>
          have hj := (ixN_seq e1).2.1
          have nRa : ¬ R1 a := fun z => dj a ((hA a).mpr (.inl rfl)) ((hR a).mpr (.inl z))
          obtain ⟨S', g1, g2⟩ := Reps.setAt ry r (fun x z y => dj x ((hA x).mpr (.inr z)) ((hR x).mpr (.inl y))) hj
          refine ⟨v, rfl, a, ws, _, j, rfl, rfl, h1, by rw [r.length (S := Emp)]; exact e1, ?_⟩
          exact write_end (k := .lst) (vs' := ws.set j v) (xs' := xs.set j y) (S' := S') (R := R) le h2 hA na (fun z => nRa (((hR a).mp z).elim id fun z => (hn a z).elim)) g1 (fun x z => (g2 x z).imp id fun z => (hR x).mpr (.inl z)) rfl rfl q
    · cases h
  · cases h
theorem m_setD (k : V) : OpM K mg (rSetDM k) (mSetD k) := by
  intro F H x t A vs ts R res t' Q le rx rs dj h q
  unfold mSetD at h
  split at h
  · rename_i ks xs y
    obtain ⟨k', e1, h⟩ := Option.bind_eq_some_iff.mp h
    split at h
    · rename_i hc
      cases h
      obtain ⟨a, o, ws, S0, rfl, h1, h2, ⟨hl, rfl⟩, r, na, hA⟩ := rx.own_inv
      cases rs with
      | @cons v _ vs _ _ R1 R2 ry rn dy hR =>
        cases rn with
        | nil hn =>
          have nRa : ¬ R1 a := fun z => dj a ((hA a).mpr (.inl rfl)) ((hR a).mpr (.inl z))
          obtain ⟨vs', S', g1, g2, g3, g4⟩ := putKT_rep (k := k') ry r (fun x z y => dj x ((hA x).mpr (.inr z)) ((hR x).mpr (.inl y))) hl (nodupK_ok hc.2)
          refine ⟨v, a, _, rfl, rfl, .inl ⟨_, k', h1, keyOf_some e1, by rw [List.length_zip, ← hl, Nat.min_self]; exact hc.1, rfl⟩, ?_⟩
          exact write_end (k := .dK (putKT ks xs k' y).1) (vs' := vs') (S' := S') (R := R) le h2 hA na (fun z => nRa (((hR a).mp z).elim id fun z => (hn a z).elim)) g3 (fun x z => (g4 x z).imp id fun z => (hR x).mpr (.inl z)) ⟨g2, by rw [g1]⟩ rfl q
    · cases h
  · cases h
theorem m_fld {c f : Str} {C : Addr} (hc : mg c = some (.ref C)) (cl : Cls K C) (nA : NoAttr K C f) : OpM K mg (rFldM K f) (mFld c f) := by
  intro F H x t A vs ts R res t' Q le rx rs dj h q
  unfold mFld at h
  split at h
  · rename_i c' ns xs y
    split at h
    · rename_i hcc
      cases h
      obtain ⟨e0, hlen⟩ := hcc
      subst e0
      obtain ⟨a, o, ws, S0, rfl, h1, h2, ⟨hl, C', dx, rfl, hm⟩, r, na, hA⟩ := rx.own_inv
      rw [hc] at hm
      cases hm
      cases rs with
      | @cons v _ vs _ _ R1 R2 ry rn dy hR =>
        cases rn with
        | nil hn =>
          have nRa : ¬ R1 a := fun z => dj a ((hA a).mpr (.inl rfl)) ((hR a).mpr (.inl z))
          obtain ⟨vs', S', g1, g2, g3, g4⟩ := putF_zip (f := f) ry r (fun x z y => dj x ((hA x).mpr (.inr z)) ((hR x).mpr (.inl y))) hl
          refine ⟨v, a, C, dx, _, rfl, rfl, h1, cl, nA, by rw [List.length_zip, ← hl, Nat.min_self]; exact hlen, ?_⟩
          exact write_end (k := .ins c' (putFT ns xs f y).1) (vs' := vs') (S' := S') (R := R) le h2 hA na (fun z => nRa (((hR a).mp z).elim id fun z => (hn a z).elim)) g3 (fun x z => (g4 x z).imp id fun z => (hR x).mpr (.inl z)) ⟨g2, C, dx, by rw [g1], hc⟩ rfl q
    · cases h
  · cases h
/-- the store at the end -/
theorem put_imp {D : Ends} {i : Nat} {mk : V → T → List T → Option (T × T)} {r : V → V → List V → Hp → VK → Prop} {dv : DE} {dk : DV} (ho : ∀ k, OpM K mg (r k) (mk k)) (h : tS K mg [] (dPut i mk dv dk) D σ H) :
    tE K mg dv σ H fun v H1 => ∃ x, σ[i]? = some (some x) ∧ tV K mg dk σ H1 fun k H2 => r k x [v] H2 fun _ H3 => D.nx σ H3 := by
  obtain ⟨F, env, S, rr, env', ok, hd, q⟩ := h
  obtain ⟨⟨t, e⟩, h1, h2⟩ := Option.bind_eq_some_iff.mp hd
  split at h2
  · rename_i t0 k h3 h4
    obtain ⟨⟨res, t'⟩, h5, h6⟩ := Option.map_eq_some_iff.mp h2
    cases h6
    refine ⟨F, env, S, t, e, ok, h1, fun v F1 H1 S1 R1 st1 ok1 r1 dj1 => ?_⟩
    obtain ⟨g1, g2⟩ := gV_some h3
    obtain ⟨x, A, B, ev, rx, _⟩ := ok1.st.slot g1 g2
    refine ⟨x, ev, F1, e, S1, .lf k, ok1, h4, fun w R2 rw' => ?_⟩
    obtain ⟨rfl, _, _⟩ := rw'.lf_inv
    have rs : Reps K mg F1 H1 [v] [t] R1 := .cons (S1 := R1) (S2 := Emp) r1 (.nil fun _ z => z) dj_emp fun x => ⟨.inl, fun z => z.elim id fun z => z.elim⟩
    exact mut_end (ho w) st1 ok1 rs dj1 ev h3 h5 fun v' F' H' S' R' st ok' _ _ => q.now (st.weak fun _ z => .inl z) ok' .refl
  · cases h2
end
section
variable {X : Cx} {x : Str} {i : Nat} {k value : Expr} {px pos pos' : Pos} {dv : DE} {dk : DV}
theorem ss_setL (hv : SE X value dv) (hk : SV X k dk) (hN : X.N[i]? = some x := by rfl) (hvis : Vis X.env.scope x := by first | exact Or.inl rfl | exact Or.inr (Or.inl rfl) | exact Or.inr (Or.inr rfl)) (hd : (x == ("__debug__" : Str)) = false := by decide) (hcd : (x == ("__classdict__" : Str)) = false := by decide)
    (ha : ∀ v, assign (.Subscript (.Name x px) k pos) X.env v = (do
      let ov ← holding [v] (eval (.Name x px) X.env)
      let iv ← holding [v, ov] (eval k X.env)
      standAt pos
      holding [v, ov, iv] (setItem ov iv v)
      release [v, ov, iv] []) := by intro _; rfl) (hs : swapsWithSole [.Subscript (.Name x px) k pos] value pos'.line X.env = pure false := by rfl) (hw : swappedStores [.Subscript (.Name x px) k pos] value X.env = pure none := by rfl)
    (h1 : (assignEach [.Subscript (.Name x px) k pos] X.env).map (·.2) = [assign (.Subscript (.Name x px) k pos) X.env] := by rfl) :
    SS X (.Assign [.Subscript (.Name x px) k pos] value pos') [] (dPut i mSetL dv dk) :=
  psw (ps_asg hv (pg_sub (pe_var hN hvis hd hcd) hk set_list ha) hs hw h1) fun D σ H h => by
    obtain ⟨F, env, S, t, e, ok, hd, q⟩ := put_imp (r := rSetLM) (fun k => m_setL k) h
    exact ⟨F, env, S, t, e, ok, hd, fun v F' H' S' R a b c d => by
      obtain ⟨x, e1, F2, en2, S2, t2, ok2, hd2, q2⟩ := q v F' H' S' R a b c d
      exact ⟨x, e1, F2, en2, S2, t2, ok2, hd2, fun w R' r' => by
        obtain ⟨v', e3, q3⟩ := q2 w R' r'
        cases e3
        exact q3⟩⟩
theorem ss_setD (hu : X.A.units + 1 < cLine) (hv : SE X value dv) (hk : SV X k dk) (hN : X.N[i]? = some x := by rfl) (hvis : Vis X.env.scope x := by first | exact Or.inl rfl | exact Or.inr (Or.inl rfl) | exact Or.inr (Or.inr rfl)) (hd : (x == ("__debug__" : Str)) = false := by decide) (hcd : (x == ("__classdict__" : Str)) = false := by decide)
    (hs : swapsWith value (some (.Subscript (.Name x px) k pos)) pos'.line X.env = pure false := by rfl) :
    SS X (.Assign [.Subscript (.Name x px) k pos] value pos') [] (dPut i mSetD dv dk) :=
  psw (ps_dput hu (pe_var hN hvis hd hcd) hk hv hs) fun D σ H h => by
    obtain ⟨F, env, S, t, e, ok, hd, q⟩ := put_imp (r := rSetDM) (fun k => m_setD k) h
    exact ⟨F, env, S, t, e, ok, hd, fun v F' H' S' R a b c d => by
      obtain ⟨x, e1, F2, en2, S2, t2, ok2, hd2, q2⟩ := q v F' H' S' R a b c d
      exact ⟨x, e1, F2, en2, S2, t2, ok2, hd2, fun w R' r' => by
        obtain ⟨v', a', H4, e3, e4, e5, q3⟩ := q2 w R' r'
        cases e3
        exact ⟨a', H4, e4, e5, q3⟩⟩⟩
theorem ss_fld {c f : Str} {C : Addr} (hc : X.mg c = some (.ref C)) (cl : Cls X.K C) (nA : NoAttr X.K C f) (hv : SE X value dv) (hN : X.N[i]? = some x := by rfl) (hvis : Vis X.env.scope x := by first | exact Or.inl rfl | exact Or.inr (Or.inl rfl) | exact Or.inr (Or.inr rfl)) (hd : (x == ("__debug__" : Str)) = false := by decide) (hcd : (x == ("__classdict__" : Str)) = false := by decide)
    (hs : swapsWith value (some (.Attribute (.Name x px) f pos)) pos'.line X.env = pure false := by rfl) :
    SS X (.Assign [.Attribute (.Name x px) f pos] value pos') [] (dPut i (fun _ => mFld c f) dv (gC .non)) :=
  psw (ps_fld (pe_var hN hvis hd hcd) hv hs) fun D σ H h => by
    obtain ⟨F, env, S, t, e, ok, hd, q⟩ := put_imp (r := fun _ => rFldM X.K f) (fun _ => m_fld hc cl nA) h
    exact ⟨F, env, S, t, e, ok, hd, fun v F' H' S' R a b c d => by
      obtain ⟨x, e1, q2⟩ := q v F' H' S' R a b c d
      obtain ⟨F2, en2, S2, t2, ok2, hd2, q2⟩ := q2
      cases hd2
      obtain ⟨v', a', C', dx, fs, e3, e4, e5, e6, e7, e8, q3⟩ := q2 .non Emp (.lf rfl fun _ z => z)
      cases e3
      exact ⟨x, e1, a', C', dx, fs, e4, e5, e6, e7, e8, q3⟩⟩
/-- a, b = e -/
theorem ss_asg {tg : Expr} {W : List Nat} {dg : DG} (hv : SE X value dv) (hg : SG X tg W dg) (hs : swapsWithSole [tg] value pos.line X.env = pure false := by rfl) (hw : swappedStores [tg] value X.env = pure none := by rfl)
    (h1 : (assignEach [tg] X.env).map (·.2) = [assign tg X.env] := by rfl) : SS X (.Assign [tg] value pos) W (fun env => (dv env).bind fun p => (dg p.1 p.2).map fun e => (.nx, e)) :=
  psw (ps_asg hv hg hs hw h1) fun D σ H ⟨F, env, S, r, env', ok, hd, q⟩ => by
    obtain ⟨⟨t, e⟩, h1, h2⟩ := Option.bind_eq_some_iff.mp hd
    obtain ⟨e', h3, h4⟩ := Option.map_eq_some_iff.mp h2
    cases h4
    exact ⟨F, env, S, t, e, ok, h1, fun v F1 H1 S1 R1 st1 ok1 r1 dj1 => ⟨F1, e, S1, R1, t, _, ok1, r1, dj1, h3, fun σ' S' ok' sub of => q.now (st1.weak sub) ok' of⟩⟩
/-- x += e, of whole numbers, of texts -/
def dAug (i : Nat) (o : T → T → Option T) (d : DE) : DS := fun env => match gV i env with
  | some t => if cln t = true then (d env).bind fun p => (o t p.1).bind fun u => if cln u = true then some (.nx, p.2.set i u) else none else none
  | none => none
theorem ss_aug {op : Operator} {r : R2} {o : T → T → Option T} (hN : X.N.Nodup) (hi : X.N[i]? = some x) (hx : Loc X.env.scope x) (he : SE X value dv) (ho : OpR X (inplaceOp op) r) (hv : Op2V X.K X.mg r o) (hf : X.fn x = true ∨ X.env.scope.names.lookup x = some .local := by first | exact .inl rfl | exact .inr rfl | assumption) :
    SS X (.AugAssign (.Name x px) op value pos) [i] (dAug i o dv) :=
  psw (ps_aug (ti := r) hN hi hx he (fun pins s σ H x y v u Q I rx ry h => ho pins s σ H x y v u Q I rx ry h) hf) fun D σ H ⟨F, env, S, rr, env', ok, hd, q⟩ => by
    unfold dAug at hd
    split at hd
    · rename_i t h0
      split at hd
      · rename_i hc
        obtain ⟨⟨y, e⟩, h1, h2⟩ := Option.bind_eq_some_iff.mp hd
        obtain ⟨u, h3, h4⟩ := Option.bind_eq_some_iff.mp h2
        split at h4
        · rename_i hcu
          cases h4
          obtain ⟨g1, g2⟩ := gV_some h0
          obtain ⟨w, A, B, ev, rx, _⟩ := ok.st.slot g1 g2
          refine ⟨w, ev, F, env, S, y, e, ok, h1, fun v F1 H1 S1 R1 st1 ok1 r1 dj1 => ?_⟩
          have hie : i < e.length := by
            have := ok.st.length
            have := ok1.st.length
            have := (List.getElem?_eq_some_iff.mp ev).1
            omega
          refine hv F1 H1 w v t y Emp R1 u _ ok1.le (rx.stay st1.ff hc) r1 h3 fun z R' rz => ?_
          obtain ⟨S2, ok2, sub⟩ := store_ok' ok1 (rz.clean0 hcu) dj_emp hie
          exact q.now (st1.weak fun x z => .inl ((sub x z).elim id fun z => z.elim)) ok2 Off.set
        · cases h4
      · cases hd
    · cases hd
end
end Tr


set_option Elab.async false
set_option linter.all false
set_option maxRecDepth 100000
set_option maxHeartbeats 4000000
/-! D11: a walk over a list that a name lends; the law's end. -/
namespace Tr
open PySem PySem.Spec PyProof.Rows L2

/-- the things, none owned -/
def itemsC : T → Option (List T)
  | .nd _ .lst xs => if clns xs = true then some xs else none
  | .nd _ .rol xs => if clns xs = true then some xs else none
  | _ => none
def dForL (i : Nat) (dg : DG) (d : DS) : DS := fun env => match gV i env with
  | some t0 => match itemsC t0 with
    | some its => match dFr dg d its (env.set i .no) with
      | some (r, e) => match e[i]? with
        | some .no => some (r, e.set i t0)
        | _ => none
      | none => none
    | none => none
  | none => none
section
variable {K : PySem.W.Frag} {mg : Mg} {D : Ends} {σ σ' : L2.St} {H H' F F' : Hp} {S S' R : AS} {W1 W2 : List Nat} {env env' : List T} {r : Fl}
theorem itemsC_some {t : T} {its : List T} (h : itemsC t = some its) : ∃ o k, t = .nd o k its ∧ clns its = true ∧ ∀ (K : PySem.W.Frag) (mg : Mg) (H : Hp) (a : Addr) (vs : List V), Here K mg H a k vs → SqL K H a vs := by
  unfold itemsC at h
  split at h
  · split at h
    · cases h; exact ⟨_, _, rfl, by assumption, fun _ _ _ _ _ z => SqL.of z⟩
    · cases h
  · split at h
    · cases h; exact ⟨_, _, rfl, by assumption, fun _ _ _ _ _ z => z⟩
    · cases h
  · cases h
theorem forL_imp {i : Nat} {dg : DG} {d : DS} (hi : i ∉ W1 ++ W2) (h : tS K mg (W1 ++ W2) (dForL i dg d) D σ H) : tFor (iList K (tVar i)) (tG K mg W1 dg) (tS K mg W2 d) D σ H := by
  obtain ⟨F, env, S, r, env', ok, hd, q⟩ := h
  unfold dForL at hd
  split at hd
  · rename_i t0 h0
    split at hd
    · rename_i its h1
      split at hd
      · rename_i r' e h2
        split at hd
        · rename_i h3
          cases hd
          obtain ⟨g1, g2⟩ := gV_some h0
          obtain ⟨v, A, B, ev, rv, dAB, hS, rest⟩ := ok.st.slot g1 g2
          obtain ⟨o, k, rfl, hc, hk⟩ := itemsC_some h1
          have hB : ∀ x, B x → (∃ o, H x = some o) ∧ F x = none := fun x z => ok.st.dom x ((hS x).mpr (.inr z))
          obtain ⟨a, vs, S0, rfl, p, hs, hr⟩ := rv.stays (S := B) ok.le dAB.symm fun x z => (hB x z).2
          have okB : Ok K mg F H σ (env.set i .no) (Cup Emp B) := ⟨ok.le, by
            have := rest F H (some (.ref a)) .no Emp (Le.refl _) (fun y z => ⟨rfl, (hB y z).2⟩) (.no fun _ z => z) emp_dj
            rwa [set_self' ev] at this⟩
          have okB' : Ok K mg F H σ (env.set i .no) B := ⟨okB.le, okB.st.iff fun x => ⟨.inr, fun z => z.elim (fun z => z.elim) id⟩⟩
          refine ⟨.ref a, ev, a, rfl, ⟨vs, hk _ _ _ _ _ (hr F H B .refl ok.le)⟩, ?_⟩
          have good : Good K mg its (Itl K a) F H B := good_list (p.clean0 hc) fun F2 H2 S2 s l => hk _ _ _ _ _ (hr F2 H2 S2 s l)
          refine for_core good okB' h2 fun F' H' S' R σ' st ok' of dj => ?_
          have e' : σ'[i]? = some (some (.ref a)) := (of.at_ i hi).trans ev
          have rv' := rv.keep st dAB.symm
          have djA : Dj (Cup S' R) A := st.dj (fun x z => (rv.dom x z).1) dAB.symm
          obtain ⟨s, A2, B2, k1, k2, k3, k4, rest2⟩ := ok'.st.split h3
          rw [e'] at k1
          cases k1
          have hn := rest2 F' H' (some (.ref a)) (.nd o k its) A (Le.refl _) (fun y z => ⟨rfl, (ok'.st.dom y ((k4 y).mpr (.inr z))).2⟩) rv' fun y z u => djA y (.inl ((k4 y).mpr (.inr u))) z
          rw [set_self' e'] at hn
          refine q F' H' (Cup A B2) R σ' ?_ ⟨ok'.le, hn⟩ of fun y z u => z.elim (fun z => djA y (.inr u) z) fun z => dj y ((k4 y).mpr (.inr z)) u
          have b1 := st.frameL A
          exact (b1.big fun y z => (hS y).mpr z).weak fun y z => z.elim (fun z => z.elim .inl fun z => .inr (.inl ((k4 y).mpr (.inr z)))) fun z => .inr (.inr z)
        · cases hd
      · cases hd
    · cases hd
  · cases hd
theorem ss_forL {X : Cx} {tg : Expr} {x : Str} {i : Nat} {px : Pos} {body : List Stmt} {dg : DG} {d : DS} {pos : Pos} (hi : i ∉ W1 ++ W2) (hp : PassesOwn (model X.prog X.w) X.A X.env X.xe) (hc : X.calm = true) (hg : SG X tg W1 dg) (hb : SSs X body W2 d)
    (hN : X.N[i]? = some x := by rfl) (hvis : Vis X.env.scope x := by first | exact Or.inl rfl | exact Or.inr (Or.inl rfl) | exact Or.inr (Or.inr rfl)) (hd : (x == ("__debug__" : Str)) = false := by decide) (hcd : (x == ("__classdict__" : Str)) = false := by decide)
    (hs : ∀ y, foldedSetIterable (.Name x px) X.env y = pure y := by intro _; rfl) : SS X (.For tg (.Name x px) body [] pos) (W1 ++ W2) (dForL i dg d) :=
  psw (ps_for hp hc (pi_list (pe_var hN hvis hd hcd)) hg hb hs) fun _ _ _ => forL_imp hi
end

/-! ### the law's own end -/
def scrT (ns : List Int) : T := .nd false .rol (ns.map lfI)
/-- what the law's row asks -/
def spLaw (K : PySem.W.Frag) : Sp := fun vs H Q _ => ∃ (a : Addr) (ns : List Int), vs = [.ref a] ∧ SqL K H a (ns.map V.int) ∧ ns.length ≤ 63 ∧ ∀ H', Q (.bl true) H'
theorem law_imp {K : PySem.W.Frag} {mg : Mg} {f : FT} (hf : ∀ ns : List Int, ns.length ≤ 63 → ∃ ts, f [scrT ns] = some (.lf (.bl true), ts)) : ∀ vs H Q E, spLaw K vs H Q E → spD K mg 1 f vs H Q E := by
  rintro vs H Q E ⟨a, ns, rfl, hS, hl, q⟩
  obtain ⟨ts, h⟩ := hf ns hl
  refine ⟨rfl, H, Emp, [scrT ns], _, ts, Le.refl _, .cons (S1 := Emp) (S2 := Emp) (.rol hS (ints_reps ns)) (.nil fun _ z => z) dj_emp fun x => ⟨fun z => z.elim, fun z => z.elim id id⟩, h, fun v F' H' R S' _ _ r _ _ => ?_⟩
  rw [r.lf_inv.1]
  exact q H'
/-- a def with defaults -/
theorem ok_defD {P : Program} {w : World} {K : PySem.W.Frag} {mg : Mg} {base : Heap} {n : Nat} {x qual : Str} {params : Arguments} {body : List Stmt} {scope : Scope} {dvs : List V} {kws : List (Str × V)} {f : Addr} {fd : FuncData} {N ps : List Str} {k : Nat} {W : List Nat} {d : DS} {keep : List Bool} (F : FunD K x qual params body scope dvs kws f fd) (S : FnScope N ps scope) (hk : keep.length = ps.length) (hN : N.length = n) (hW : ∀ i ∈ W, keep[i]? ≠ some true)
    (hb : ∀ (cdv : Value) (A : Around) (outer : List Env) (s : Shared) (H : Hp) (E : XK), Room k (A.deeper (envOfC qual scope s.heap.objs.size f cdv)) →
      SSs (cxOf CX0 P w K mg base N qual scope f cdv A outer s H E).nox body W d) : FnOk P w K mg base CX0 (k + 1) f fd ps (spD K mg ps.length (dFun keep n d)) := by
  refine F.ok S (fun vs H Q E h => h.1) (fun cdv A outer s H vs Q E hr h => ?_)
  exact ⟨_, PSs.nox (hb cdv A outer s H E hr), def_end hk hN hW h⟩

/-! ### the first operand a name, the second one anything -/
def o2n (o : T → T → Option T) (i : Nat) (db : DE) : DE := fun env => (gV i env).bind fun _ => (db env).bind fun q => (gV i q.2).bind fun t => (o t q.1).map fun u => (u, q.2)
section
variable {K : PySem.W.Frag} {mg : Mg} {σ : L2.St} {H : Hp} {Q : VK} {p : T → T → Option T} {db : DE} {r : R2} {i : Nat}
theorem o2n_some {env : List T} {t : T} {e : List T} (h : o2n p i db env = some (t, e)) : ∃ x0 y x, gV i env = some x0 ∧ db env = some (y, e) ∧ gV i e = some x ∧ p x y = some t := by
  obtain ⟨x0, h1, h2⟩ := Option.bind_eq_some_iff.mp h
  obtain ⟨⟨y, e2⟩, h3, h4⟩ := Option.bind_eq_some_iff.mp h2
  obtain ⟨x, h5, h6⟩ := Option.bind_eq_some_iff.mp h4
  obtain ⟨u, h7, h8⟩ := Option.map_eq_some_iff.mp h6
  cases h8
  exact ⟨x0, y, x, h1, h3, h5, h7⟩
theorem i2n (h : Op2V K mg r p) (q : tR K mg (o2n p i db) σ H Q) : tOp r (tVar i) (tR K mg db) σ H Q := by
  obtain ⟨F, env, S, t, env', ok, hd, q⟩ := q
  obtain ⟨x0, y, x, h1, h2, h3, h4⟩ := o2n_some hd
  obtain ⟨g1, g2⟩ := gV_some h1
  obtain ⟨v, A, B, ev, _⟩ := ok.st.slot g1 g2
  refine ⟨v, ev, F, env, S, y, _, ok, h2, fun w F1 H1 S1 R st ok1 rw' => ?_⟩
  obtain ⟨k1, k2⟩ := gV_some h3
  obtain ⟨v', A', B', ev', rv, _⟩ := ok1.st.slot k1 k2
  rw [ev] at ev'
  cases ev'
  exact h F1 H1 v w x y A' R t Q ok1.le rv rw' h4 fun z R' rz => q z F1 H1 S1 R' st ok1 rz
theorem i2nE (h : Op2E K mg r p) (q : tE K mg (o2n p i db) σ H Q) : tOp r (tVar i) (tR K mg db) σ H Q := by
  obtain ⟨F, env, S, t, env', ok, hd, q⟩ := q
  obtain ⟨x0, y, x, h1, h2, h3, h4⟩ := o2n_some hd
  obtain ⟨g1, g2⟩ := gV_some h1
  obtain ⟨v, A, B, ev, _⟩ := ok.st.slot g1 g2
  refine ⟨v, ev, F, env, S, y, _, ok, h2, fun w F1 H1 S1 R st ok1 rw' => ?_⟩
  obtain ⟨k1, k2⟩ := gV_some h3
  obtain ⟨v', A', B', ev', rv, _⟩ := ok1.st.slot k1 k2
  rw [ev] at ev'
  cases ev'
  refine h F1 H1 v w x y A' R t Q ok1.le rv rw' h4 fun z F2 H2 R' st2 le2 rz => ?_
  obtain ⟨a, b, c⟩ := fin_new st ok1 st2 le2
  exact q z F2 H2 S1 R' a b rz c
end
section
variable {X : Cx} {op : Operator} {co : CmpOp} {x : Str} {px : Pos} {b : Expr} {pos : Pos} {r : R2} {o : T → T → Option T} {db : DE} {i : Nat}
theorem sr_binn (ho : OpR X (binaryOp op) r) (hv : Op2V X.K X.mg r o) (hb : SR X b db) (hN : X.N[i]? = some x := by rfl) (hvis : Vis X.env.scope x := by first | exact Or.inl rfl | exact Or.inr (Or.inl rfl) | exact Or.inr (Or.inr rfl)) (hd : (x == ("__debug__" : Str)) = false := by decide) (hcd : (x == ("__classdict__" : Str)) = false := by decide) :
    SR X (.BinOp (.Name x px) op b pos) (o2n o i db) := pew (pe_op ho (pe_var hN hvis hd hcd) hb) fun _ _ _ => i2n hv
theorem se_binn (ho : OpR X (binaryOp op) r) (hv : Op2E X.K X.mg r o) (hb : SR X b db) (hN : X.N[i]? = some x := by rfl) (hvis : Vis X.env.scope x := by first | exact Or.inl rfl | exact Or.inr (Or.inl rfl) | exact Or.inr (Or.inr rfl)) (hd : (x == ("__debug__" : Str)) = false := by decide) (hcd : (x == ("__classdict__" : Str)) = false := by decide) :
    SE X (.BinOp (.Name x px) op b pos) (o2n o i db) := pew (pe_op ho (pe_var hN hvis hd hcd) hb) fun _ _ _ => i2nE hv
theorem sr_cmpn (ho : OpR X (compareOp co) r) (hv : Op2V X.K X.mg r o) (hm : behindInMarks co b = false) (hb : SR X b db) (hN : X.N[i]? = some x := by rfl) (hvis : Vis X.env.scope x := by first | exact Or.inl rfl | exact Or.inr (Or.inl rfl) | exact Or.inr (Or.inr rfl)) (hd : (x == ("__debug__" : Str)) = false := by decide) (hcd : (x == ("__classdict__" : Str)) = false := by decide) :
    SR X (.Compare (.Name x px) [co] [b] pos) (o2n o i db) := pew (pe_cmpR ho (pe_var hN hvis hd hcd) hb hm) fun _ _ _ => i2n hv
theorem st_cmpn (ho : OpR X (compareOp co) r) (hv : Op2V X.K X.mg r o) (hm : behindInMarks co b = false) (hb : SR X b db) (hN : X.N[i]? = some x := by rfl) (hvis : Vis X.env.scope x := by first | exact Or.inl rfl | exact Or.inr (Or.inl rfl) | exact Or.inr (Or.inr rfl)) (hd : (x == ("__debug__" : Str)) = false := by decide) (hcd : (x == ("__classdict__" : Str)) = false := by decide) :
    ST X (.Compare (.Name x px) [co] [b] pos) (o2n o i db) := ptw (pt_cmpR ho (pe_var hN hvis hd hcd) hb hm) fun _ _ _ h => i2n hv h
end

/-! ### a name's thing is frozen ahead: nothing is done for it -/
def fz (i : Nat) (d : DE) : DE := fun env => match env[i]? with
  | some t => d (env.set i (frz t))
  | none => none
section
variable {K : PySem.W.Frag} {mg : Mg} {σ : L2.St} {F H : Hp} {env : List T} {S : AS} {i : Nat}
theorem freeze_ok {t : T} (ok : Ok K mg F H σ env S) (h : env[i]? = some t) : ∃ F' S', Stp F H S F' H S' ∧ Ok K mg F' H σ (env.set i (frz t)) S' := by
  obtain ⟨s, A, B, e1, e2, e3, e4, rest⟩ := ok.st.split h
  have ff := frF_le (A := A) ok.le
  have kB : ∀ y, B y → H y = H y ∧ frF F H A y = none := fun y z => ⟨rfl, by rw [frF_out fun a => e3 y a z]; exact (ok.st.dom y ((e4 y).mpr (.inr z))).2⟩
  have r' : RepO K mg (frF F H A) H s (frz t) Emp := by
    cases s with
    | none =>
      obtain ⟨rfl, _⟩ := e2
      exact ⟨by rw [frz], fun _ z => z⟩
    | some v => exact Rep.freeze ff.1 e2 (fun y z => frF_in z) fun _ z => z
  have := rest (frF F H A) H s (frz t) Emp ff.1 kB r' emp_dj
  rw [set_self' e1] at this
  exact ⟨frF F H A, Cup Emp B, frF_stp ok.le (fun y z => (e4 y).mpr (.inl z)) fun y z => (e4 y).mpr (.inr (z.elim (fun z => z.elim) id)), ⟨ff.2, this⟩⟩
theorem fzE_imp {d : DE} {Q : VK} (h : tE K mg (fz i d) σ H Q) : tE K mg d σ H Q := by
  obtain ⟨F, env, S, t, e, ok, hd, q⟩ := h
  unfold fz at hd
  split at hd
  · rename_i u hu
    obtain ⟨F', S', st, ok'⟩ := freeze_ok ok hu
    exact ⟨F', _, S', t, e, ok', hd, fun v F2 H2 S2 R st2 ok2 r dj => q v F2 H2 S2 R (st.trans st2) ok2 r dj⟩
  · cases hd
end
theorem SE.fz {X : Cx} {e : Expr} {d : DE} (i : Nat) (h : SE X e d) : SE X e (Tr.fz i d) := pew h fun _ _ _ => fzE_imp
end Tr


set_option Elab.async false
set_option linter.all false
set_option maxRecDepth 100000
set_option maxHeartbeats 4000000
/-! D12: places within things, changed in place; built-ins of two. -/
namespace Tr
open PySem PySem.Spec PyProof.Rows L2

section
variable (K : PySem.W.Frag) (mg : Mg)
/-- a place within the slots: what stands there, whose it is, and how the rest goes on -/
def Foc (F H : Hp) (σ : L2.St) (S : AS) (v : V) (t : T) (put : T → List T) : Prop :=
  ∃ A B, Rep K mg F H v t A ∧ Dj A B ∧ (∀ x, S x ↔ A x ∨ B x) ∧
    ∀ (H' : Hp) (t' : T) (A' : AS), (∀ x, B x → H' x = H x) → Rep K mg F H' v t' A' → Dj A' B → StR K mg F H' σ (put t') (Cup A' B)
/-- what a place's expression looks at -/
abbrev DP := List T → Option (T × (T → List T))
def tP (d : DP) : TE := fun σ H Q => ∃ F env S t put, Ok K mg F H σ env S ∧ d env = some (t, put) ∧ ∀ v, Foc K mg F H σ S v t put → Q v H
end
def SP (X : Cx) (e : Expr) (d : DP) : Prop := PE X e (tP X.K X.mg d)
def dpV (i : Nat) : DP := fun env => (gV i env).map fun t => (t, fun t' => env.set i t')
def dpIx (da : DP) (db : DV) : DP := fun env => match da env, db env with
  | some (.nd o .lst xs, put), some (.lf (.int i)) => (ixN xs.length i).bind fun j => (xs[j]?).map fun t => (t, fun t' => put (.nd o .lst (xs.set j t')))
  | some (.nd o .tup xs, put), some (.lf (.int i)) => (ixN xs.length i).bind fun j => (xs[j]?).map fun t => (t, fun t' => put (.nd o .tup (xs.set j t')))
  | _, _ => none
section
variable {K : PySem.W.Frag} {mg : Mg} {F H : Hp} {σ : L2.St} {env : List T} {S : AS}
theorem foc_slot {i : Nat} {t : T} (ok : Ok K mg F H σ env S) (h : gV i env = some t) : ∃ v, σ[i]? = some (some v) ∧ Foc K mg F H σ S v t (fun t' => env.set i t') := by
  obtain ⟨g1, g2⟩ := gV_some h
  obtain ⟨v, A, B, ev, rx, d, hS, rest⟩ := ok.st.slot g1 g2
  refine ⟨v, ev, A, B, rx, d, hS, fun H' t' A' k r dj => ?_⟩
  have := rest F H' (some v) t' A' (Le.refl _) (fun x z => ⟨k x z, (ok.st.dom x ((hS x).mpr (.inr z))).2⟩) r dj
  rwa [set_self' ev] at this
theorem Reps.focus : ∀ {vs : List V} {ts : List T} {S0 : AS}, Reps K mg F H vs ts S0 → ∀ {j : Nat} {t : T}, ts[j]? = some t →
    ∃ v A B, vs[j]? = some v ∧ Rep K mg F H v t A ∧ Dj A B ∧ (∀ x, S0 x ↔ A x ∨ B x) ∧
      ∀ (H' : Hp) (t' : T) (A' : AS), (∀ x, B x → H' x = H x) → Rep K mg F H' v t' A' → Dj A' B → Reps K mg F H' vs (ts.set j t') (Cup A' B)
  | _, _, _, .nil _, j, t, h => by simp at h
  | _, _, S0, .cons (vs := vs) (ts := ts) (v := v) (t := t0) (S1 := S1) (S2 := S2) r q d hS, 0, t, h => by
    have e : t0 = t := by simpa using h
    subst e
    exact ⟨v, S1, S2, rfl, r, d, hS, fun H' t' A' k r' dj => .cons r' (q.frame (Le.refl _) fun x z => ⟨k x z, (q.dom x z).2⟩) dj fun _ => Iff.rfl⟩
  | _, _, S0, .cons (vs := vs) (ts := ts) (v := w) (S1 := S1) (S2 := S2) r q d hS, j + 1, t, h => by
    obtain ⟨v, A, B, h1, h2, h3, h4, h5⟩ := Reps.focus q (by simpa using h)
    refine ⟨v, A, Cup S1 B, by simpa using h1, h2, fun x a b => b.elim (fun b => d x b ((h4 x).mpr (.inl a))) (h3 x a), fun x => ?_, fun H' t' A' k r' dj => ?_⟩
    · rw [hS x, h4 x]
      exact ⟨fun z => z.elim (fun z => .inr (.inl z)) fun z => z.elim .inl fun z => .inr (.inr z), fun z => z.elim (fun z => .inr (.inl z)) fun z => z.elim .inl fun z => .inr (.inr z)⟩
    · have q' := h5 H' t' A' (fun x z => k x (.inr z)) r' fun x a b => dj x a (.inr b)
      refine .cons (r.frame (Le.refl _) fun x z => ⟨k x (.inl z), (r.dom x z).2⟩) q' (fun x a b => b.elim (fun b => dj x b (.inl a)) fun b => d x a ((h4 x).mpr (.inr b))) fun x => ?_
      exact ⟨fun z => z.elim (fun z => .inr (.inl z)) fun z => z.elim .inl fun z => .inr (.inr z), fun z => z.elim (fun z => .inr (.inl z)) fun z => z.elim .inl fun z => .inr (.inr z)⟩
/-- a part of what stands at a place -/
theorem foc_child {v : V} {o : Bool} {k : Kd} {xs : List T} {put : T → List T} (f : Foc K mg F H σ S v (.nd o k xs) put) {j : Nat} {t : T} (h : xs[j]? = some t) :
    ∃ a vs w R, v = .ref a ∧ (Le F H → Here K mg H a k vs) ∧ vs[j]? = some w ∧ vs.length = xs.length ∧ (∀ x, R x → S x) ∧ Rep K mg F H w t R ∧ Foc K mg F H σ S w t (fun t' => put (.nd o k (xs.set j t'))) := by
  obtain ⟨A, B, r, d, hS, rest⟩ := f
  cases r with
  | @own a _ ho vs _ _ S0 h1 h2 c r na hA =>
    obtain ⟨w, A1, B1, g1, g2, g3, g4, g5⟩ := r.focus h
    refine ⟨a, vs, w, A1, rfl, fun _ => .of h1 c, g1, r.length (S := Emp), fun x z => (hS x).mpr (.inl ((hA x).mpr (.inr ((g4 x).mpr (.inl z))))), g2, A1, fun x => x = a ∨ B1 x ∨ B x, g2, fun x z y => ?_, fun x => ?_, fun H' t' A' kp r' dj => ?_⟩
    · rcases y with y | y | y
      · subst y; exact na ((g4 x).mpr (.inl z))
      · exact g3 x z y
      · exact d x ((hA x).mpr (.inr ((g4 x).mpr (.inl z)))) y
    · rw [hS x, hA x, g4 x]
      constructor
      · rintro ((z | z | z) | z)
        · exact .inr (.inl z)
        · exact .inl z
        · exact .inr (.inr (.inl z))
        · exact .inr (.inr (.inr z))
      · rintro (z | z | z | z)
        · exact .inl (.inr (.inl z))
        · exact .inl (.inl z)
        · exact .inl (.inr (.inr z))
        · exact .inr z
    · have q' := g5 H' t' A' (fun x z => kp x (.inr (.inl z))) r' fun x a b => dj x a (.inr (.inl b))
      have na' : ¬ Cup A' B1 a := fun z => z.elim (fun z => dj a z (.inl rfl)) fun z => na ((g4 a).mpr (.inr z))
      have ow : Rep K mg F H' (.ref a) (.nd true k (xs.set j t')) (fun x => x = a ∨ Cup A' B1 x) := .own ((kp a (.inl rfl)).trans h1) h2 c q' na' fun _ => Iff.rfl
      have := rest H' _ _ (fun x z => kp x (.inr (.inr z))) ow fun x z y => ?_
      · refine this.iff fun x => ?_
        constructor
        · rintro (z | z | z | z)
          · exact .inl (.inr (.inl z))
          · exact .inl (.inl z)
          · exact .inl (.inr (.inr z))
          · exact .inr z
        · rintro ((z | z | z) | z)
          · exact .inr (.inl z)
          · exact .inl z
          · exact .inr (.inr (.inl z))
          · exact .inr (.inr (.inr z))
      · rcases z with z | z | z
        · subst z; exact d x ((hA x).mpr (.inl rfl)) y
        · exact dj x z (.inr (.inr y))
        · exact d x ((hA x).mpr (.inr ((g4 x).mpr (.inr z)))) y
  | @frz a _ ho vs _ _ h1 c r =>
    obtain ⟨w, A1, B1, g1, g2, g3, g4, g5⟩ := r.focus h
    refine ⟨a, vs, w, A1, rfl, fun le => .of (le _ _ h1) c, g1, r.length (S := Emp), fun x z => (hS x).mpr (.inl ((g4 x).mpr (.inl z))), g2, A1, fun x => B1 x ∨ B x, g2, fun x z y => y.elim (g3 x z) (d x ((g4 x).mpr (.inl z))), fun x => ?_, fun H' t' A' kp r' dj => ?_⟩
    · rw [hS x, g4 x]; exact or_assoc
    · have q' := g5 H' t' A' (fun x z => kp x (.inl z)) r' fun x a b => dj x a (.inl b)
      have := rest H' (.nd false k (xs.set j t')) _ (fun x z => kp x (.inr z)) (.frz h1 c q') fun x z y => z.elim (fun z => dj x z (.inr y)) fun z => d x ((g4 x).mpr (.inr z)) y
      exact this.iff fun x => ⟨fun z => z.elim (fun z => .inl (.inl z)) fun z => z.elim (fun z => .inl (.inr z)) .inr, fun z => z.elim (fun z => z.elim .inl fun z => .inr (.inl z)) fun z => .inr (.inr z)⟩
  | @rol a vs _ _ h1 r =>
    obtain ⟨w, A1, B1, g1, g2, g3, g4, g5⟩ := r.focus h
    refine ⟨a, vs, w, A1, rfl, fun le => le.sqL h1, g1, r.length (S := Emp), fun x z => (hS x).mpr (.inl ((g4 x).mpr (.inl z))), g2, A1, fun x => B1 x ∨ B x, g2, fun x z y => y.elim (g3 x z) (d x ((g4 x).mpr (.inl z))), fun x => ?_, fun H' t' A' kp r' dj => ?_⟩
    · rw [hS x, g4 x]; exact or_assoc
    · have q' := g5 H' t' A' (fun x z => kp x (.inl z)) r' fun x a b => dj x a (.inl b)
      have := rest H' (.nd false .rol (xs.set j t')) _ (fun x z => kp x (.inr z)) (.rol h1 q') fun x z y => z.elim (fun z => dj x z (.inr y)) fun z => d x ((g4 x).mpr (.inr z)) y
      exact this.iff fun x => ⟨fun z => z.elim (fun z => .inl (.inl z)) fun z => z.elim (fun z => .inl (.inr z)) .inr, fun z => z.elim (fun z => z.elim .inl fun z => .inr (.inl z)) fun z => .inr (.inr z)⟩
  | @rot a vs _ _ h1 r =>
    obtain ⟨w, A1, B1, g1, g2, g3, g4, g5⟩ := r.focus h
    refine ⟨a, vs, w, A1, rfl, fun le => le.sqT h1, g1, r.length (S := Emp), fun x z => (hS x).mpr (.inl ((g4 x).mpr (.inl z))), g2, A1, fun x => B1 x ∨ B x, g2, fun x z y => y.elim (g3 x z) (d x ((g4 x).mpr (.inl z))), fun x => ?_, fun H' t' A' kp r' dj => ?_⟩
    · rw [hS x, g4 x]; exact or_assoc
    · have q' := g5 H' t' A' (fun x z => kp x (.inl z)) r' fun x a b => dj x a (.inl b)
      have := rest H' (.nd false .rot (xs.set j t')) _ (fun x z => kp x (.inr z)) (.rot h1 q') fun x z y => z.elim (fun z => dj x z (.inr y)) fun z => d x ((g4 x).mpr (.inr z)) y
      exact this.iff fun x => ⟨fun z => z.elim (fun z => .inl (.inl z)) fun z => z.elim (fun z => .inl (.inr z)) .inr, fun z => z.elim (fun z => z.elim .inl fun z => .inr (.inl z)) fun z => .inr (.inr z)⟩
theorem ixN_atI {vs : List V} {n j : Nat} {i : Int} {w : V} (h : ixN n i = some j) (hl : vs.length = n) (hw : vs[j]? = some w) : atI vs i = some w := by
  unfold L2.atI
  rw [hl, h]
  exact hw
theorem pix_imp {da : DP} {db : DV} {Q : VK} (h : tP K mg (dpIx da db) σ H Q) : tOp (rIxA K) (tP K mg da) (tV K mg db) σ H Q := by
  obtain ⟨F, env, S, t, put, ok, hd, q⟩ := h
  unfold dpIx at hd
  split at hd
  · rename_i o xs p i h1 h2
    obtain ⟨j, e1, e2⟩ := Option.bind_eq_some_iff.mp hd
    obtain ⟨t', e3, e4⟩ := Option.map_eq_some_iff.mp e2
    cases e4
    refine ⟨F, env, S, _, _, ok, h1, fun v f => ⟨F, env, S, _, ok, h2, fun w R rw' => ?_⟩⟩
    obtain ⟨a, vs, u, R', rfl, hh, g1, g2, g3, g4, g5⟩ := foc_child f e3
    exact .inl ⟨a, vs, _, u, rfl, rw'.lf_inv.1, SqL.of (hh ok.le), ixN_atI e1 g2 g1, q u g5⟩
  · rename_i o xs p i h1 h2
    obtain ⟨j, e1, e2⟩ := Option.bind_eq_some_iff.mp hd
    obtain ⟨t', e3, e4⟩ := Option.map_eq_some_iff.mp e2
    cases e4
    refine ⟨F, env, S, _, _, ok, h1, fun v f => ⟨F, env, S, _, ok, h2, fun w R rw' => ?_⟩⟩
    obtain ⟨a, vs, u, R', rfl, hh, g1, g2, g3, g4, g5⟩ := foc_child f e3
    exact .inr (.inl ⟨a, vs, _, u, rfl, rw'.lf_inv.1, SqT.of (hh ok.le), ixN_atI e1 g2 g1, q u g5⟩)
  · cases hd
/-- a change at a place -/
theorem foc_mut {r : V → List V → Hp → VK → Prop} {op : T → List T → Option (T × T)} {vs : List V} {ts : List T} {t t' res : T} {put : T → List T} {v : V} {Q : VK} (ho : OpM K mg r op) (le : Le F H) (f : Foc K mg F H σ S v t put) (rs : Reps K mg F H vs ts Emp) (hop : op t ts = some (res, t'))
    (q : ∀ w F' H' S' R', Stp F H S F' H' (Cup S' R') → Ok K mg F' H' σ (put t') S' → Rep K mg F' H' w res R' → Dj S' R' → Q w H') (dom : ∀ x, S x → (∃ o, H x = some o) ∧ F x = none) : r v vs H Q := by
  obtain ⟨A, B, rx, d, hS, rest⟩ := f
  refine ho F H v t A vs ts Emp res t' Q le rx rs (fun _ _ z => z.elim) hop fun w H' A' Rv stm le' rx' rw' dj' => ?_
  have djB : Dj (Cup A Emp) B := fun y a b => a.elim (fun a => d y a b) fun a => a.elim
  have kB := stm.keeps (R := B) (fun y z => dom y ((hS y).mpr (.inr z))) djB
  have djB' : Dj (Cup A' Rv) B := stm.dj (fun y z => (dom y ((hS y).mpr (.inr z))).1) djB
  have hn := rest H' t' A' (fun x z => (kB x z).1) rx' fun y a b => djB' y (.inl a) b
  refine q w F H' (Cup A' B) Rv ?_ ⟨le', hn⟩ rw' fun y a b => a.elim (fun a => dj' y a b) fun a => djB' y (.inr b) a
  have b1 := stm.frame B
  have b2 : Stp F H S F H' (Cup (Cup A' Rv) B) := b1.big fun y z => z.elim (fun z => z.elim (fun z => (hS y).mpr (.inl z)) fun z => z.elim) fun z => (hS y).mpr (.inr z)
  exact b2.weak fun y z => z.elim (fun z => z.elim (fun z => .inl (.inl z)) .inr) fun z => .inl (.inr z)
/-- p.m(), p.m(e): what stands at a place is changed -/
def dMutP0 (ty : String) (dp : DP) (op : T → List T → Option (T × T)) : DE := fun env => (dp env).bind fun p => if isTy ty p.1 = true then (op p.1 []).map fun q => (q.1, p.2 q.2) else none
def dMutP (ty : String) (dp : DP) (op : T → List T → Option (T × T)) (da : DV) : DE := fun env => (dp env).bind fun p => (da env).bind fun u => if isTy ty p.1 = true ∧ cln u = true then (op p.1 [u]).map fun q => (q.1, p.2 q.2) else none
theorem mutP0_imp {ty : String} {dp : DP} {r : V → List V → Hp → VK → Prop} {op : T → List T → Option (T × T)} {Q : VK} (ho : OpM K mg r op) (h : tE K mg (dMutP0 ty dp op) σ H Q) : tBM0 K ty r (tP K mg dp) σ H Q := by
  obtain ⟨F, env, S, res, e, ok, hd, q⟩ := h
  obtain ⟨⟨t, put⟩, h1, h2⟩ := Option.bind_eq_some_iff.mp hd
  split at h2
  · rename_i hi
    obtain ⟨⟨r', t'⟩, h4, h5⟩ := Option.map_eq_some_iff.mp h2
    cases h5
    refine ⟨F, env, S, t, put, ok, h1, fun v f => ⟨?_, foc_mut ho ok.le f (.nil fun _ z => z) h4 q ok.st.dom⟩⟩
    obtain ⟨A, B, rx, _⟩ := f
    exact isTy_ok ok.le rx hi
  · cases h2
theorem mutP_imp {ty : String} {dp : DP} {da : DV} {r : V → List V → Hp → VK → Prop} {op : T → List T → Option (T × T)} {Q : VK} (ho : OpM K mg r op) (h : tE K mg (dMutP ty dp op da) σ H Q) : tBM K ty r (tP K mg dp) (tCons (tV K mg da) tNil) σ H Q := by
  obtain ⟨F, env, S, res, e, ok, hd, q⟩ := h
  obtain ⟨⟨t, put⟩, h1, h2⟩ := Option.bind_eq_some_iff.mp hd
  obtain ⟨u, h3, h4⟩ := Option.bind_eq_some_iff.mp h2
  split at h4
  · rename_i hi
    obtain ⟨⟨r', t'⟩, h5, h6⟩ := Option.map_eq_some_iff.mp h4
    cases h6
    refine ⟨F, env, S, t, put, ok, h1, fun v f => ⟨?_, F, env, S, u, ok, h3, fun w R rw' => foc_mut ho ok.le f (.cons (S1 := Emp) (S2 := Emp) (rw'.clean0 hi.2) (.nil fun _ z => z) (fun _ z => z.elim) fun _ => ⟨.inl, fun z => z.elim id id⟩) h5 q ok.st.dom⟩⟩
    obtain ⟨A, B, rx, _⟩ := f
    exact isTy_ok ok.le rx hi.1
  · cases h4
end
section
variable {X : Cx} {x : Str} {i : Nat} {a b e o : Expr} {es : List Expr} {name : Str} {ty id : String} {px pos apos cpos : Pos} {r : V → List V → Hp → VK → Prop} {op : T → List T → Option (T × T)} {da dp : DP} {db dv : DV}
theorem sp_name (hN : X.N[i]? = some x := by rfl) (hv : Vis X.env.scope x := by first | exact Or.inl rfl | exact Or.inr (Or.inl rfl) | exact Or.inr (Or.inr rfl)) (hd : (x == ("__debug__" : Str)) = false := by decide)
    (hcd : (x == ("__classdict__" : Str)) = false := by decide) : SP X (.Name x px) (dpV i) := pew (pe_var hN hv hd hcd) fun σ H Q ⟨F, env, S, t, put, ok, h, q⟩ => by
  obtain ⟨t', e1, e2⟩ := Option.map_eq_some_iff.mp h
  cases e2
  obtain ⟨v, e3, f⟩ := foc_slot ok e1
  exact ⟨v, e3, q v f⟩
theorem sp_ix (hu : X.A.units + 1 < cLine) (ha : SP X a da) (hb : SV X b db) (hs : PlainIx b := by exact fun _ _ => rfl) : SP X (.Subscript a b pos) (dpIx da db) := pew (pe_ix (ix_all hu) ha hb hs) fun _ _ _ => pix_imp
theorem se_mutP (pa : PlainAttrs ty) (slot : Slot ty name id) (hty : typeOf (.builtin id) = pure (.type "method_descriptor")) (hm : MtR X id r) (ho : OpM X.K X.mg r op) (hp : SP X o dp) (ha : SV X e dv)
    (hbase : attributeBase o name X.env (eval o X.env) = eval o X.env := by rfl)
    (hfew : ((backTo cpos (starEach (e :: []) X.env)).all (fun y => !y.1) && (backToKw cpos (keywordEach [] X.env)).all (fun y => y.1.isSome) && decide ((e :: []).length + ([] : List Keyword).length + (if ([] : List Keyword).isEmpty then 0 else 1) < 30)) = true := by rfl)
    (hline : (apos.endLine == cpos.line) = true := by rfl) (hs : starEach (e :: []) X.env = (false, eval e X.env) :: starEach [] X.env := by rfl) (hplain : (backTo cpos (starEach [] X.env)).any (·.1) = false := by rfl) :
    SE X (.Call (.Attribute o name apos) [e] [] cpos) (dMutP ty dp op dv) := pew (pe_bm pa slot hty hm hp (pa_cons ha pa_nil hs) hbase hfew hline hs hplain) fun _ _ _ h => mutP_imp ho h
theorem se_mutP0 (pa : PlainAttrs ty) (slot : Slot ty name id) (hty : typeOf (.builtin id) = pure (.type "method_descriptor")) (hm : MtR X id r) (ho : OpM X.K X.mg r op) (hp : SP X o dp)
    (hbase : attributeBase o name X.env (eval o X.env) = eval o X.env := by rfl) (hline : (apos.endLine == cpos.line) = true := by rfl) :
    SE X (.Call (.Attribute o name apos) [] [] cpos) (dMutP0 ty dp op) := pew (pe_bm0 pa slot hty hm hp hbase hline) fun _ _ _ h => mutP0_imp ho h
end

/-! ### built-ins of two -/
section
variable {X : Cx} {e1 e2 : Expr} {x : Str} {id : String} {p pos : Pos} {d1 d2 : DV} {r : List V → Hp → VK → Prop} {o : T → T → Option T}
theorem sv_b2 (hc : CallR X (.builtin id) r) (hv : Op2V X.K X.mg (fun x y H Q => r [x, y] H Q) o) (hb : bootBuiltins x = some (.builtin id)) (hg : Gl X x) (hm : X.mg x = none) (h1 : SV X e1 d1) (h2 : SV X e2 d2) (hn : x ≠ "__name__" := by decide) (hdb : (x == ("__debug__" : Str)) = false := by decide)
    (hs : starEach (e1 :: [e2]) X.env = (false, eval e1 X.env) :: starEach [e2] X.env := by rfl) (hs2 : starEach (e2 :: []) X.env = (false, eval e2 X.env) :: starEach [] X.env := by rfl) (hpl : (backTo pos (starEach [e2] X.env)).any (·.1) = false := by rfl) :
    SV X (.Call (.Name x p) [e1, e2] [] pos) (o2V o d1 d2) := pew (pe_callB hc hg hm hb (pa_cons h1 (pa_cons h2 pa_nil hs2) hs) hn hdb (he := hs) (hpl := hpl)) fun _ _ _ h => i2V hv h
end
def oMax : T → T → Option T
  | .lf (.int i), .lf (.int j) => some (.lf (.int (if j > i then j else i)))
  | _, _ => none
def oMin : T → T → Option T
  | .lf (.int i), .lf (.int j) => some (.lf (.int (if j < i then j else i)))
  | _, _ => none
theorem v_max {K : PySem.W.Frag} {mg : Mg} : Op2V K mg (fun x y H Q => ∃ i j, [x, y] = [.int i, .int j] ∧ Q (.int (if j > i then j else i)) H) oMax := fun F H x y t s R R2 u Q le r1 r2 h q => by
  unfold oMax at h
  split at h
  · cases h
    exact ⟨_, _, by rw [r1.lf_inv.1, r2.lf_inv.1], q _ Emp (.lf rfl fun _ z => z)⟩
  · cases h
theorem v_min {K : PySem.W.Frag} {mg : Mg} : Op2V K mg (fun x y H Q => ∃ i j, [x, y] = [.int i, .int j] ∧ Q (.int (if j < i then j else i)) H) oMin := fun F H x y t s R R2 u Q le r1 r2 h q => by
  unfold oMin at h
  split at h
  · cases h
    exact ⟨_, _, by rw [r1.lf_inv.1, r2.lf_inv.1], q _ Emp (.lf rfl fun _ z => z)⟩
  · cases h
/-- int(x) of a number or a truth -/
def oInt : T → Option T
  | .lf (.int i) => some (.lf (.int i))
  | .lf (.bl k) => some (.lf (.int (if k = true then 1 else 0)))
  | _ => none
theorem v_int {K : PySem.W.Frag} {mg : Mg} : Op1V K mg (fun x H Q => (∃ i, [x] = [.int i] ∧ Q (.int i) H) ∨ ∃ k, [x] = [.bl k] ∧ Q (.int (if k then 1 else 0)) H) oInt := fun F H x t R u Q le r1 h q => by
  unfold oInt at h
  split at h
  · cases h
    exact .inl ⟨_, by rw [r1.lf_inv.1], q _ Emp (.lf rfl fun _ z => z)⟩
  · cases h
    exact .inr ⟨_, by rw [r1.lf_inv.1], q _ Emp (.lf rfl fun _ z => z)⟩
  · cases h
/-! ### lent to an answer that is no thing: all stays as it was -/
section
variable {K : PySem.W.Frag} {mg : Mg} {F F' H : Hp} {σ : L2.St}
theorem StR.freeze (ff : Le F F') {env : List T} {S : AS} (r : StR K mg F H σ env S) : (∀ x, S x → F' x = H x) → StR K mg F' H σ (frzs env) Emp := by
  induction r with
  | nil h => intro _; rw [frzs]; exact .nil fun _ z => z
  | @cons s t σ env S S1 S2 r _ d hS ih =>
    intro k
    rw [frzs]
    refine .cons (S1 := Emp) (S2 := Emp) ?_ (ih fun x z => k x ((hS x).mpr (.inr z))) (fun _ z => z.elim) fun x => ⟨.inl, fun z => z.elim id id⟩
    cases s with
    | none => obtain ⟨rfl, _⟩ := r; exact ⟨by rw [frz], fun _ z => z⟩
    | some v => exact Rep.freeze ff r (fun x z => k x ((hS x).mpr (.inl z))) fun _ z => z
mutual
/-- a thing newly made, all of it one's own -/
def pureT : T → Bool
  | .no => false
  | .lf _ => true
  | .nd o _ xs => o && pureTs xs
def pureTs : List T → Bool
  | [] => true
  | t :: ts => pureT t && pureTs ts
end
mutual
theorem Rep.unfreeze (ff : Le F F') : ∀ {v : V} {t : T} {R : AS}, Rep K mg F' H v t R → pureT t = true → Rep K mg F H v t R
  | _, _, _, .no _, c => by simp [pureT] at c
  | _, _, _, .lf h g, _ => .lf h g
  | _, _, _, .own h1 h2 c r na hS, p => .own h1 (by
      cases e : F _ with
      | none => rfl
      | some o => rw [ff _ _ e] at h2; cases h2) c (Reps.unfreeze ff r (by simpa [pureT] using p)) na hS
  | _, _, _, .frz _ _ _, c => by simp [pureT] at c
  | _, _, _, .rol _ _, c => by simp [pureT] at c
  | _, _, _, .rot _ _, c => by simp [pureT] at c
theorem Reps.unfreeze (ff : Le F F') : ∀ {vs : List V} {ts : List T} {R : AS}, Reps K mg F' H vs ts R → pureTs ts = true → Reps K mg F H vs ts R
  | _, _, _, .nil h, _ => .nil h
  | _, _, _, .cons r q d hS, p => .cons (Rep.unfreeze ff r (by simp [pureTs] at p; exact p.1)) (Reps.unfreeze ff q (by simp [pureTs] at p; exact p.2)) d hS
end
def bw (d : DE) : DE := fun env => match d (frzs env) with
  | some (t, _) => if pureT t = true then some (t, env) else none
  | none => none
theorem bw_imp {d : DE} {Q : VK} (h : tE K mg (bw d) σ H Q) : tE K mg d σ H Q := by
  obtain ⟨F, env, S, t, e, ok, hd, q⟩ := h
  unfold bw at hd
  split at hd
  · rename_i t' e2 h2
    split at hd
    · rename_i hp
      cases hd
      have ff := frF_le (A := S) ok.le
      refine ⟨frF F H S, frzs env, Emp, t, e2, ⟨ff.2, ok.st.freeze ff.1 fun x z => frF_in z⟩, h2, fun v F2 H2 S2 R st2 ok2 r dj => ?_⟩
      have kp : ∀ a o, H a = some o → H2 a = some o := fun a o z => st2.kp a o z fun z => z
      have nw : ∀ a, R a → H a = none := fun a z => (st2.no a (.inr z)).elim (fun z => z.elim) id
      refine q v F H2 S R ⟨Le.refl _, fun a o z _ => kp a o z, fun _ _ z => .inl z, fun a z => z.elim .inl fun z => .inr (nw a z)⟩ ⟨fun a o z => kp a o (ok.le a o z), ok.st.frame (Le.refl _) fun x z => ?_⟩ (r.unfreeze (ff.1.trans st2.ff) hp) fun x z y => ?_
      · obtain ⟨⟨o, e1⟩, e3⟩ := ok.st.dom x z
        exact ⟨(kp x o e1).trans e1.symm, e3⟩
      · obtain ⟨⟨o, e1⟩, e3⟩ := ok.st.dom x z
        rw [nw x y] at e1
        cases e1
    · cases hd
  · cases hd
end
theorem SE.bw {X : Cx} {e : Expr} {d : DE} (h : SE X e d) : SE X e (Tr.bw d) := pew h fun _ _ _ => bw_imp
section
variable {X : Cx} {elt tg iter c : Expr} {scope : Scope} {own : List (Str × Nat)} {pos : Pos} {W vs : List Nat} {di : DI} {dg : DG} {dc de : DE}
theorem ss_setLcB {i : Nat} {y : Str} {py : Pos} {spos : Pos} (hc : X.calm = true) (hN : X.N.Nodup) (hy : X.N[i]? = some y) (hyl : X.env.scope.names.lookup y = some .local)
    (hsw : swapsWith (.ListComp elt [⟨tg, iter, [], 0⟩] scope pos) (some (.Name y py)) spos.line X.env = pure true) (hi : SI X tg iter di) (ok : BlkOk X.N X.env.scope scope own) (hvs : own.map (·.2) = vs) (nd : vs.Nodup) (hW : ∀ i ∈ W, i ∈ vs)
    (hg : ∀ (s : Shared) (H : Hp) (C : Addr) (cl : List (Str × Addr)) (fp : List Addr), SG (X.blk s H scope (compEnvC scope cl C X.env) fp) tg W dg)
    (he : ∀ (s : Shared) (H : Hp) (C : Addr) (cl : List (Str × Addr)) (fp : List Addr), SE (X.blk s H scope (compEnvC scope cl C X.env) fp) elt de) (hs : ∀ x, foldedSetIterable iter X.env x = pure x := by intro _; rfl) :
    SS X (.Assign [.Name y py] (.ListComp elt [⟨tg, iter, [], 0⟩] scope pos) spos) [i] (dSet i (bw (dLc di dg dYes de vs))) :=
  by
  subst hvs
  exact psw (ps_setLc (g := tG X.K X.mg W dg) (tt := tYes) (te := tE X.K X.mg de) hc hN hy hyl hsw hi ok hg (fun _ _ _ _ _ => pts_nil) he hs) fun D σ H h => lc_imp nd hW yes_imp (bw_imp (set_imp h))
theorem ss_setLcIfB {i : Nat} {y : Str} {py : Pos} {spos : Pos} (hc : X.calm = true) (hN : X.N.Nodup) (hy : X.N[i]? = some y) (hyl : X.env.scope.names.lookup y = some .local)
    (hsw : swapsWith (.ListComp elt [⟨tg, iter, [c], 0⟩] scope pos) (some (.Name y py)) spos.line X.env = pure true) (hi : SI X tg iter di) (ok : BlkOk X.N X.env.scope scope own) (hvs : own.map (·.2) = vs) (nd : vs.Nodup) (hW : ∀ i ∈ W, i ∈ vs)
    (hg : ∀ (s : Shared) (H : Hp) (C : Addr) (cl : List (Str × Addr)) (fp : List Addr), SG (X.blk s H scope (compEnvC scope cl C X.env) fp) tg W dg)
    (ht : ∀ (s : Shared) (H : Hp) (C : Addr) (cl : List (Str × Addr)) (fp : List Addr), ST (X.blk s H scope (compEnvC scope cl C X.env) fp) c dc)
    (he : ∀ (s : Shared) (H : Hp) (C : Addr) (cl : List (Str × Addr)) (fp : List Addr), SE (X.blk s H scope (compEnvC scope cl C X.env) fp) elt de) (hs : ∀ x, foldedSetIterable iter X.env x = pure x := by intro _; rfl) :
    SS X (.Assign [.Name y py] (.ListComp elt [⟨tg, iter, [c], 0⟩] scope pos) spos) [i] (dSet i (bw (dLc di dg dc de vs))) :=
  by
  subst hvs
  exact psw (ps_setLc (g := tG X.K X.mg W dg) (tt := tTest (tR X.K X.mg dc)) (te := tE X.K X.mg de) hc hN hy hyl hsw hi ok hg (fun s H C cl fp => pts_one (ht s H C cl fp)) he hs) fun D σ H h => lc_imp nd hW (fun _ _ _ z => z) (bw_imp (set_imp h))
end
section
variable {X : Cx} {a b : Expr} {pos : Pos} {da db : DE}
theorem sr_ixo (hu : X.A.units + 1 < cLine) (ha : SE X a da) (hb : SR X b db) (hs : PlainIx b := by exact fun _ _ => rfl) : SR X (.Subscript a b pos) (o2o oIx da db) := pew (pe_ix (ix_all hu) ha hb hs) fun _ _ _ => i2o v_ix
end
end Tr


set_option Elab.async false
set_option linter.all false
set_option maxRecDepth 100000
set_option maxHeartbeats 4000000
/-! D13: enumerate; least, greatest, sum; a dict of one key; chains; list(range). -/
namespace Tr
open PySem PySem.Spec PyProof.Rows L2

/-! ### enumerate -/
def enT (n : Nat) : List T → List T
  | [] => []
  | t :: ts => .nd false .tup [lfI n, t] :: enT (n + 1) ts
def itemsE : T → Option (List T)
  | .nd _ .lst xs => some (enT 0 (frzs xs))
  | _ => none
theorem enT_get : ∀ (ts : List T) (n i : Nat), (enT n ts)[i]? = (ts[i]?).map fun t => .nd false .tup [lfI (n + i : Nat), t]
  | [], n, i => by simp [enT]
  | t :: ts, n, 0 => by simp [enT]
  | t :: ts, n, i + 1 => by
    rw [enT, List.getElem?_cons_succ, enT_get ts (n + 1) i, List.getElem?_cons_succ]
    congr 1
    funext u
    rw [show n + 1 + i = n + (i + 1) by omega]
theorem enT_length : ∀ (ts : List T) (n : Nat), (enT n ts).length = ts.length
  | [], _ => rfl
  | t :: ts, n => by rw [enT, List.length_cons, List.length_cons, enT_length ts]
section
variable {K : PySem.W.Frag} {mg : Mg} {F H : Hp}
theorem good_enum {a : Addr} {vs : List V} {its : List T} {S : AS} (r : Reps K mg F H vs its Emp) (hr : ∀ F2 H2 S2, Stp F H S F2 H2 S2 → Le F2 H2 → SqL K H2 a vs) : Good K mg (enT 0 its) (Ite K a) F H S := fun i F2 H2 S2 st le => by
  have hq := hr F2 H2 S2 st le
  refine ⟨fun t h => ?_, fun h => ⟨vs, hq, by rw [r.length (S := Emp)]; rwa [enT_length] at h⟩⟩
  rw [enT_get] at h
  obtain ⟨u, hu, rfl⟩ := Option.map_eq_some_iff.mp h
  obtain ⟨v, R, e1, e2, e3⟩ := r.get hu
  refine ⟨⟨vs, v, hq, e1⟩, fun x H3 y => ?_⟩
  obtain ⟨A, x', rfl, hA, rfl, y⟩ := y
  have e5 := (y vs hq).symm.trans e1
  cases e5
  have nA : ∀ b o, F2 b = some o → b ≠ A := fun b o e z => by rw [z] at e; rw [le A o e] at hA; cases hA
  let F3 : Hp := upd F2 A (.tup [.int (i : Nat), v])
  have l3 : Le F2 F3 := fun b o e => by show upd F2 A _ b = _; rw [upd_ne (nA b o e)]; exact e
  have rx : Rep K mg F3 (upd H2 A (.tup [.int (i : Nat), v])) v u Emp := ((e2.iff (S' := Emp) fun x => ⟨fun z => z.elim, fun z => e3 x z⟩).frame st.ff (F' := F2) (H' := H2) fun _ z => z.elim).frame l3 fun _ z => z.elim
  refine ⟨F3, ⟨l3, fun b o e _ => by rw [upd_ne fun z => by rw [z, hA] at e; cases e]; exact e, fun b o e => ?_, fun _ z => z.elim⟩, fun b o e => ?_, ?_⟩
  · by_cases hb : b = A
    · subst hb; exact .inr (.inr hA)
    · have : F3 b = F2 b := upd_ne hb
      rw [this] at e; exact .inl e
  · by_cases hb : b = A
    · subst hb
      have : F3 b = some (.tup [.int (i : Nat), v]) := upd_same
      rw [this] at e; rw [upd_same]; exact e
    · have : F3 b = F2 b := upd_ne hb
      rw [this] at e; rw [upd_ne hb]; exact le b o e
  · refine .frz (o := .tup [.int (i : Nat), v]) (vs := [.int (i : Nat), v]) upd_same rfl (.cons (S1 := Emp) (S2 := Emp) ?_ (.cons (S1 := Emp) (S2 := Emp) rx (.nil fun _ z => z) dj_emp fun _ => ⟨.inl, fun z => z.elim id id⟩) dj_emp fun _ => ⟨.inl, fun z => z.elim id id⟩)
    rw [show lfI ((0 + i : Nat) : Int) = T.lf (.int (i : Nat)) by rw [Nat.zero_add]; rfl]
    exact .lf rfl fun _ z => z
end
theorem si_enum {X : Cx} {l : Expr} {d : DE} {p pos tpos : Pos} {elts : List Expr} {kk : Nat} (hg : Gl X "enumerate") (hm : X.mg "enumerate" = none) (hl : SE X l d) (hs : starEach [l] X.env = [(false, eval l X.env)] := by rfl) : SI X (.Tuple elts kk tpos) (.Call (.Name "enumerate" p) [l] [] pos) (dIt itemsE d) :=
  piw (pi_enum hg hm (pa_cons hl pa_nil hs) hs) fun σ H Rk ⟨F, env, S, its, e, ok, hd, q⟩ => by
    obtain ⟨t, h1, h2⟩ := dIt_some hd
    unfold itemsE at h2
    split at h2
    · rename_i o xs
      cases h2
      refine ⟨F, env, S, _, e, ok, h1, fun v F1 H1 S1 R1 st ok1 r dj => ?_⟩
      obtain ⟨F', a, vs, rfl, st', ok', p, hr⟩ := items_frozen st ok1 r dj
      exact ⟨a, vs, rfl, SqL.of (hr F' H1 S1 .refl ok'.le), q _ F' H1 S1 st' ok' (good_enum p fun F2 H2 S2 s l => SqL.of (hr F2 H2 S2 s l))⟩
    · cases h2

/-! ### least, greatest, sum of a list of whole numbers -/
def oMinL : T → Option T
  | .nd _ .lst xs => (intsOf xs).bind fun is => ((isort is).head?).map fun m => .lf (.int m)
  | _ => none
def oSum : T → Option T
  | .nd _ .lst xs => (intsOf xs).map fun is => .lf (.int is.sum)
  | _ => none
section
variable {K : PySem.W.Frag} {mg : Mg} {F H : Hp}
theorem least_is {ns : List Int} {m k : Int} (h : (isort ns).head? = some k) (hm : m ∈ ns) (hl : ∀ y ∈ ns, m ≤ y) : m = k := by
  have hs := isort_sorted ns
  cases e : isort ns with
  | nil => rw [e] at h; cases h
  | cons a as =>
    rw [e] at h hs
    cases h
    have h1 : m ∈ k :: as := by rw [← e]; exact (isort_perm ns).mem_iff.mpr hm
    have h2 : k ∈ ns := (isort_perm ns).mem_iff.mp (by rw [e]; exact List.mem_cons_self ..)
    have h3 := hl k h2
    rcases List.mem_cons.mp h1 with z | z
    · exact z
    · have := (List.pairwise_cons.mp hs).1 m z
      omega
theorem v_minL : Op1V K mg (fun x H Q => rMin K [x] H Q) oMinL := fun F H x t R u Q le r1 h q => by
  unfold oMinL at h
  split at h
  · rename_i o xs
    obtain ⟨is, h1, h2⟩ := Option.bind_eq_some_iff.mp h
    obtain ⟨k, h3, rfl⟩ := Option.map_eq_some_iff.mp h2
    obtain ⟨a, vs, S0, rfl, p, _, hr⟩ := r1.nd_inv le
    have ev : vs = is.map V.int := by
      have := intsOf_some h1
      subst this
      exact reps_ints p
    subst ev
    refine ⟨a, is, rfl, SqL.of hr, ?_, fun m hm hl => ?_⟩
    · cases is with
      | nil => simp [isort] at h3
      | cons a as => simp
    · rw [least_is h3 hm hl]
      exact q _ Emp (.lf rfl fun _ z => z)
  · cases h
theorem v_sum : Op1V K mg (fun x H Q => rSum K [x] H Q) oSum := fun F H x t R u Q le r1 h q => by
  unfold oSum at h
  split at h
  · rename_i o xs
    obtain ⟨is, h1, rfl⟩ := Option.map_eq_some_iff.mp h
    obtain ⟨a, vs, S0, rfl, p, _, hr⟩ := r1.nd_inv le
    have ev : vs = is.map V.int := by
      have := intsOf_some h1
      subst this
      exact reps_ints p
    subst ev
    exact ⟨a, is, rfl, SqL.of hr, q _ Emp (.lf rfl fun _ z => z)⟩
  · cases h
end

/-! ### a op b op c -/
def oCh (o o' : T → T → Option T) (va vb vc : DV) : DV := fun env => (va env).bind fun x => (vb env).bind fun y => match o x y with
  | some (.lf (.bl true)) => (vc env).bind fun z => o' y z
  | some (.lf (.bl false)) => some (.lf (.bl false))
  | _ => none
theorem ch_imp {K : PySem.W.Frag} {mg : Mg} {r r' : R2} {o o' : T → T → Option T} {va vb vc : DV} {σ : L2.St} {H : Hp} {Q : VK} (hv : Op2V K mg r o) (hv' : Op2V K mg r' o') (h : tV K mg (oCh o o' va vb vc) σ H Q) : tChain r r' (tV K mg va) (tV K mg vb) (tV K mg vc) σ H Q := by
  obtain ⟨F, env, S, t, ok, hd, q⟩ := h
  obtain ⟨x, h1, h2⟩ := Option.bind_eq_some_iff.mp hd
  obtain ⟨y, h3, h4⟩ := Option.bind_eq_some_iff.mp h2
  refine ⟨F, env, S, x, ok, h1, fun v R rv => ⟨F, env, S, y, ok, h3, fun w R' rw' => ?_⟩⟩
  split at h4
  · rename_i e
    obtain ⟨z, h5, h6⟩ := Option.bind_eq_some_iff.mp h4
    refine hv F H v w x y R R' _ _ ok.le rv rw' e fun b R2 rb => ⟨true, rb.lf_inv.1, ?_⟩
    rw [if_pos rfl]
    exact ⟨F, env, S, z, ok, h5, fun u R3 ru => hv' F H w u y z R' R3 _ _ ok.le rw' ru h6 q⟩
  · rename_i e
    cases h4
    refine hv F H v w x y R R' _ _ ok.le rv rw' e fun b R2 rb => ⟨false, rb.lf_inv.1, ?_⟩
    rw [if_neg (by decide)]
    exact q _ Emp (.lf rfl fun _ z => z)
  · cases h4
section
variable {X : Cx} {a b c : Expr} {op op' : CmpOp} {r r' : R2} {o o' : T → T → Option T} {va vb vc : DV} {pos : Pos}
theorem sv_ch (ho : OpR X (compareOp op) r) (hv : Op2V X.K X.mg r o) (ho' : OpR X (compareOp op') r') (hv' : Op2V X.K X.mg r' o') (ha : SV X a va) (hb : SV X b vb) (hc : SV X c vc) (hm : lastMarks [op, op'] [b, c] = false := by with_unfolding_all rfl) :
    SV X (.Compare a [op, op'] [b, c] pos) (oCh o o' va vb vc) := pew (pe_chain ho ho' ha hb hc hm) fun _ _ _ => ch_imp hv hv'
theorem st_ch (ho : OpR X (compareOp op) r) (hv : Op2V X.K X.mg r o) (ho' : OpR X (compareOp op') r') (hv' : Op2V X.K X.mg r' o') (ha : SV X a va) (hb : SV X b vb) (hc : SV X c vc) (hm : lastMarks [op, op'] [b, c] = false := by with_unfolding_all rfl) :
    ST X (.Compare a [op, op'] [b, c] pos) (vr (oCh o o' va vb vc)) := ptw (pt_chain ho ho' ha hb hc hm) fun _ _ _ h => ch_imp hv hv' (vr_imp h)
end

/-! ### {k: v}; list(range(..)) -/
def dDic1 (dk dv : DV) : DE := fun env => match dk env, dv env with
  | some (.lf k), some (.lf w) => (keyOf k).map fun kk => (.nd true (.dK [kk]) [.lf w], env)
  | _, _ => none
def dLRg (d : DE) : DE := fun env => match d env with
  | some (.lf (.int j), e) => if -(2 ^ 62) ≤ j ∧ j ≤ 2 ^ 24 then some (.nd true .lst ((List.range j.toNat).map fun (k : Nat) => lfI k), e) else none
  | _ => none
section
variable {K : PySem.W.Frag} {mg : Mg} {F H : Hp} {σ : L2.St}
theorem dic1_imp {dk dv : DV} {Q : VK} (h : tE K mg (dDic1 dk dv) σ H Q) : tDisp [(tV K mg dk, tV K mg dv)] σ H Q := by
  obtain ⟨F, env, S, t, e, ok, hd, q⟩ := h
  unfold dDic1 at hd
  split at hd
  · rename_i k w h1 h2
    obtain ⟨kk, h3, h4⟩ := Option.map_eq_some_iff.mp hd
    cases h4
    intro p hp
    have np : ∀ b o, H b = some o → b ≠ p := fun b o z y => by rw [y, hp] at z; cases z
    have Fp : F p = none := ok.le.nn hp
    let H1 : Hp := upd H p (.dK [])
    have ok1 : Ok K mg F H1 σ env S := ⟨fun b o z => by show upd H p _ b = _; rw [upd_ne (np b o (ok.le b o z))]; exact ok.le b o z, ok.st.frame (Le.refl _) fun x z => ⟨by obtain ⟨⟨o, z1⟩, _⟩ := ok.st.dom x z; exact upd_ne (np x o z1), (ok.st.dom x z).2⟩⟩
    refine ⟨F, env, S, _, ok1, h1, fun v R rv => ⟨F, env, S, _, ok1, h2, fun u R' ru => ⟨upd_same, [(kk, u)], ?_, by simp, ?_⟩⟩⟩
    · rw [rv.lf_inv.1, keyOf_some h3]; rfl
    · have eh : upd H1 p (.dK (mergeK [] [(kk, u)])) = upd H p (.dK [(kk, u)]) := by
        funext b
        by_cases hb : b = p
        · subst hb; rw [upd_same, upd_same]; rfl
        · rw [upd_ne hb, upd_ne hb]; exact upd_ne hb
      show Q (.ref p) (upd H1 p (.dK (mergeK [] [(kk, u)])))
      rw [eh]
      have ru' : Rep K mg F (upd H p (.dK [(kk, u)])) u (.lf w) Emp := by rw [ru.lf_inv.1]; exact .lf ru.lf_inv.2.1 fun _ z => z
      refine q (.ref p) F _ S (fun x => x = p) ⟨Le.refl _, fun b o z _ => by rw [upd_ne (np b o z)]; exact z, fun _ _ z => .inl z, fun b z => z.elim .inl fun z => .inr (by rw [z]; exact hp)⟩
        ⟨fun b o z => by rw [upd_ne (np b o (ok.le b o z))]; exact ok.le b o z, ok.st.frame (Le.refl _) fun x z => ⟨by obtain ⟨⟨o, z1⟩, _⟩ := ok.st.dom x z; exact upd_ne (np x o z1), (ok.st.dom x z).2⟩⟩
        (.own (o := .dK [(kk, u)]) (vs := [u]) (S0 := Emp) upd_same Fp ⟨rfl, rfl⟩ (.cons (S1 := Emp) (S2 := Emp) ru' (.nil fun _ z => z) dj_emp fun _ => ⟨.inl, fun z => z.elim id id⟩) (fun z => z) fun x => ⟨.inl, fun z => z.elim id fun z => z.elim⟩) fun x z y => ?_
      obtain ⟨⟨o, z1⟩, _⟩ := ok.st.dom x z
      exact np x o z1 y
  · cases hd
theorem lrg_imp {d : DE} {Q : VK} (h : tE K mg (dLRg d) σ H Q) : tLstRg (tRg1 (tR K mg d)) σ H Q := by
  obtain ⟨F, env, S, t, e, ok, hd, q⟩ := h
  unfold dLRg at hd
  split at hd
  · rename_i j e1 h1
    split at hd
    · rename_i hj
      cases hd
      refine ⟨F, env, S, _, e, ok, h1, fun v F1 H1 S1 R1 st ok1 r1 => ⟨j, r1.lf_inv.1, ⟨by omega, by omega, hj.1, by omega, by omega⟩, fun p hp => ?_⟩⟩
      have ev : rgV 0 j = ((List.range j.toNat).map fun (k : Nat) => (k : Int)).map V.int := by
        unfold rgV
        rw [List.map_map, Int.sub_zero]
        exact List.map_congr_left fun k _ => by simp
      have et : ((List.range j.toNat).map fun (k : Nat) => lfI k) = ((List.range j.toNat).map fun (k : Nat) => (k : Int)).map lfI := by rw [List.map_map]; rfl
      rw [ev]
      obtain ⟨g1, g2, g3⟩ := new_one (K := K) (mg := mg) (k := .lst) (o := .lst (((List.range j.toNat).map fun (k : Nat) => (k : Int)).map V.int)) ok1.le hp rfl (ints_reps ((List.range j.toNat).map fun (k : Nat) => (k : Int)))
      rw [← et] at g3
      obtain ⟨z1, z2, z3⟩ := fin_new st ok1 g1 g2
      exact q _ _ _ _ _ z1 z2 g3 z3
    · cases hd
  · cases hd
end
section
variable {X : Cx} {k v e : Expr} {pos p p2 pos2 : Pos} {dk dv : DV} {d : DE}
theorem se_dic1 (hk : SV X k dk) (hv : SV X v dv) : SE X (.Dict [some k] [v] pos) (dDic1 dk dv) := pew (pe_disp (pps_cons hk hv pps_nil) rfl rfl (by simp) (by simp)) fun _ _ _ => dic1_imp
theorem se_lrg (hc : X.calm = true) (hgl : Gl X "list") (hml : X.mg "list" = none) (hg : Gl X "range") (hm : X.mg "range" = none) (he : SR X e d) (na : starEach [e] X.env = (false, eval e X.env) :: starEach [] X.env := by rfl)
    (nb : starEach [.Call (.Name "range" p2) [e] [] pos2] X.env = (false, eval (.Call (.Name "range" p2) [e] [] pos2) X.env) :: starEach [] X.env := by rfl) :
    SE X (.Call (.Name "list" p) [.Call (.Name "range" p2) [e] [] pos2] [] pos) (dLRg d) := pew (pe_listRg hc hgl hml (prg_1 hg hm he na) nb) fun _ _ _ => lrg_imp
end
section
variable {X : Cx} {e : Expr} {x : Str} {id : String} {p pos : Pos} {de : DE} {r : List V → Hp → VK → Prop} {o : T → Option T}
theorem sr_t1 (hc : CallR X (.type id) r) (hv : Op1V X.K X.mg (fun x H Q => r [x] H Q) o) (hb : bootBuiltins x = some (.type id)) (hg : Gl X x) (hm : X.mg x = none) (ha : SR X e de) (hn : x ≠ "__name__" := by decide) (hdb : (x == ("__debug__" : Str)) = false := by decide)
    (hs : starEach (e :: []) X.env = (false, eval e X.env) :: starEach [] X.env := by rfl) : SR X (.Call (.Name x p) [e] [] pos) (o1 o de) := pew (pe_callTy hc hg hm hb (pa_cons ha pa_nil hs) hn hdb (he := hs)) fun _ _ _ h => i1R hv h
end
section
variable {X : Cx} {x : Str} {i : Nat} {b : Expr} {px pos : Pos} {db : DE}
theorem sr_ixn (hu : X.A.units + 1 < cLine) (hb : SR X b db) (hs : PlainIx b := by exact fun _ _ => rfl) (hN : X.N[i]? = some x := by rfl) (hvis : Vis X.env.scope x := by first | exact Or.inl rfl | exact Or.inr (Or.inl rfl) | exact Or.inr (Or.inr rfl)) (hd : (x == ("__debug__" : Str)) = false := by decide) (hcd : (x == ("__classdict__" : Str)) = false := by decide) :
    SR X (.Subscript (.Name x px) b pos) (o2n oIx i db) := pew (pe_ix (ix_all hu) (pe_var hN hvis hd hcd) hb hs) fun _ _ _ => i2n v_ix
end
end Tr


set_option Elab.async false
set_option linter.all false
set_option maxRecDepth 100000
set_option maxHeartbeats 4000000
/-! D14: one mirror or another; slices. -/
namespace Tr
open PySem PySem.Spec PyProof.Rows L2

/-! ### scopes out of a text -/
def exSc : Expr → Scope
  | .ListComp _ _ s _ => s
  | _ => defScope (.Pass ⟨0, 0, 0, 0⟩)
/-- the scope of a comprehension within its def, as the names that it finds there are told -/
def reLbl (scope sc : Scope) : Scope := { scope with names := scope.names.map fun (n, k) => if (k == .free && sc.kind == .function && sc.names.lookup n == some .cell) then (n, .cell) else (n, k) }
def stV : Stmt → Expr
  | .Assign _ e _ => e
  | .Return (some e) _ => e
  | .Expr e _ => e
  | _ => .Constant .none 0 ⟨0, 0, 0, 0⟩
def stK (l : List Stmt) (k : Nat) : Stmt := l.getD k (.Pass ⟨0, 0, 0, 0⟩)
def stB : Stmt → List Stmt
  | .For _ _ b _ _ => b
  | .While _ b _ _ => b
  | .If _ b _ _ => b
  | _ => []
def stL : Stmt → List Stmt
  | .If _ _ b _ => b
  | _ => []
/-! ### one or the other -/
def elsE (a b : DE) : DE := fun env => match a env with
  | some r => some r
  | none => b env
def elsV (a b : DV) : DV := fun env => match a env with
  | some r => some r
  | none => b env
theorem elsE_some {a b : DE} {env : List T} {r : T × List T} (h : elsE a b env = some r) : a env = some r ∨ b env = some r := by
  unfold elsE at h
  cases e : a env with
  | some x => rw [e] at h; exact .inl h
  | none => rw [e] at h; exact .inr h
theorem elsV_some {a b : DV} {env : List T} {r : T} (h : elsV a b env = some r) : a env = some r ∨ b env = some r := by
  unfold elsV at h
  cases e : a env with
  | some x => rw [e] at h; exact .inl h
  | none => rw [e] at h; exact .inr h
section
variable {X : Cx} {e : Expr} {a b : DE} {va vb : DV}
theorem PE.els {t1 t2 t : TE} (h1 : PE X e t1) (h2 : PE X e t2) (i : ∀ σ H Q, t σ H Q → t1 σ H Q ∨ t2 σ H Q) : PE X e t := ⟨fun pins s σ H Q I q => (i σ H Q q).elim (h1.run pins s σ H Q I) (h2.run pins s σ H Q I)⟩
theorem SE.els (h1 : SE X e a) (h2 : SE X e b) : SE X e (elsE a b) := PE.els h1 h2 fun σ H Q ⟨F, env, S, t, env', ok, hd, q⟩ => (elsE_some hd).elim (fun z => .inl ⟨F, env, S, t, env', ok, z, q⟩) fun z => .inr ⟨F, env, S, t, env', ok, z, q⟩
theorem SR.els (h1 : SR X e a) (h2 : SR X e b) : SR X e (elsE a b) := PE.els h1 h2 fun σ H Q ⟨F, env, S, t, env', ok, hd, q⟩ => (elsE_some hd).elim (fun z => .inl ⟨F, env, S, t, env', ok, z, q⟩) fun z => .inr ⟨F, env, S, t, env', ok, z, q⟩
theorem SV.els (h1 : SV X e va) (h2 : SV X e vb) : SV X e (elsV va vb) := PE.els h1 h2 fun σ H Q ⟨F, env, S, t, ok, hd, q⟩ => (elsV_some hd).elim (fun z => .inl ⟨F, env, S, t, ok, z, q⟩) fun z => .inr ⟨F, env, S, t, ok, z, q⟩
end

/-! ### all frozen meanwhile, a leaf as the answer -/
def fBwS (env : List T) : T × List T → Option (T × List T)
  | (.lf w, _) => some (.lf w, env)
  | _ => none
def bwS (d : DE) : DE := fun env => (d (frzs env)).bind (fBwS env)
theorem bwS_imp {K : PySem.W.Frag} {mg : Mg} {d : DE} {σ : L2.St} {H : Hp} {Q : VK} (h : tR K mg (bwS d) σ H Q) : tR K mg d σ H Q := by
  obtain ⟨F, env, S, t, e, ok, hd, q⟩ := h
  obtain ⟨⟨t', e2⟩, h2, h3⟩ := Option.bind_eq_some_iff.mp hd
  cases t' with
  | lf w =>
    cases h3
    have ff := frF_le (A := S) ok.le
    refine ⟨frF F H S, frzs env, Emp, _, e2, ⟨ff.2, ok.st.freeze ff.1 fun x z => frF_in z⟩, h2, fun v F2 H2 S2 R st2 ok2 r => ?_⟩
    have kp : ∀ a o, H a = some o → H2 a = some o := fun a o z => st2.kp a o z fun z => z
    obtain ⟨e4, e5, _⟩ := r.lf_inv
    subst e4
    refine q v F H2 S Emp ⟨Le.refl _, fun a o z _ => kp a o z, fun _ _ z => .inl z, fun a z => .inl z⟩ ⟨fun a o z => kp a o (ok.le a o z), ok.st.frame (Le.refl _) fun x z => ?_⟩ (.lf e5 fun _ z => z)
    obtain ⟨⟨o, e1⟩, e3⟩ := ok.st.dom x z
    exact ⟨(kp x o e1).trans e1.symm, e3⟩
  | _ => cases h3
theorem SR.bwS {X : Cx} {e : Expr} {d : DE} (h : SR X e d) : SR X e (Tr.bwS d) := pew h fun _ _ _ => bwS_imp
theorem ST.bwS {X : Cx} {e : Expr} {d : DE} (h : ST X e d) : ST X e (Tr.bwS d) := ptw h fun _ _ _ => bwS_imp
/-! ### slices -/
def cutT {α : Type} (xs : List α) (lo hi : Option Int) : List α := (xs.drop (HT.sIx xs.length 0 lo)).take (HT.sIx xs.length xs.length hi - HT.sIx xs.length 0 lo)
/-- a bound: none, or a view -/
def ptT : Option DV → List T → Option (Option Int)
  | none, _ => some none
  | some v, env => match v env with
    | some (.lf (.int i)) => some (some i)
    | _ => none
def oSlL (lo hi : Option Int) : T → Option T
  | .nd _ .lst xs => if clns xs = true then some (.nd true .lst (cutT xs lo hi)) else none
  | .nd _ .rol xs => if clns xs = true then some (.nd true .lst (cutT xs lo hi)) else none
  | _ => none
def oSlT (lo hi : Option Int) : T → Option T
  | .nd _ .tup xs => if clns xs = true ∧ ¬ (HT.sIx xs.length 0 lo = 0 ∧ HT.sIx xs.length xs.length hi = xs.length) then some (.nd false .tup (cutT xs lo hi)) else none
  | _ => none
def oSlS (lo hi : Option Int) : T → Option T
  | .lf (.str z) => if z.length ≤ sizeLine then some (.lf (.str (cutS z lo hi))) else none
  | _ => none
def dSl (o : Option Int → Option Int → T → Option T) (d : DE) (lo hi : Option DV) : DE := fun env => (d env).bind fun p => (ptT lo p.2).bind fun l => (ptT hi p.2).bind fun u => (o l u p.1).map fun t => (t, p.2)
section
variable {K : PySem.W.Frag} {mg : Mg} {F H : Hp} {σ : L2.St}
theorem Reps.drop : ∀ (n : Nat) {vs : List V} {ts : List T}, Reps K mg F H vs ts Emp → Reps K mg F H (vs.drop n) (ts.drop n) Emp
  | 0, _, _, r => by simpa using r
  | n + 1, _, _, r => by
    cases r with
    | nil h => simpa using (Reps.nil (K := K) (mg := mg) (F := F) (H := H) (S := Emp) fun _ z => z)
    | cons r q d hS =>
      rw [List.drop_succ_cons, List.drop_succ_cons]
      exact Reps.drop n (q.iff fun x => ⟨fun z => z.elim, fun z => (hS x).mpr (.inr z)⟩)
theorem Reps.take : ∀ (n : Nat) {vs : List V} {ts : List T}, Reps K mg F H vs ts Emp → Reps K mg F H (vs.take n) (ts.take n) Emp
  | 0, _, _, r => by simpa using (Reps.nil (K := K) (mg := mg) (F := F) (H := H) (S := Emp) fun _ z => z)
  | n + 1, _, _, r => by
    cases r with
    | nil h => simpa using (Reps.nil (K := K) (mg := mg) (F := F) (H := H) (S := Emp) fun _ z => z)
    | cons r q d hS =>
      rw [List.take_succ_cons, List.take_succ_cons]
      exact .cons (S1 := Emp) (S2 := Emp) (r.iff fun x => ⟨fun z => z.elim, fun z => (hS x).mpr (.inl z)⟩) (Reps.take n (q.iff fun x => ⟨fun z => z.elim, fun z => (hS x).mpr (.inr z)⟩)) dj_emp fun x => ⟨fun z => z.elim, fun z => z.elim id id⟩
theorem Reps.cut {vs : List V} {ts : List T} (lo hi : Option Int) (r : Reps K mg F H vs ts Emp) : Reps K mg F H (cutV vs lo hi) (cutT ts lo hi) Emp := by
  unfold cutV cutT
  rw [r.length (S := Emp)]
  exact Reps.take _ (Reps.drop _ r)
theorem e_slL (lo hi : Option Int) : Op1E K mg (fun x H Q => rSlL K x lo hi H Q) (oSlL lo hi) := by
  intro F H x t R u Q le r h q
  have sq : ∀ {o : Bool} {k : Kd} {ys : List T}, (∀ {a : Addr} {vs : List V}, Here K mg H a k vs → SqL K H a vs) → Rep K mg F H x (.nd o k ys) R → clns ys = true → u = .nd true .lst (cutT ys lo hi) → rSlL K x lo hi H Q := by
    intro o k ys hk r c e
    obtain ⟨a, vs, S0, rfl, p, _, hr⟩ := r.nd_inv le
    refine ⟨a, vs, rfl, hk hr, fun l hl => ?_⟩
    obtain ⟨g1, g2, g3⟩ := new_one (k := .lst) (o := .lst (cutV vs lo hi)) le hl rfl ((p.clean0 c).cut lo hi)
    exact q _ _ _ _ g1 g2 (by rw [e]; exact g3)
  unfold oSlL at h
  split at h
  · split at h
    · exact sq (k := .lst) (fun z => SqL.of z) r (by assumption) (Option.some.inj h).symm
    · cases h
  · split at h
    · exact sq (k := .rol) (fun z => z) r (by assumption) (Option.some.inj h).symm
    · cases h
  · cases h
theorem e_slT (lo hi : Option Int) : Op1E K mg (fun x H Q => rSlT K x lo hi H Q) (oSlT lo hi) := by
  intro F H x t R u Q le r h q
  unfold oSlT at h
  split at h
  · split at h
    · rename_i o ys c
      cases h
      obtain ⟨a, vs, S0, rfl, p, _, hr⟩ := r.nd_inv le
      have hl := p.length (S := Emp)
      refine ⟨a, vs, rfl, SqT.of hr, by rw [hl]; exact c.2, fun l hp => ?_⟩
      obtain ⟨g1, g2, g3⟩ := new_tup le hp ((p.clean0 c.1).cut lo hi)
      exact q _ _ _ _ g1 g2 g3
    · cases h
  · cases h
theorem e_slS (lo hi : Option Int) : Op1E K mg (fun x H Q => rSlS x lo hi H Q) (oSlS lo hi) := by
  intro F H x t R u Q le r h q
  unfold oSlS at h
  split at h
  · split at h
    · cases h
      exact ⟨_, r.lf_inv.1, by assumption, q _ F H Emp .refl le (.lf rfl fun _ z => z)⟩
    · cases h
  · cases h
def tPO (K : PySem.W.Frag) (mg : Mg) : Option DV → TO
  | none => tNoPart
  | some v => tPart (tV K mg v)
theorem pt_imp {lo : Option DV} {env : List T} {l : Option Int} {S : AS} {Q : Option Int → Hp → Prop} (ok : Ok K mg F H σ env S) (h : ptT lo env = some l) (q : Q l H) : tPO K mg lo σ H Q := by
  cases lo with
  | none => cases h; exact q
  | some v =>
    replace h : (match v env with | some (.lf (.int i)) => some (some i) | _ => none) = some l := h
    cases e : v env with
    | none => rw [e] at h; cases h
    | some t =>
      rw [e] at h
      cases t with
      | lf w =>
        cases w with
        | int i => cases h; exact ⟨F, env, S, _, ok, e, fun w R r => ⟨i, r.lf_inv.1, q⟩⟩
        | _ => cases h
      | _ => cases h
theorem sl_imp {r : V → Option Int → Option Int → Hp → VK → Prop} {o : Option Int → Option Int → T → Option T} {d : DE} {lo hi : Option DV} {Q : VK} (hv : ∀ l u, Op1E K mg (fun x H Q => r x l u H Q) (o l u)) (h : tE K mg (dSl o d lo hi) σ H Q) :
    tSl r (tR K mg d) (tPO K mg lo) (tPO K mg hi) σ H Q := by
  obtain ⟨F, env, S, t, env', ok, hd, q⟩ := h
  obtain ⟨⟨x, e1⟩, h1, h2⟩ := Option.bind_eq_some_iff.mp hd
  obtain ⟨l, h3, h4⟩ := Option.bind_eq_some_iff.mp h2
  obtain ⟨u, h5, h6⟩ := Option.bind_eq_some_iff.mp h4
  obtain ⟨t', h7, h8⟩ := Option.map_eq_some_iff.mp h6
  cases h8
  refine ⟨F, env, S, x, _, ok, h1, fun v F1 H1 S1 R st ok1 r1 => pt_imp ok1 h3 (pt_imp ok1 h5 ?_)⟩
  refine hv l u F1 H1 v x R t Q ok1.le r1 h7 fun v' F2 H2 R' st2 le2 r' => ?_
  obtain ⟨a, b, c⟩ := fin_new st ok1 st2 le2
  exact q v' F2 H2 S1 R' a b r' c
end
/-- the bounds of a slice -/
inductive SP2 (X : Cx) : Option Expr → Option DV → Prop
  | no : SP2 X none none
  | so {e : Expr} {v : DV} : SV X e v → SP2 X (some e) (some v)
theorem SP2.po {X : Cx} {e : Option Expr} {v : Option DV} (h : SP2 X e v) : PO X e (tPO X.K X.mg v) := by
  cases h with
  | no => exact po_none
  | so h => exact po_some h
section
variable {X : Cx} {e : Expr} {lo hi : Option Expr} {vl vh : Option DV} {d : DE} {pos p2 : Pos}
theorem se_slL (he : SR X e d) (hl : SP2 X lo vl) (hh : SP2 X hi vh) : SE X (.Subscript e (.Slice lo hi none p2) pos) (dSl oSlL d vl vh) := pew (pe_slice sl_list he hl.po hh.po) fun _ _ _ h => sl_imp e_slL h
theorem se_slT (he : SR X e d) (hl : SP2 X lo vl) (hh : SP2 X hi vh) : SE X (.Subscript e (.Slice lo hi none p2) pos) (dSl oSlT d vl vh) := pew (pe_slice sl_tup he hl.po hh.po) fun _ _ _ h => sl_imp e_slT h
theorem se_slS (he : SR X e d) (hl : SP2 X lo vl) (hh : SP2 X hi vh) : SE X (.Subscript e (.Slice lo hi none p2) pos) (dSl oSlS d vl vh) := pew (pe_slice sl_str he hl.po hh.po) fun _ _ _ h => sl_imp e_slS h
end
/-! ### a value into a target -/
def dAsg (d : DE) (dg : DG) : DS := fun env => (d env).bind fun p => (dg p.1 p.2).map fun e => (.nx, e)
theorem ss_asg2 {X : Cx} {value tg : Expr} {pos : Pos} {W : List Nat} {dv : DE} {dg : DG} (hv : SE X value dv) (hg : SG X tg W dg) (hs : swapsWithSole [tg] value pos.line X.env = pure false := by rfl) (hw : swappedStores [tg] value X.env = pure none := by rfl)
    (h1 : (assignEach [tg] X.env).map (·.2) = [assign tg X.env] := by rfl) : SS X (.Assign [tg] value pos) W (dAsg dv dg) := ss_asg hv hg hs hw h1
/-! ### + of tuples -/
def oCatT : T → T → Option T
  | .nd _ .tup xs, .nd _ .tup ys => if clns xs = true ∧ clns ys = true ∧ xs ≠ [] ∧ ys ≠ [] ∧ xs.length + ys.length ≤ sizeLine then some (.nd false .tup (xs ++ ys)) else none
  | _, _ => none
theorem e_catT {K : PySem.W.Frag} {mg : Mg} : Op2E K mg (rCatT K) oCatT := by
  intro F H x y t s R R2 u Q le r1 r2 h q
  unfold oCatT at h
  split at h
  · split at h
    · rename_i xs _ ys c
      cases h
      obtain ⟨a, vs, S0, rfl, p1, _, h1⟩ := r1.nd_inv le
      obtain ⟨b, ws, S1, rfl, p2, _, h2⟩ := r2.nd_inv le
      have l1 := p1.length (S := Emp)
      have l2 := p2.length (S := Emp)
      have n1 : vs ≠ [] := fun e => c.2.2.1 (List.length_eq_zero_iff.mp (by rw [← l1, e]; rfl))
      have n2 : ws ≠ [] := fun e => c.2.2.2.1 (List.length_eq_zero_iff.mp (by rw [← l2, e]; rfl))
      refine ⟨a, b, vs, ws, rfl, rfl, SqT.of h1, SqT.of h2, n1, by rw [l1, l2]; exact c.2.2.2.2, fun e => (n2 e).elim, fun _ p hp => ?_⟩
      have rr := Reps.append (p2.clean0 c.2.1) (p1.clean0 c.1) fun _ z => z.elim
      obtain ⟨g1, g2, g3⟩ := new_tup le hp (rr.iff (S' := Emp) fun x => ⟨fun z => z.elim, fun z => z.elim id id⟩)
      exact q _ _ _ _ g1 g2 g3
    · cases h
  · cases h
/-! ### two values of one's own -/
def Op2X (K : PySem.W.Frag) (mg : Mg) (r : R2) (o : T → T → Option T) : Prop := ∀ (F H : Hp) (x y : V) (t s : T) (R R2 : AS) (u : T) (Q : VK), Le F H → Rep K mg F H x t R → Rep K mg F H y s R2 → Dj R R2 → o t s = some u →
  (∀ v F' H' R', Stp F H (Cup R R2) F' H' R' → Le F' H' → Rep K mg F' H' v u R' → Q v H') → r x y H Q
section
variable {K : PySem.W.Frag} {mg : Mg} {p : T → T → Option T} {da db : DE} {r : R2} {σ : L2.St} {H : Hp} {Q : VK}
theorem i2x (h : Op2X K mg r p) (q : tE K mg (o2o p da db) σ H Q) : tOp r (tE K mg da) (tE K mg db) σ H Q := by
  obtain ⟨F, env, S, t, env', ok, hd, q⟩ := q
  obtain ⟨x, e1, y, h1, h3, h4⟩ := o2o_some hd
  refine ⟨F, env, S, x, e1, ok, h1, fun v F1 H1 S1 R st ok1 r dj => ⟨F1, e1, S1, y, _, ok1, h3, fun w F2 H2 S2 R2 st2 ok2 r' dj2 => ?_⟩⟩
  obtain ⟨g1, g2, g3⟩ := join_step st (fun x z => (r.dom x z).1) dj st2
  refine h F2 H2 v w x y R R2 t Q ok2.le (r.keep st2 dj) r' g2 h4 fun v' F3 H3 R3 st3 le3 r3 => ?_
  have dS : Dj (Cup R R2) S2 := fun z a b => a.elim (fun a => g3 z b a) fun a => dj2 z b a
  have ok3 := ok2.keep st3 dS le3
  exact q v' F3 H3 S2 R3 (g1.trans (st3.frameL S2)) ok3 r3 fun z a b => st3.dj (fun y z => (ok2.st.dom y z).1) dS z b a
end
theorem se_binx {X : Cx} {op : Operator} {a b : Expr} {pos : Pos} {r : R2} {o : T → T → Option T} {da db : DE} (ho : OpR X (binaryOp op) r) (hv : Op2X X.K X.mg r o) (ha : SE X a da) (hb : SE X b db) : SE X (.BinOp a op b pos) (o2o o da db) := pew (pe_op ho ha hb) fun _ _ _ => i2x hv
def oCatX : T → T → Option T
  | .nd false .tup xs, .nd false .tup ys => if xs ≠ [] ∧ ys ≠ [] ∧ xs.length + ys.length ≤ sizeLine then some (.nd false .tup (xs ++ ys)) else none
  | _, _ => none
theorem e_catX {K : PySem.W.Frag} {mg : Mg} : Op2X K mg (rCatT K) oCatX := by
  intro F H x y t s R R2 u Q le r1 r2 dj h q
  unfold oCatX at h
  split at h
  · split at h
    · rename_i xs ys c
      cases h
      have f1 : ∃ a vs, x = .ref a ∧ F a = some (.tup vs) ∧ Reps K mg F H vs xs R := by
        cases r1 with
        | frz e cc r => cases cc; exact ⟨_, _, rfl, e, r⟩
      have f2 : ∃ a vs, y = .ref a ∧ F a = some (.tup vs) ∧ Reps K mg F H vs ys R2 := by
        cases r2 with
        | frz e cc r => cases cc; exact ⟨_, _, rfl, e, r⟩
      obtain ⟨a, vs, rfl, ea, p1⟩ := f1
      obtain ⟨b, ws, rfl, eb, p2⟩ := f2
      have l1 := p1.length (S := Emp)
      have l2 := p2.length (S := Emp)
      have n1 : vs ≠ [] := fun e => c.1 (List.length_eq_zero_iff.mp (by rw [← l1, e]; rfl))
      have n2 : ws ≠ [] := fun e => c.2.1 (List.length_eq_zero_iff.mp (by rw [← l2, e]; rfl))
      refine ⟨a, b, vs, ws, rfl, rfl, SqT.of (le _ _ ea), SqT.of (le _ _ eb), n1, by rw [l1, l2]; exact c.2.2, fun e => (n2 e).elim, fun _ l hp => ?_⟩
      have fp : F l = none := le.nn hp
      have ff : Le F (upd F l (.tup (vs ++ ws))) := fun z o e => by rw [upd_ne (ne_of_none e fp)]; exact e
      have le2 : Le (upd F l (.tup (vs ++ ws))) (upd H l (.tup (vs ++ ws))) := fun z o e => by
        by_cases hz : z = l
        · subst hz; rw [upd_same] at e ⊢; exact e
        · rw [upd_ne hz] at e ⊢; exact le z o e
      have pp := Reps.append p2 p1 dj
      refine q (.ref l) _ _ (Cup R R2) ⟨ff, fun z o e _ => by rw [upd_ne (ne_of_none e hp)]; exact e, fun z o e => ?_, fun z hz => .inl hz⟩ le2 (.frz upd_same rfl (pp.frame ff fun z hz => ?_))
      · by_cases hz : z = l
        · exact .inr (.inr (by rw [hz]; exact hp))
        · rw [upd_ne hz] at e; exact .inl e
      · obtain ⟨⟨o, e1⟩, e2⟩ := pp.dom z hz
        have hn : z ≠ l := fun e => by rw [e, hp] at e1; cases e1
        exact ⟨upd_ne hn, by rw [upd_ne hn]; exact e2⟩
    · cases h
  · cases h
end Tr


set_option Elab.async false
set_option linter.all false
set_option maxRecDepth 100000
set_option maxHeartbeats 4000000
/-! M1: reckoning with mirrors. -/
namespace Tr
open PySem PySem.Spec PyProof.Rows L2

abbrev I (i : Int) : T := .lf (.int i)
abbrev B (b : Bool) : T := .lf (.bl b)
abbrev N : T := .lf .non
theorem lfI_eq (i : Int) : lfI i = .lf (.int i) := rfl
/-- a list of li -/
def li (o : Bool) (xs : List Int) : T := .nd o .lst (xs.map lfI)
/-- a list of lists of li, all owned or none -/
def ll (o : Bool) (xs : List (List Int)) : T := .nd o .lst (xs.map (li o))
theorem ints_eq (o : Bool) (xs : List Int) : li o xs = .nd o .lst (xs.map lfI) := rfl
theorem rows_eq (o : Bool) (xs : List (List Int)) : ll o xs = .nd o .lst (xs.map (li o)) := rfl
theorem scrT_eq (ns : List Int) : scrT ns = .nd false .rol (ns.map lfI) := rfl

/-! ### frozen, clean -/
theorem frzs_ints (xs : List Int) : frzs (xs.map lfI) = xs.map lfI := by
  rw [frzs_map, List.map_map]; rfl
theorem frz_li (o : Bool) (xs : List Int) : frz (li o xs) = li false xs := by
  unfold li; rw [frz, frzs_ints]
theorem frzs_ll (o : Bool) (xs : List (List Int)) : frzs (xs.map (li o)) = xs.map (li false) := by
  rw [frzs_map, List.map_map]
  exact List.map_congr_left fun x _ => frz_li o x
theorem frz_ll (o : Bool) (xs : List (List Int)) : frz (ll o xs) = ll false xs := by
  unfold ll; rw [frz, frzs_ll]
theorem frz_lf (v : V) : frz (.lf v) = .lf v := by rw [frz]
theorem frz_no : frz .no = .no := by rw [frz]
theorem frz_scr (ns : List Int) : frz (scrT ns) = scrT ns := by unfold scrT; rw [frz, frzs_ints]
theorem cln_lf (v : V) : cln (.lf v) = true := by rw [cln]
theorem cln_no : cln .no = true := by rw [cln]
theorem cln_li (xs : List Int) : cln (li false xs) = true := by unfold li; rw [cln, clns_ints]; rfl
theorem cln_ll (xs : List (List Int)) : cln (ll false xs) = true := by
  rw [← frz_ll true]; exact cln_frz _
theorem clns_ll (xs : List (List Int)) : clns (xs.map (li false)) = true := by
  rw [← frzs_ll true]; exact clns_frz _
theorem cln_scr (ns : List Int) : cln (scrT ns) = true := by unfold scrT; rw [cln, clns_ints]; rfl

/-! ### loops -/
theorem dFr_inv {dg : DG} {d : DS} : ∀ (its : List T) (Iv : Nat → List T → Prop) (env : List T), Iv 0 env →
    (∀ i t env, its[i]? = some t → Iv i env → ∃ e e', dg t env = some e ∧ (d e = some (.nx, e') ∨ d e = some (.ct, e')) ∧ Iv (i + 1) e') → ∃ env', dFr dg d its env = some (.nx, env') ∧ Iv its.length env'
  | [], Iv, env, h0, _ => ⟨env, rfl, h0⟩
  | t :: ts, Iv, env, h0, hs => by
    obtain ⟨e, e', h1, h2, h3⟩ := hs 0 t env rfl h0
    obtain ⟨env', h4, h5⟩ := dFr_inv ts (fun i => Iv (i + 1)) e' h3 fun i u env hu => hs (i + 1) u env (by simpa using hu)
    refine ⟨env', ?_, h5⟩
    rw [dFr]
    simp only [h1]
    rcases h2 with h2 | h2 <;> simp only [h2] <;> exact h4
theorem dLr_run {dg : DG} {dc de : DE} {vs : List Nat} (env : List T) (p : T → Bool) (f : T → T) : ∀ (its acc : List T), acc.length + its.length ≤ sizeLine →
    (∀ t ∈ its, ∃ e e1, dg t env = some e ∧ dc e = some (.lf (.bl (p t)), e1) ∧ (p t = true → ∃ e2, de e1 = some (f t, e2) ∧ wipeT e2 vs = env) ∧ (p t = false → wipeT e1 vs = env)) →
    dLr dg dc de vs its acc env = some (acc ++ (its.filter p).map f, env)
  | [], acc, _, _ => by rw [dLr]; simp
  | t :: ts, acc, hl, hs => by
    obtain ⟨e, e1, h1, h2, h3, h4⟩ := hs t (List.mem_cons_self ..)
    have hl' : acc.length + (ts.length + 1) ≤ sizeLine := by simpa using hl
    rw [dLr, h1, Option.bind_some]
    cases hp : p t with
    | true =>
      obtain ⟨e2, h5, h6⟩ := h3 hp
      rw [hp] at h2
      have hlt : acc.length < sizeLine := by omega
      simp only [h2, h5, Option.bind_some, hlt, if_true, h6]
      rw [dLr_run env p f ts (acc ++ [f t]) (by simp; omega) fun u hu => hs u (List.mem_cons_of_mem _ hu)]
      simp [hp]
    | false =>
      rw [hp] at h2
      simp only [h2, h4 hp]
      rw [dLr_run env p f ts acc (by omega) fun u hu => hs u (List.mem_cons_of_mem _ hu)]
      simp [hp]
/-- a small number is within the line -/
theorem small {n : Nat} (h : n ≤ 1000) : n < sizeLine := small1000 h

/-! ### data -/
theorem toDs_ints (xs : List Int) : toDs (xs.map lfI) = some (xs.map .int) := by
  induction xs with
  | nil => rfl
  | cons x xs ih => rw [List.map_cons, toDs, ih]; rfl
theorem toD_li (o : Bool) (xs : List Int) : toD (li o xs) = some (.list (xs.map .int)) := by
  unfold li; rw [toD, toDs_ints]; rfl
theorem canLay_ints (xs : List Int) : PyData.canLayAll0 (xs.map PyData.int) = true := by
  induction xs with
  | nil => rw [List.map_nil, PyData.canLayAll0]
  | cons x xs ih => rw [List.map_cons, PyData.canLayAll0, ih]; simp [PyData.canLay0]
theorem depth_ints (xs : List Int) : PyData.depthAll (xs.map PyData.int) = 0 := by
  induction xs with
  | nil => rw [List.map_nil, PyData.depthAll]
  | cons x xs ih => rw [List.map_cons, PyData.depthAll, ih]; simp [PyData.depth]
theorem shaped_ints (xs : List Int) : SeqAt.shaped (.list (xs.map .int)) = true := by
  unfold SeqAt.shaped
  rw [PyData.canLay0, canLay_ints, PyData.depth, depth_ints]
  decide
theorem eqvAll_ints : ∀ xs ys : List Int, PyData.eqvAll (xs.map .int) (ys.map .int) = decide (xs = ys)
  | [], [] => by simp [PyData.eqvAll]
  | [], y :: ys => by simp [PyData.eqvAll]
  | x :: xs, [] => by simp [PyData.eqvAll]
  | x :: xs, y :: ys => by
    rw [List.map_cons, List.map_cons, PyData.eqvAll, eqvAll_ints xs ys, PyData.eqv]
    by_cases h1 : x = y <;> by_cases h2 : xs = ys <;> simp [h1, h2]
theorem oEq_li (o o' : Bool) (xs ys : List Int) : oEq (li o xs) (li o' ys) = some (B (decide (xs = ys))) := by
  unfold oEq
  rw [toD_li, toD_li]
  simp only [Option.bind_some, shaped_ints, and_self, if_true, PyData.eqv, eqvAll_ints]
theorem oNe_li (o o' : Bool) (xs ys : List Int) : oNe (li o xs) (li o' ys) = some (B (!decide (xs = ys))) := by
  unfold oNe
  rw [toD_li, toD_li]
  simp only [Option.bind_some, shaped_ints, and_self, if_true, PyData.eqv, eqvAll_ints]
theorem shaped_int (i : Int) : SeqAt.shaped (.int i) = true := by
  unfold SeqAt.shaped
  rw [PyData.canLay0, PyData.depth]
  decide
theorem oEq_int (i j : Int) : oEq (I i) (I j) = some (B (decide (i = j))) := by
  unfold oEq
  simp only [toD, Option.bind_some, shaped_int, and_self, if_true, PyData.eqv]
  by_cases h : i = j <;> simp [h]
theorem oNe_int (i j : Int) : oNe (I i) (I j) = some (B (!decide (i = j))) := by
  unfold oNe
  simp only [toD, Option.bind_some, shaped_int, and_self, if_true, PyData.eqv]
  by_cases h : i = j <;> simp [h]
theorem oEq_nil (o o' : Bool) (xs : List Int) : oEq (li o xs) (.nd o' .lst []) = some (B (decide (xs = []))) := oEq_li o o' xs []
theorem all_flT (xs : List Int) : (xs.map lfI).all flT = true := by
  rw [List.all_map, List.all_eq_true]; intro x _; rfl
theorem any_eqT (x : Int) (xs : List Int) : (xs.map lfI).any (eqT (.int x)) = decide (x ∈ xs) := by
  induction xs with
  | nil => rfl
  | cons y ys ih =>
    rw [List.map_cons, List.any_cons, ih]
    show ((y == x) || decide (x ∈ ys)) = decide (x ∈ y :: ys)
    by_cases h : y = x
    · subst h; simp
    · have : ¬ x = y := fun e => h e.symm
      have h' : (y == x) = false := by simpa using h
      rw [h']
      simp [this]
theorem inB_li (x : Int) (o : Bool) (xs : List Int) : inB (I x) (li o xs) = some (decide (x ∈ xs)) := by
  show (if flatV (V.int x) = true ∧ (xs.map lfI).all flT = true then some ((xs.map lfI).any (eqT (.int x))) else none) = _
  rw [any_eqT, all_flT]
  simp [flatV]
theorem oIn_li (x : Int) (o : Bool) (xs : List Int) : oIn (I x) (li o xs) = some (B (decide (x ∈ xs))) := by unfold oIn; rw [inB_li]; rfl
theorem oNotIn_li (x : Int) (o : Bool) (xs : List Int) : oNotIn (I x) (li o xs) = some (B (!decide (x ∈ xs))) := by unfold oNotIn; rw [inB_li]; rfl
theorem oLen_li (o : Bool) (xs : List Int) : oLen (li o xs) = some (I xs.length) := by unfold li oLen; simp
theorem oLen_ll (o : Bool) (xs : List (List Int)) : oLen (ll o xs) = some (I xs.length) := by unfold ll oLen; simp
theorem oLen_scr (ns : List Int) : oLen (scrT ns) = some (I ns.length) := by unfold scrT oLen; simp
theorem atI_of {α : Type} {xs : List α} {i : Int} (h0 : 0 ≤ i) (h : i.toNat < xs.length) : atI xs i = xs[i.toNat]? := by
  have e : i = (i.toNat : Int) := by omega
  rw [e]
  simp only [Int.toNat_natCast]
  rw [List.getElem?_eq_getElem h]
  exact atI_nat (List.getElem?_eq_getElem h)
theorem oIx_li (o : Bool) (xs : List Int) (i : Int) (h0 : 0 ≤ i) (h : i.toNat < xs.length) : oIx (li o xs) (I i) = some (I xs[i.toNat]) := by
  unfold li oIx
  show atI (xs.map lfI) i = _
  rw [atI_of h0 (by simpa using h)]
  simp [h, lfI]
theorem oIx_ll (o : Bool) (xs : List (List Int)) (i : Int) (h0 : 0 ≤ i) (h : i.toNat < xs.length) : oIx (ll o xs) (I i) = some (li o xs[i.toNat]) := by
  unfold ll oIx
  show atI (xs.map (li o)) i = _
  rw [atI_of h0 (by simpa using h)]
  simp [h]
theorem oIx_scr (ns : List Int) (i : Int) (h0 : 0 ≤ i) (h : i.toNat < ns.length) : oIx (scrT ns) (I i) = some (I ns[i.toNat]) := by
  unfold scrT oIx
  show atI (ns.map lfI) i = _
  rw [atI_of h0 (by simpa using h)]
  simp [h, lfI]
/-! ### a dict of li, filled -/
def dkT (ks : List Int) : T := .nd true (.dK (ks.map Sum.inl)) (ks.map fun _ => B true)
theorem hasK_ints (ks : List Int) (k : Int) : hasK (ks.map Sum.inl) (Sum.inl k) = decide (k ∈ ks) := by
  unfold hasK
  rw [List.any_map]
  induction ks with
  | nil => rfl
  | cons a ks ih =>
    rw [List.any_cons, ih]
    by_cases h : a = k
    · subst h; simp
    · have : ¬ k = a := fun e => h e.symm
      simp [h, this]
theorem nodupK_ints : ∀ ks : List Int, ks.Nodup → nodupK (ks.map Sum.inl) = true
  | [], _ => rfl
  | a :: ks, h => by
    have h' := List.nodup_cons.mp h
    rw [List.map_cons, nodupK, hasK_ints, nodupK_ints ks h'.2]
    simp [h'.1]
theorem putKT_new {k : Int} {t : T} : ∀ (ks : List Int) (xs : List T), k ∉ ks → ks.length = xs.length → putKT (ks.map Sum.inl) xs (Sum.inl k) t = (ks.map Sum.inl ++ [Sum.inl k], xs ++ [t])
  | [], [], _, _ => rfl
  | [], _ :: _, _, h => by simp at h
  | _ :: _, [], _, h => by simp at h
  | a :: ks, x :: xs, h, hl => by
    have h1 : ¬ (Sum.inl a : Key) = Sum.inl k := fun e => h (by rw [Sum.inl.inj e]; exact List.mem_cons_self ..)
    rw [List.map_cons, putKT, if_neg h1, putKT_new ks xs (fun e => h (List.mem_cons_of_mem _ e)) (by simpa using hl)]
    rfl
theorem mSetD_new (ks : List Int) (k : Int) (nd : ks.Nodup) (h : k ∉ ks) (hl : ks.length < sizeLine) : mSetD (.int k) (dkT ks) [B true] = some (N, dkT (ks ++ [k])) := by
  unfold dkT mSetD
  simp only [keyOf, Option.bind_some, List.length_map, hl, nodupK_ints ks nd, and_self, if_true]
  rw [putKT_new ks _ h (by simp)]
  simp
theorem oIn_dk (x : Int) (ks : List Int) : oIn (I x) (dkT ks) = some (B (decide (x ∈ ks))) := by
  unfold dkT oIn inB
  simp only [keyOf, Option.map_some, hasK_ints]

/-! ### one step each -/
section
variable {env e e1 e2 : List T} {x y t u : T} {o : T → T → Option T} {o1' : T → Option T} {va vb : DV} {da db : DE} {d : DE} {f : FT} {i : Nat} {ts ts' : List T} {a b : DS} {r : Fl × List T}
theorem E_V (h : env[i]? = some t) (hn : t ≠ .no) : gV i env = some t := by
  unfold gV
  rw [h]
  cases t with
  | no => exact (hn rfl).elim
  | lf v => rfl
  | nd o k xs => rfl
theorem E_2V (h1 : va env = some x) (h2 : vb env = some y) (h3 : o x y = some u) : o2V o va vb env = some u := by simp [o2V, h1, h2, h3]
theorem E_1V (h1 : va env = some x) (h3 : o1' x = some u) : o1V o1' va env = some u := by simp [o1V, h1, h3]
theorem E_vr (h1 : va env = some x) : vr va env = some (x, env) := by simp [vr, h1]
theorem E_re (h1 : d env = some (x, e)) (c : cln x = true) : re d env = some (x, e) := by simp [re, h1, c]
theorem E_1 (h1 : d env = some (x, e)) (h3 : o1' x = some u) : o1 o1' d env = some (u, e) := by simp [o1, h1, h3]
theorem E_2v (h1 : da env = some (x, e)) (h2 : vb e = some y) (h3 : o x y = some u) : o2v o da vb env = some (u, e) := by simp [o2v, h1, h2, h3]
theorem E_2c (h1 : da env = some (x, e1)) (h2 : db e1 = some (y, e)) (c : cln x = true) (h3 : o x y = some u) : o2c o da db env = some (u, e) := by simp [o2c, h1, h2, h3, c]
theorem E_2o (h1 : da env = some (x, e1)) (h2 : db e1 = some (y, e)) (h3 : o x y = some u) : o2o o da db env = some (u, e) := by simp [o2o, h1, h2, h3]
theorem E_2n (h0 : gV i env = some t) (h1 : db env = some (y, e)) (h2 : gV i e = some x) (h3 : o x y = some u) : o2n o i db env = some (u, e) := by simp [o2n, h0, h1, h2, h3]
theorem E_S (h : gV i env = some t) (hf : frz t = u) (he : env.set i u = e) : gS i env = some (u, e) := by simp [gS, h, hf, he]
theorem E_M (h : gV i env = some t) (he : env.set i .no = e) : gM i env = some (t, e) := by simp [gM, h, he]
theorem E_cons {dr : DA} (h1 : d env = some (t, e1)) (h2 : dr e1 = some (ts, e)) : aCons d dr env = some (t :: ts, e) := by simp [aCons, h1, h2]
theorem E_call {bs : List (Option Nat)} {dv : List V} {dr : DA} (h1 : dr env = some (ts, e1)) (h2 : f (ts ++ dv.map .lf) = some (t, ts')) (h3 : wb bs ts' e1 = some e) : dCall f bs dv dr env = some (t, e) := by simp [dCall, h1, h2, h3]
theorem E_seq (h : a env = some (.nx, e)) : dSeq a b env = b e := by simp [dSeq, h]
theorem E_seqR {t : T} (h : a env = some (.rt t, e)) : dSeq a b env = some (.rt t, e) := by simp [dSeq, h]
theorem E_ifT {c : DE} (h : c env = some (.lf (.bl true), e)) : dIf c a b env = a e := by simp [dIf, h]
theorem E_ifF {c : DE} (h : c env = some (.lf (.bl false), e)) : dIf c a b env = b e := by simp [dIf, h]
theorem E_set (h : d env = some (t, e)) (hi : i < e.length) (he : e.set i t = e1) : dSet i d env = some (.nx, e1) := by simp [dSet, h, hi, he]
theorem E_ret (h : d env = some (t, e)) : dRet d env = some (.rt t, e) := by simp [dRet, h]
theorem E_ex (h : d env = some (t, e)) : dEx d env = some (.nx, e) := by simp [dEx, h]
theorem E_fz (h : env[i]? = some t) (hf : frz t = u) (he : env.set i u = e) : fz i d env = d e := by simp [fz, h, hf, he]
theorem E_lst {dr : DA} (h : dr env = some (ts, e)) (hl : ts.length ≤ sizeLine) : dLst dr env = some (.nd true .lst ts, e) := by simp [dLst, h, hl]
theorem E_tup {dr : DA} (h : dr env = some (ts, e)) (hl : ts.length ≤ sizeLine) : dTup dr env = some (.nd false .tup ts, e) := by simp [dTup, h, hl]
theorem E_orT {da db : DE} (h : da env = some (.lf (.bl true), e)) : dOr da db env = some (.lf (.bl true), e) := by simp [dOr, h]
theorem E_orF {da db : DE} (h : da env = some (.lf (.bl false), e)) : dOr da db env = db e := by simp [dOr, h]
theorem E_andT {da db : DE} (h : da env = some (.lf (.bl true), e)) : dAnd da db env = db e := by simp [dAnd, h]
theorem E_andF {da db : DE} (h : da env = some (.lf (.bl false), e)) : dAnd da db env = some (.lf (.bl false), e) := by simp [dAnd, h]
theorem E_mut {ty : String} {op : T → List T → Option (T × T)} {dr : DA} {t0 t1 : T} (h0 : gV i env = some t0) (hy : isTy ty t0 = true) (h1 : dr env = some (ts, e1)) (h2 : gV i e1 = some t1) (h3 : op t1 ts = some (x, y)) (he : e1.set i y = e2) : dMut ty i op dr env = some (x, e2) := by
  simp [dMut, h0, hy, h1, h2, h3, he]
theorem E_put {mk : V → T → List T → Option (T × T)} {dk : DV} {k : V} (h1 : d env = some (t, e)) (h2 : gV i e = some x) (h3 : dk e = some (.lf k)) (h4 : mk k x [t] = some (y, u)) (he : e.set i u = e1) : dPut i mk d dk env = some (.nx, e1) := by simp [dPut, h1, h2, h3, h4, he]
theorem E_for {di : DI} {dg : DG} {its : List T} (h1 : di env = some (its, e)) : dFor di dg a env = dFr dg a its e := by simp [dFor, h1]
theorem E_rng {j : Int} (h1 : d env = some (.lf (.int j), e)) (h : -(2 ^ 62) ≤ j ∧ j < 2 ^ 62) : dRng d env = some ((List.range j.toNat).map fun (k : Nat) => lfI k, e) := by simp only [dRng, h1]; rw [if_pos h]
theorem E_it {g : T → Option (List T)} {its : List T} (h1 : d env = some (t, e)) (h2 : g t = some its) : dIt g d env = some (its, e) := by simp [dIt, h1, h2]
theorem E_lc {di : DI} {dg : DG} {dc de : DE} {vs : List Nat} {its acc : List T} (h1 : di env = some (its, e1)) (h2 : cleanAt e1 vs = true) (h3 : dLr dg dc de vs its [] (wipeT e1 vs) = some (acc, e2)) (ha : .nd true .lst acc = t) (he : backT e1 e2 vs = e) : dLc di dg dc de vs env = some (t, e) := by
  subst ha he
  simp [dLc, h1, h2, h3]
end
theorem E_fun {keep : List Bool} {n : Nat} {d : DS} {ts e us : List T} {t : T} (hl : ts.length = keep.length) (h : d (ts ++ List.replicate (n - keep.length) .no) = some (.rt t, e)) (ho : outs keep e = us) : dFun keep n d ts = some (t, us) := by
  unfold dFun
  rw [if_pos hl, h]
  simp [ho]
theorem E_fun0 {keep : List Bool} {n : Nat} {d : DS} {ts e us : List T} (hl : ts.length = keep.length) (h : d (ts ++ List.replicate (n - keep.length) .no) = some (.nx, e)) (ho : outs keep e = us) : dFun keep n d ts = some (.lf .non, us) := by
  unfold dFun
  rw [if_pos hl, h]
  simp [ho]
theorem I_add (i j : Int) : oAdd (I i) (I j) = some (I (i + j)) := rfl
theorem I_sub (i j : Int) : oSub (I i) (I j) = some (I (i - j)) := by simp [oSub, oI]
theorem I_mul {i j : Int} (h : -(2 ^ 64) < j ∧ j < 2 ^ 64) : oMul (I i) (I j) = some (I (i * j)) := by
  unfold oMul oI
  simp only [Bool.or_eq_true, Bool.and_eq_true, decide_eq_true_eq]
  rw [if_pos (.inr h)]
theorem I_mod {i j : Int} (h : 0 < j) : oMod (I i) (I j) = some (I (i % j)) := by simp [oMod, oI, h]
theorem I_div {i j : Int} (h : 0 < j ∧ j < 1073741824) : oDiv (I i) (I j) = some (I (i / j)) := by simp [oDiv, oI, h]
theorem I_lt (i j : Int) : oLt (I i) (I j) = some (B (decide (i < j))) := by simp [oLt, oI]
theorem I_ge (i j : Int) : oGe (I i) (I j) = some (B (decide (j ≤ i))) := by simp [oGe, oI]
theorem I_gt (i j : Int) : oGt (I i) (I j) = some (B (decide (j < i))) := by simp [oGt, oI]
end Tr


set_option Elab.async false
set_option linter.all false
set_option maxRecDepth 100000
set_option maxHeartbeats 4000000
/-! M2: more trees: dicts of keys, marks, machines. -/
namespace Tr
open PySem PySem.Spec PyProof.Rows L2

theorem E_bw {d : DE} {env e : List T} {t : T} (h : d (frzs env) = some (t, e)) (p : pureT t = true) : bw d env = some (t, env) := by
  unfold bw
  rw [h]
  simp [p]
theorem pure_lf (v : V) : pureT (.lf v) = true := by rw [pureT]
theorem pureTs_of {ts : List T} (h : ∀ t ∈ ts, pureT t = true) : pureTs ts = true := by
  induction ts with
  | nil => rw [pureTs]
  | cons t ts ih =>
    rw [pureTs, h t (List.mem_cons_self ..), ih fun u hu => h u (List.mem_cons_of_mem _ hu)]
    rfl
theorem pure_li (xs : List Int) : pureT (li true xs) = true := by
  unfold li
  rw [pureT, pureTs_of]
  · rfl
  · intro t ht
    obtain ⟨x, _, rfl⟩ := List.mem_map.mp ht
    exact pure_lf _
theorem pure_ll (xs : List (List Int)) : pureT (ll true xs) = true := by
  unfold ll
  rw [pureT, pureTs_of]
  · rfl
  · intro t ht
    obtain ⟨x, _, rfl⟩ := List.mem_map.mp ht
    exact pure_li _
/-! ### dicts of keys -/
def dk (o : Bool) (ks : List Key) : T := .nd o (.dK ks) (ks.map fun _ => B true)
theorem hasK_iff (ks : List Key) (k : Key) : hasK ks k = true ↔ k ∈ ks := by
  unfold hasK
  rw [List.any_eq_true]
  constructor
  · rintro ⟨x, h1, h2⟩
    have : x = k := by simpa using h2
    rw [← this]; exact h1
  · exact fun h => ⟨k, h, by simp⟩
theorem nodupK_iff : ∀ {ks : List Key}, ks.Nodup → nodupK ks = true
  | [], _ => rfl
  | a :: ks, h => by
    have h' := List.nodup_cons.mp h
    have : hasK ks a = false := by
      cases e : hasK ks a with
      | false => rfl
      | true => exact (h'.1 ((hasK_iff _ _).mp e)).elim
    rw [nodupK, this, nodupK_iff h'.2]
    rfl
theorem putKT_last {k : Key} {t : T} : ∀ (ks : List Key) (xs : List T), k ∉ ks → ks.length = xs.length → putKT ks xs k t = (ks ++ [k], xs ++ [t])
  | [], [], _, _ => rfl
  | [], _ :: _, _, h => by simp at h
  | _ :: _, [], _, h => by simp at h
  | a :: ks, x :: xs, h, hl => by
    have h1 : ¬ a = k := fun e => h (by rw [e]; exact List.mem_cons_self ..)
    rw [putKT, if_neg h1, putKT_last ks xs (fun e => h (List.mem_cons_of_mem _ e)) (by simpa using hl)]
    rfl
theorem dk_put (ks : List Key) (k : Key) {v : V} (hv : keyOf v = some k) (nd : ks.Nodup) (h : k ∉ ks) (hl : ks.length < sizeLine) : mSetD v (dk true ks) [B true] = some (N, dk true (ks ++ [k])) := by
  unfold dk mSetD
  simp only [hv, Option.bind_some, hl, nodupK_iff nd, and_self, if_true]
  rw [putKT_last ks _ h (by simp)]
  simp
theorem dk_in (o : Bool) (ks : List Key) (k : Key) {v : V} (hv : keyOf v = some k) : oIn (.lf v) (dk o ks) = some (B (hasK ks k)) := by
  unfold dk oIn inB
  simp only [hv, Option.map_some]
theorem frz_dk (o : Bool) (ks : List Key) : frz (dk o ks) = dk false ks := by
  unfold dk
  rw [frz, frzs_map, List.map_map]
  rfl
theorem pure_dk (ks : List Key) : pureT (dk true ks) = true := by
  unfold dk
  rw [pureT, pureTs_of]
  · rfl
  · intro t ht
    obtain ⟨x, _, rfl⟩ := List.mem_map.mp ht
    exact pure_lf _
abbrev kI (xs : List Int) : List Key := xs.map Sum.inl
theorem kI_mem {x : Int} {xs : List Int} : (Sum.inl x : Key) ∈ kI xs ↔ x ∈ xs := by
  constructor
  · intro h
    obtain ⟨y, h1, h2⟩ := List.mem_map.mp h
    cases h2
    exact h1
  · exact fun h => List.mem_map.mpr ⟨x, h, rfl⟩
theorem kI_nd {xs : List Int} (h : xs.Nodup) : (kI xs).Nodup := List.pairwise_map.mpr (h.imp fun h e => h (Sum.inl.inj e))
theorem dkI_put (xs : List Int) (x : Int) (nd : xs.Nodup) (h : x ∉ xs) (hl : xs.length < sizeLine) : mSetD (.int x) (dk true (kI xs)) [B true] = some (N, dk true (kI (xs ++ [x]))) := by
  rw [dk_put (kI xs) (Sum.inl x) rfl (kI_nd nd) (fun e => h (kI_mem.mp e)) (by simpa using hl)]
  simp [kI]
theorem dkI_in (o : Bool) (xs : List Int) (x : Int) : oIn (I x) (dk o (kI xs)) = some (B (decide (x ∈ xs))) := by
  rw [dk_in o (kI xs) (Sum.inl x) rfl]
  congr 3
  rw [Bool.eq_iff_iff, hasK_iff, kI_mem, decide_eq_true_iff]
theorem dk_len (o : Bool) (ks : List Key) : oLen (dk o ks) = some (I ks.length) := by
  unfold dk oLen
  simp
/-! ### machines -/
def mk1 (o : Bool) (m : Str × List Int) : T := .nd false .tup [.lf (.str m.1), li o m.2]
def mks (o : Bool) (ms : List (Str × List Int)) : T := .nd o .lst (ms.map (mk1 o))
theorem frz_mk1 (o : Bool) (m : Str × List Int) : frz (mk1 o m) = mk1 false m := by
  unfold mk1
  rw [frz, frzs, frzs, frzs, frz_lf, frz_li]
theorem frzs_mks (o : Bool) (ms : List (Str × List Int)) : frzs (ms.map (mk1 o)) = ms.map (mk1 false) := by
  rw [frzs_map, List.map_map]
  exact List.map_congr_left fun x _ => frz_mk1 o x
theorem frz_mks (o : Bool) (ms : List (Str × List Int)) : frz (mks o ms) = mks false ms := by
  unfold mks; rw [frz, frzs_mks]
def mch (o : Bool) (rs : List (List Int)) (ms : List (Str × List Int)) (fs : List (List Int)) : T := .nd o (.ins "Machine" ["steps", "marks", "fair"]) [ll o rs, mks o ms, ll o fs]
theorem frz_mch (o : Bool) (rs : List (List Int)) (ms : List (Str × List Int)) (fs : List (List Int)) : frz (mch o rs ms fs) = mch false rs ms fs := by
  unfold mch
  rw [frz, frzs, frzs, frzs, frzs, frz_ll, frz_mks, frz_ll]
theorem fld_steps (o : Bool) (rs ms fs) : oFld "Machine" "steps" (mch o rs ms fs) = some (ll o rs) := by simp [oFld, mch, getF]
theorem n_sm : ¬ ("steps" : Str) = "marks" := by decide +kernel
theorem n_sf : ¬ ("steps" : Str) = "fair" := by decide +kernel
theorem n_mf : ¬ ("marks" : Str) = "fair" := by decide +kernel
theorem fld_marks (o : Bool) (rs ms fs) : oFld "Machine" "marks" (mch o rs ms fs) = some (mks o ms) := by simp [oFld, mch, getF, n_sm]
theorem fld_fair (o : Bool) (rs ms fs) : oFld "Machine" "fair" (mch o rs ms fs) = some (ll o fs) := by simp [oFld, mch, getF, n_sf, n_mf]
theorem isIns_mch {m : Str} (o : Bool) (rs ms fs) (h : ¬ ("steps" : Str) = m ∧ ¬ ("marks" : Str) = m ∧ ¬ ("fair" : Str) = m) : isIns "Machine" m (mch o rs ms fs) = true := by
  simp [isIns, mch, h]
/-- a list of stands -/
structure Okl (n : Nat) (r : List Int) : Prop where
  nd : r.Nodup
  le : r.length ≤ 60
  bd : ∀ x ∈ r, 0 ≤ x ∧ x < n
theorem items_li (o : Bool) (xs : List Int) : itemsL (li o xs) = some (xs.map lfI) := by
  show some (frzs (xs.map lfI)) = _
  rw [frzs_ints]
theorem items_ll (o : Bool) (xs : List (List Int)) : itemsL (ll o xs) = some (xs.map (li false)) := by
  show some (frzs (xs.map (li o))) = _
  rw [frzs_ll]
theorem items_mks (o : Bool) (ms : List (Str × List Int)) : itemsL (mks o ms) = some (ms.map (mk1 false)) := by
  show some (frzs (ms.map (mk1 o))) = _
  rw [frzs_mks]
theorem isi_int (x : Int) : oIsi "int" (I x) = some (B true) := by simp [oIsi, tyN, isiB]
theorem isi_bool (x : Int) : oIsi "bool" (I x) = some (B false) := by simp [oIsi, tyN, isiB]
theorem isi_list (o : Bool) (ts : List T) : oIsi "list" (.nd o .lst ts) = some (B true) := by simp [oIsi, tyN, isiB]
theorem oNot_b (b : Bool) : oNot (B b) = some (B (!b)) := rfl
theorem oList_li (o : Bool) (xs : List Int) : oList (li o xs) = some (li true xs) := by
  show (if clns (xs.map lfI) = true then some (T.nd true .lst (xs.map lfI)) else none) = _
  rw [clns_ints]
  rfl
theorem ap_li (xs : List Int) (x : Int) (h : xs.length ≤ 1000) : mAppend (li true xs) [I x] = some (N, li true (xs ++ [x])) := by
  unfold li mAppend
  have := small (n := xs.length) h
  simp [this, lfI]
theorem ap_ll (xs : List (List Int)) (x : List Int) (h : xs.length ≤ 1000) : mAppend (ll true xs) [li true x] = some (N, ll true (xs ++ [x])) := by
  unfold ll mAppend
  have := small (n := xs.length) h
  simp [this]
theorem ix_at (rs : List (List Int)) (o : Bool) (k : Nat) (h : k < rs.length) : oIx (ll o rs) (I k) = some (li o (rs.getD k [])) := by
  rw [oIx_ll o rs k (by omega) (by simpa using h)]
  simp [h]
theorem ix_last (o : Bool) (pre : List (List Int)) (s : List Int) : oIx (ll o (pre ++ [s])) (I (-1)) = some (li o s) := by
  show L2.atI ((pre ++ [s]).map (li o)) (-1) = _
  rw [List.map_append]
  exact atI_last _ _
theorem I_eq (i j : Int) : oEq (I i) (I j) = some (B (decide (i = j))) := oEq_int i j
theorem I_neg (i : Int) : oNeg (I i) = some (I (-i)) := by simp [oNeg, oI1]
/-- numbers that rise, all below -/
structure Asc (n : Nat) (r : List Int) : Prop where
  lt : r.Pairwise (· < ·)
  bd : ∀ x ∈ r, 0 ≤ x ∧ x < n
theorem Asc.nd {n : Nat} {r : List Int} (h : Asc n r) : r.Nodup := h.lt.imp fun h e => by omega
theorem sub_len {n : Nat} {r : List Int} (nd : r.Nodup) (bd : ∀ x ∈ r, 0 ≤ x ∧ x < n) : r.length ≤ n := by
  induction n generalizing r with
  | zero => cases r with
    | nil => simp
    | cons x r => have := bd x (List.mem_cons_self ..); omega
  | succ n ih =>
    have h1 := ih (r := r.erase (n : Int)) (nd.erase _) fun x hx => by
      have h2 := nd.mem_erase_iff.mp hx
      have h3 := bd x h2.2
      have := h2.1
      omega
    have h2 := List.length_erase (a := (n : Int)) (l := r)
    split at h2 <;> omega
theorem Asc.len {n : Nat} {r : List Int} (h : Asc n r) : r.length ≤ n := sub_len h.nd h.bd
theorem Asc.okl {n : Nat} {r : List Int} (h : Asc n r) (hn : n ≤ 60) : Okl n r := ⟨h.nd, Nat.le_trans h.len hn, h.bd⟩
theorem rng_map (n : Nat) : ((List.range n).map fun (k : Nat) => lfI k) = ((List.range n).map fun (k : Nat) => (k : Int)).map lfI := by
  rw [List.map_map]; rfl
theorem E_rngN {d : DE} {env e : List T} {n : Nat} (h : d env = some (I n, e)) (hn : n ≤ 1000) : dRng d env = some ((List.range n).map (fun (k : Nat) => lfI k), e) := by
  have := E_rng (d := d) (env := env) (e := e) (j := n) h (by omega)
  simpa using this
theorem rng_get {n i : Nat} {t : T} (h : ((List.range n).map fun (k : Nat) => lfI k)[i]? = some t) : i < n ∧ t = I i := by
  have hi : i < n := by
    have := (List.getElem?_eq_some_iff.mp h).1
    simpa using this
  rw [List.getElem?_map, List.getElem?_range hi] at h
  cases h
  exact ⟨hi, rfl⟩
theorem li_get {xs : List Int} {i : Nat} {t : T} (h : (xs.map lfI)[i]? = some t) : ∃ hi : i < xs.length, t = I xs[i] := by
  have hi : i < xs.length := by
    have := (List.getElem?_eq_some_iff.mp h).1
    simpa using this
  rw [List.getElem?_map, List.getElem?_eq_getElem hi] at h
  cases h
  exact ⟨hi, rfl⟩
theorem ll_get {xs : List (List Int)} {i : Nat} {t : T} (h : (xs.map (li false))[i]? = some t) : ∃ hi : i < xs.length, t = li false xs[i] := by
  have hi : i < xs.length := by
    have := (List.getElem?_eq_some_iff.mp h).1
    simpa using this
  rw [List.getElem?_map, List.getElem?_eq_getElem hi] at h
  cases h
  exact ⟨hi, rfl⟩
theorem mks_get {xs : List (Str × List Int)} {i : Nat} {t : T} (h : (xs.map (mk1 false))[i]? = some t) : ∃ hi : i < xs.length, t = mk1 false xs[i] := by
  have hi : i < xs.length := by
    have := (List.getElem?_eq_some_iff.mp h).1
    simpa using this
  rw [List.getElem?_map, List.getElem?_eq_getElem hi] at h
  cases h
  exact ⟨hi, rfl⟩
/-- [list(r) for r in ..], the items in a slot that nothing else uses -/
theorem copies (env : List T) (k : Nat) (hk : env[k]? = some .no) (rs : List (List Int)) (hn : rs.length ≤ 1000) : dLr (gN k) dYes (o1 oList (vr (gV k))) [k] (rs.map (li false)) [] (wipeT env [k]) = some (rs.map (li true), env) := by
  have hl : k < env.length := (List.getElem?_eq_some_iff.mp hk).1
  have hw : wipeT env [k] = env := by show env.set k .no = env; exact set_self' hk
  rw [hw]
  have r := dLr_run (dg := gN k) (dc := dYes) (de := o1 oList (vr (gV k))) (vs := [k]) env (fun _ => true) (fun t => match t with | .nd _ kk xs => .nd true kk xs | t => t) (rs.map (li false)) [] (by have := small (n := rs.length) (by omega); simp; omega) (by
    intro t ht
    obtain ⟨x, hx, rfl⟩ := List.mem_map.mp ht
    refine ⟨env.set k (li false x), env.set k (li false x), by unfold gN; rw [if_pos hl], rfl, fun _ => ⟨env.set k (li false x), ?_, ?_⟩, fun h => by cases h⟩
    · have g : gV k (env.set k (li false x)) = some (li false x) := E_V (by simp [hl]) (by unfold li; intro e; cases e)
      exact E_1 (E_vr g) (oList_li _ x)
    · show (env.set k (li false x)).set k .no = env
      rw [List.set_set]
      exact set_self' hk)
  rw [r]
  congr 2
  rw [List.nil_append, List.filter_eq_self.mpr (fun _ _ => rfl), List.map_map]
  rfl
theorem E_make {c : Str} {f : FT} {bs : List (Option Nat)} {dv : List V} {dr : DA} {env e e1 ts ts' : List T} {t : T} (h1 : dr env = some (ts, e1)) (h2 : f (.nd true (.ins c []) [] :: (ts ++ dv.map .lf)) = some (.lf .non, t :: ts')) (h3 : wb bs ts' e1 = some e) : dMake c f bs dv dr env = some (t, e) := by
  simp [dMake, h1, h2, h3]
theorem E_meth {c m : Str} {f : FT} {b0 : Option Nat} {bs : List (Option Nat)} {dv : List V} {d0 : DE} {dr : DA} {env e e0 e1 ts ts' : List T} {t t0 : T} (h0 : d0 env = some (t0, e0)) (hi : isIns c m t0 = true) (h1 : dr e0 = some (ts, e1)) (h2 : f (t0 :: (ts ++ dv.map .lf)) = some (t, ts')) (h3 : wb (b0 :: bs) ts' e1 = some e) :
    dMeth c m f b0 bs dv d0 dr env = some (t, e) := by
  simp [dMeth, dCall, h0, hi, h1, h2, h3]
/-! ### two lists in a tuple -/
def tp (o : Bool) (a b : List Int) : T := .nd false .tup [li o a, li o b]
theorem frz_tp (o : Bool) (a b : List Int) : frz (tp o a b) = tp false a b := by
  unfold tp; rw [frz, frzs, frzs, frzs, frz_li, frz_li]
theorem toD_tp (o o' : Bool) (a b : List Int) : toD (.nd false .tup [li o a, li o' b]) = some (.tuple [.list (a.map .int), .list (b.map .int)]) := by
  rw [toD, toDs, toDs, toDs, toD_li, toD_li]; rfl
theorem shaped_tp (a b : List Int) : SeqAt.shaped (.tuple [.list (a.map .int), .list (b.map .int)]) = true := by
  unfold SeqAt.shaped
  simp only [PyData.canLay0, PyData.canLayAll0, canLay_ints, PyData.depth, PyData.depthAll, depth_ints]
  decide
theorem oNe_tp (o o' o'' : Bool) (a b : List Int) : oNe (tp o a b) (.nd false .tup [li o' a, li o'' b]) = some (B false) := by
  unfold oNe tp
  rw [toD_tp, toD_tp]
  simp only [Option.bind_some, shaped_tp, and_self, if_true, PyData.eqv, PyData.eqvAll, eqvAll_ints]
  simp
end Tr


set_option Elab.async false
set_option linter.all false
set_option maxRecDepth 100000
set_option maxHeartbeats 4000000
/-! M3: loops that answer, sorted, rounds. -/
namespace Pm
open PySem PySem.Spec PyProof.Rows L2 Tr
/-- a loop that may answer -/
theorem dFr_find {dg : DG} {d : DS} (Iv : List T → Prop) (p : T → Bool) (r : T) : ∀ (its : List T) (env : List T), Iv env →
    (∀ t ∈ its, ∀ env, Iv env → ∃ e e', dg t env = some e ∧ d e = some (if p t = true then .rt r else .nx, e') ∧ Iv e') → ∃ e, Iv e ∧ dFr dg d its env = some (if its.any p = true then .rt r else .nx, e)
  | [], env, h0, _ => ⟨env, h0, rfl⟩
  | t :: ts, env, h0, hs => by
    obtain ⟨e, e', h1, h2, h3⟩ := hs t (List.mem_cons_self ..) env h0
    rw [dFr]
    simp only [h1]
    cases hp : p t with
    | true =>
      rw [hp] at h2
      simp only [h2, if_true]
      exact ⟨e', h3, by simp [hp]⟩
    | false =>
      rw [hp] at h2
      simp only [h2]
      obtain ⟨e9, g1, g2⟩ := dFr_find Iv p r ts e' h3 fun u hu => hs u (List.mem_cons_of_mem _ hu)
      exact ⟨e9, g1, by simpa [hp] using g2⟩
theorem intsOf_li (xs : List Int) : intsOf (xs.map lfI) = some xs := by
  induction xs with
  | nil => rfl
  | cons x xs ih => rw [List.map_cons]; show (intsOf (xs.map lfI)).map _ = _; rw [ih]; rfl
theorem oSorted_li (o : Bool) (xs : List Int) : oSorted (li o xs) = some (li true (isort xs)) := by
  unfold li
  show (intsOf (xs.map lfI)).map _ = _
  rw [intsOf_li]
  rfl
theorem isort_any (xs : List Int) (p : Int → Bool) : (isort xs).any p = xs.any p := by
  rw [Bool.eq_iff_iff, List.any_eq_true, List.any_eq_true]
  exact ⟨fun ⟨x, h, k⟩ => ⟨x, (isort_perm xs).mem_iff.mp h, k⟩, fun ⟨x, h, k⟩ => ⟨x, (isort_perm xs).mem_iff.mpr h, k⟩⟩
/-- does a stand step to one of these -/
def tch (rs : List (List Int)) (s : List Int) (x : Int) : Bool := (rs.getD x.toNat []).any fun o => decide (o ∈ s)
theorem nbn : ¬ ("steps" : Str) = "next_of" ∧ ¬ ("marks" : Str) = "next_of" ∧ ¬ ("fair" : Str) = "next_of" := by decide +kernel
/-- what such rounds are -/
structure Rnds (f : List Int → List Int) (F : List (List Int)) (s : List Int) : Prop where
  ne : 0 < F.length
  hd : F.getD 0 [] = s
  st : ∀ i, i + 1 < F.length → F.getD (i + 1) [] = f (F.getD i [])
  lst : f (F.getD (F.length - 1) []) = F.getD (F.length - 1) []
theorem E_rng2 {a b : DV} {env : List T} {i j : Int} (h1 : a env = some (I i)) (h2 : b env = some (I j)) (h : (-(2 ^ 62) ≤ i ∧ i < 2 ^ 62) ∧ -(2 ^ 62) ≤ j ∧ j < 2 ^ 62) : dRng2 a b env = some ((List.range (j - i).toNat).map fun (k : Nat) => lfI (i + k), env) := by
  simp only [dRng2, h1, h2]; rw [if_pos h]
theorem dpIx_head (dp : DP) (env : List T) (put : T → List T) (x : List Int) (xs : List (List Int)) (h : dp env = some (ll true (x :: xs), put)) : dpIx dp (gC (.int 0)) env = some (li true x, fun t' => put (.nd true .lst (t' :: xs.map (li true)))) := by
  have : ixN ((x :: xs).map (li true)).length 0 = some 0 := by unfold ixN; simp
  unfold dpIx
  rw [h]
  show (ixN ((x :: xs).map (li true)).length 0).bind _ = _
  rw [this]
  rfl
end Pm


set_option Elab.async false
set_option linter.all false
set_option maxRecDepth 100000
set_option maxHeartbeats 4000000
/-! EV: mirrors reckoned by simp: each combinator steps by a named function that stands still until its argument is known. -/
namespace Tr
open PySem PySem.Spec PyProof.Rows L2 Pm

def okT : T → Option T
  | .no => none
  | t => some t
def okO : Option T → Option T
  | some t => okT t
  | none => none
--ev
theorem okT_lf (v : V) : okT (.lf v) = some (.lf v) := rfl
--ev
theorem okT_nd (o k xs) : okT (.nd o k xs) = some (.nd o k xs) := rfl
--ev
theorem okT_li (o xs) : okT (li o xs) = some (li o xs) := rfl
--ev
theorem okT_ll (o xs) : okT (ll o xs) = some (ll o xs) := rfl
--ev
theorem okT_dk (o xs) : okT (dk o xs) = some (dk o xs) := rfl
--ev
theorem okT_mks (o xs) : okT (mks o xs) = some (mks o xs) := rfl
--ev
theorem okT_mk1 (o xs) : okT (mk1 o xs) = some (mk1 o xs) := rfl
--ev
theorem okT_mch (o a b c) : okT (mch o a b c) = some (mch o a b c) := rfl
--ev
theorem okT_scr (ns) : okT (scrT ns) = some (scrT ns) := rfl
--ev
theorem okT_tp (o a b) : okT (tp o a b) = some (tp o a b) := rfl
--ev
theorem okO_some (t) : okO (some t) = okT t := rfl
--ev
theorem gV_ev (i : Nat) (env : List T) : gV i env = okO env[i]? := by
  unfold gV okO okT
  split <;> rename_i h <;> rw [h]
  rename_i t hne
  cases t <;> first | rfl | exact (hne rfl).elim
--ev
theorem gC_ev (v env) : gC v env = some (.lf v) := rfl
--ev
theorem gG_ev (t env) : gG t env = some t := rfl
def fM (i : Nat) (env : List T) (t : T) : Option (T × List T) := some (t, env.set i .no)
def fS (i : Nat) (env : List T) (t : T) : Option (T × List T) := some (frz t, env.set i (frz t))
--ev
theorem fM_ev (i env t) : fM i env t = some (t, env.set i .no) := rfl
--ev
theorem fS_ev (i env t) : fS i env t = some (frz t, env.set i (frz t)) := rfl
--ev
theorem gM_ev (i : Nat) (env : List T) : gM i env = (gV i env).bind (fM i env) := by unfold gM; cases gV i env <;> rfl
--ev
theorem gS_ev (i : Nat) (env : List T) : gS i env = (gV i env).bind (fS i env) := by unfold gS; cases gV i env <;> rfl
def fP {α β : Type} (e : β) (t : α) : Option (α × β) := some (t, e)
def fQ {α β : Type} (t : α) (e : β) : Option (α × β) := some (t, e)
--ev
theorem fP_ev {α β : Type} (e : β) (t : α) : fP e t = some (t, e) := rfl
--ev
theorem fQ_ev {α β : Type} (e : β) (t : α) : fQ t e = some (t, e) := rfl
--ev
theorem vr_ev (d : DV) (env) : vr d env = (d env).bind (fP env) := by unfold vr; cases d env <;> rfl
def fRe : T × List T → Option (T × List T) := fun p => if cln p.1 = true then some p else none
--ev
theorem fRe_ev (t e) : fRe (t, e) = if cln t = true then some (t, e) else none := rfl
--ev
theorem re_ev (d : DE) (env) : re d env = (d env).bind fRe := by unfold re; cases d env <;> rfl
def fO1 (o : T → Option T) : T × List T → Option (T × List T) := fun p => (o p.1).bind (fP p.2)
--ev
theorem fO1_ev (o t e) : fO1 o (t, e) = (o t).bind (fP e) := rfl
--ev
theorem o1V_ev (o) (d : DV) (env) : o1V o d env = (d env).bind o := rfl
--ev
theorem o1_ev (o) (d : DE) (env) : o1 o d env = (d env).bind (fO1 o) := by
  unfold o1 fO1; cases d env with
  | none => rfl
  | some p => simp only [Option.bind_some]; cases o p.1 <;> rfl
def fO2V (o : T → T → Option T) (vb : DV) (env : List T) (x : T) : Option T := (vb env).bind (o x)
--ev
theorem fO2V_ev (o vb env x) : fO2V o vb env x = (vb env).bind (o x) := rfl
--ev
theorem o2V_ev (o) (da db : DV) (env) : o2V o da db env = (da env).bind (fO2V o db env) := rfl
def fO2v' (o : T → T → Option T) (x : T) (e : List T) (s : T) : Option (T × List T) := (o x s).bind (fP e)
--ev
theorem fO2v'_ev (o x e s) : fO2v' o x e s = (o x s).bind (fP e) := rfl
def fO2v (o : T → T → Option T) (vb : DV) : T × List T → Option (T × List T) := fun p => (vb p.2).bind (fO2v' o p.1 p.2)
--ev
theorem fO2v_ev (o vb x e) : fO2v o vb (x, e) = (vb e).bind (fO2v' o x e) := rfl
--ev
theorem o2v_ev (o da vb env) : o2v o da vb env = (da env).bind (fO2v o vb) := by
  unfold o2v fO2v fO2v'; cases da env with
  | none => rfl
  | some p => simp only [Option.bind_some]; cases vb p.2 with
    | none => rfl
    | some s => simp only [Option.bind_some]; cases o p.1 s <;> rfl
def fO2o' (o : T → T → Option T) (x : T) : T × List T → Option (T × List T) := fun q => (o x q.1).bind (fP q.2)
--ev
theorem fO2o'_ev (o x y e) : fO2o' o x (y, e) = (o x y).bind (fP e) := rfl
def fO2o (o : T → T → Option T) (db : DE) : T × List T → Option (T × List T) := fun p => (db p.2).bind (fO2o' o p.1)
--ev
theorem fO2o_ev (o db x e) : fO2o o db (x, e) = (db e).bind (fO2o' o x) := rfl
--ev
theorem o2o_ev (o da db env) : o2o o da db env = (da env).bind (fO2o o db) := by
  unfold o2o fO2o fO2o'; cases da env with
  | none => rfl
  | some p => simp only [Option.bind_some]; cases db p.2 with
    | none => rfl
    | some s => simp only [Option.bind_some]; cases o p.1 s.1 <;> rfl
def fO2c' (o : T → T → Option T) (x : T) : T × List T → Option (T × List T) := fun q => if cln x = true then (o x q.1).bind (fP q.2) else none
--ev
theorem fO2c'_ev (o x y e) : fO2c' o x (y, e) = if cln x = true then (o x y).bind (fP e) else none := rfl
def fO2c (o : T → T → Option T) (db : DE) : T × List T → Option (T × List T) := fun p => (db p.2).bind (fO2c' o p.1)
--ev
theorem fO2c_ev (o db x e) : fO2c o db (x, e) = (db e).bind (fO2c' o x) := rfl
--ev
theorem o2c_ev (o da db env) : o2c o da db env = (da env).bind (fO2c o db) := by
  unfold o2c fO2c fO2c'; cases da env with
  | none => rfl
  | some p => simp only [Option.bind_some]; cases db p.2 with
    | none => rfl
    | some s => simp only [Option.bind_some]; cases o p.1 s.1 <;> rfl
def fO2n' (o : T → T → Option T) (i : Nat) : T × List T → Option (T × List T) := fun q => (gV i q.2).bind fun t => (o t q.1).bind (fP q.2)
def fO2n'' (o : T → T → Option T) (y : T) (e : List T) (t : T) : Option (T × List T) := (o t y).bind (fP e)
--ev
theorem fO2n''_ev (o y e t) : fO2n'' o y e t = (o t y).bind (fP e) := rfl
--ev
theorem fO2n'_ev (o i y e) : fO2n' o i (y, e) = (gV i e).bind (fO2n'' o y e) := rfl
def fO2n (o : T → T → Option T) (i : Nat) (db : DE) (env : List T) (_ : T) : Option (T × List T) := (db env).bind (fO2n' o i)
--ev
theorem fO2n_ev (o i db env t) : fO2n o i db env t = (db env).bind (fO2n' o i) := rfl
--ev
theorem o2n_ev (o i db env) : o2n o i db env = (gV i env).bind (fO2n o i db env) := by
  unfold o2n fO2n fO2n'; cases gV i env with
  | none => rfl
  | some p => simp only [Option.bind_some]; cases db env with
    | none => rfl
    | some s => simp only [Option.bind_some]; cases gV i s.2 with
      | none => rfl
      | some t => simp only [Option.bind_some]; cases o t s.1 <;> rfl
def fAnd (db : DE) : T × List T → Option (T × List T)
  | (.lf (.bl true), e) => db e
  | (.lf (.bl false), e) => some (.lf (.bl false), e)
  | _ => none
def fOr (db : DE) : T × List T → Option (T × List T)
  | (.lf (.bl true), e) => some (.lf (.bl true), e)
  | (.lf (.bl false), e) => db e
  | _ => none
--ev
theorem fAnd_ev (db b e) : fAnd db (.lf (.bl b), e) = if b = true then db e else some (.lf (.bl false), e) := by cases b <;> rfl
--ev
theorem fOr_ev (db b e) : fOr db (.lf (.bl b), e) = if b = true then some (.lf (.bl true), e) else db e := by cases b <;> rfl
--ev
theorem dAnd_ev (da db env) : dAnd da db env = (da env).bind (fAnd db) := by
  unfold dAnd; split <;> rename_i h
  · rw [h]; rfl
  · rw [h]; rfl
  · cases hd : da env with
    | none => rfl
    | some p => obtain ⟨t, e⟩ := p; rw [Option.bind_some]; unfold fAnd; split <;> simp_all
--ev
theorem dOr_ev (da db env) : dOr da db env = (da env).bind (fOr db) := by
  unfold dOr; split <;> rename_i h
  · rw [h]; rfl
  · rw [h]; rfl
  · cases hd : da env with
    | none => rfl
    | some p => obtain ⟨t, e⟩ := p; rw [Option.bind_some]; unfold fOr; split <;> simp_all
/-! merging -/
--ev
theorem ite_BB {p : Prop} [Decidable p] (b c : Bool) (e : List T) : (if p then some ((.lf (.bl b) : T), e) else some (.lf (.bl c), e)) = some (.lf (.bl (if p then b else c)), e) := by split <;> rfl
--ev
theorem ite_decF {p q : Prop} [Decidable p] [Decidable q] : (if p then decide q else false) = decide (p ∧ q) := by by_cases p <;> simp [*]
--ev
theorem ite_Tdec {p q : Prop} [Decidable p] [Decidable q] : (if p then true else decide q) = decide (p ∨ q) := by by_cases p <;> simp [*]
--ev
theorem z_cast (a b : Nat) : ((a : Int) = (b : Int)) = (a = b) := propext (by omega)
--ev
theorem z_ndec {p : Prop} [Decidable p] : (!decide p) = decide (¬ p) := by by_cases p <;> simp [*]
--ev
theorem ite_TF {p : Prop} [Decidable p] : (if p then true else false) = decide p := by by_cases p <;> simp [*]
--ev
theorem ite_FT {p : Prop} [Decidable p] : (if p then false else true) = decide (¬ p) := by by_cases p <;> simp [*]
--ev
theorem bind_ite {α β : Type} {p : Prop} [Decidable p] (x y : Option α) (f : α → Option β) : (if p then x else y).bind f = if p then x.bind f else y.bind f := by split <;> rfl
/-! arguments -/
--ev
theorem aNil_ev (env) : aNil env = some ([], env) := rfl
def fCons' (t : T) : List T × List T → Option (List T × List T) := fun q => some (t :: q.1, q.2)
def fCons (dr : DA) : T × List T → Option (List T × List T) := fun p => (dr p.2).bind (fCons' p.1)
--ev
theorem fCons'_ev (t ts e) : fCons' t (ts, e) = some (t :: ts, e) := rfl
--ev
theorem fCons_ev (dr t e) : fCons dr (t, e) = (dr e).bind (fCons' t) := rfl
--ev
theorem aCons_ev (da dr env) : aCons da dr env = (da env).bind (fCons dr) := by
  unfold aCons fCons; cases da env with
  | none => rfl
  | some p => simp only [Option.bind_some]; cases dr p.2 <;> rfl
def fCall' (bs : List (Option Nat)) (e : List T) : T × List T → Option (T × List T) := fun r => (wb bs r.2 e).bind (fQ r.1)
def fCall (f : FT) (bs : List (Option Nat)) (dv : List V) : List T × List T → Option (T × List T) := fun p => (f (p.1 ++ dv.map .lf)).bind (fCall' bs p.2)
--ev
theorem fCall'_ev (bs e t ts) : fCall' bs e (t, ts) = (wb bs ts e).bind (fQ t) := rfl
--ev
theorem fCall_ev (f bs dv ts e) : fCall f bs dv (ts, e) = (f (ts ++ dv.map .lf)).bind (fCall' bs e) := rfl
--ev
theorem dCall_ev (f bs dv da env) : dCall f bs dv da env = (da env).bind (fCall f bs dv) := by
  unfold dCall fCall fCall'; cases da env with
  | none => rfl
  | some p => simp only [Option.bind_some]; cases f (p.1 ++ dv.map .lf) with
    | none => rfl
    | some r => simp only [Option.bind_some]; cases wb bs r.2 p.2 <;> rfl
--ev
theorem wb_nil (ts env) : wb [] ts env = some env := by cases ts <;> rfl
--ev
theorem wb_none (bs t ts env) : wb (none :: bs) (t :: ts) env = wb bs ts env := rfl
def fWb (i : Nat) (bs : List (Option Nat)) (t : T) (ts env : List T) : T → Option (List T)
  | .no => wb bs ts (env.set i t)
  | _ => none
--ev
theorem fWb_ev (i bs t ts env) : fWb i bs t ts env .no = wb bs ts (env.set i t) := rfl
--ev
theorem wb_some (i bs t ts env) : wb (some i :: bs) (t :: ts) env = env[i]?.bind (fWb i bs t ts env) := by
  rw [wb]; cases env[i]? with
  | none => rfl
  | some x => cases x <;> rfl
def fMeth' (f : FT) (bs : List (Option Nat)) (dv : List V) (t : T) : List T × List T → Option (T × List T) := fun q => fCall f bs dv (t :: q.1, q.2)
def fMeth (c m : Str) (f : FT) (b0 : Option Nat) (bs : List (Option Nat)) (dv : List V) (da : DA) : T × List T → Option (T × List T) := fun p => if isIns c m p.1 = true then (da p.2).bind (fMeth' f (b0 :: bs) dv p.1) else none
--ev
theorem fMeth'_ev (f bs dv t ts e) : fMeth' f bs dv t (ts, e) = fCall f bs dv (t :: ts, e) := rfl
--ev
theorem fMeth_ev (c m f b0 bs dv da t e) : fMeth c m f b0 bs dv da (t, e) = if isIns c m t = true then (da e).bind (fMeth' f (b0 :: bs) dv t) else none := rfl
--ev
theorem dMeth_ev (c m f b0 bs dv d0 da env) : dMeth c m f b0 bs dv d0 da env = (d0 env).bind (fMeth c m f b0 bs dv da) := by
  unfold dMeth fMeth; cases d0 env with
  | none => rfl
  | some p =>
    simp only [Option.bind_some]; split
    · rw [dCall_ev]; cases da p.2 <;> rfl
    · rfl
def fMake' (bs : List (Option Nat)) (e : List T) : T × List T → Option (T × List T)
  | (.lf .non, t :: ts') => (wb bs ts' e).bind (fQ t)
  | _ => none
def fMake (c : Str) (f : FT) (bs : List (Option Nat)) (dv : List V) : List T × List T → Option (T × List T) := fun p => (f (.nd true (.ins c []) [] :: (p.1 ++ dv.map .lf))).bind (fMake' bs p.2)
--ev
theorem fMake'_ev (bs e t ts) : fMake' bs e (.lf .non, t :: ts) = (wb bs ts e).bind (fQ t) := rfl
--ev
theorem fMake_ev (c f bs dv ts e) : fMake c f bs dv (ts, e) = (f (.nd true (.ins c []) [] :: (ts ++ dv.map .lf))).bind (fMake' bs e) := rfl
--ev
theorem dMake_ev (c f bs dv da env) : dMake c f bs dv da env = (da env).bind (fMake c f bs dv) := by
  unfold dMake fMake; cases da env with
  | none => rfl
  | some p =>
    simp only [Option.bind_some]; split <;> rename_i h
    · rw [h, Option.bind_some, fMake'_ev]; cases wb bs _ p.2 <;> rfl
    · cases hd : f (.nd true (.ins c []) [] :: (p.1 ++ dv.map .lf)) with
      | none => rfl
      | some r =>
        rw [Option.bind_some]; unfold fMake'; split
        · rename_i t ts; exact (h _ _ hd).elim
        · rfl
/-! statements -/
def fSeq (b : DS) : Fl × List T → Option (Fl × List T)
  | (.nx, e) => b e
  | (r, e) => some (r, e)
--ev
theorem fSeq_nx (b e) : fSeq b (.nx, e) = b e := rfl
--ev
theorem fSeq_rt (b t e) : fSeq b (.rt t, e) = some (.rt t, e) := rfl
--ev
theorem fSeq_bk (b e) : fSeq b (.bk, e) = some (.bk, e) := rfl
--ev
theorem fSeq_ct (b e) : fSeq b (.ct, e) = some (.ct, e) := rfl
--ev
theorem dSeq_ev (a b env) : dSeq a b env = (a env).bind (fSeq b) := by
  unfold dSeq; split <;> rename_i h
  · rw [h]; rfl
  · rw [h, Option.bind_some]; unfold fSeq; split <;> simp_all
  · rw [h]; rfl
def fIf (a b : DS) : T × List T → Option (Fl × List T)
  | (.lf (.bl true), e) => a e
  | (.lf (.bl false), e) => b e
  | _ => none
--ev
theorem fIf_ev (a b x e) : fIf a b (.lf (.bl x), e) = if x = true then a e else b e := by cases x <;> rfl
--ev
theorem dIf_ev (c a b env) : dIf c a b env = (c env).bind (fIf a b) := by
  unfold dIf; split <;> rename_i h
  · rw [h]; rfl
  · rw [h]; rfl
  · cases hd : c env with
    | none => rfl
    | some p => obtain ⟨t, e⟩ := p; rw [Option.bind_some]; unfold fIf; split <;> simp_all
def fSet (i : Nat) : T × List T → Option (Fl × List T) := fun p => if i < p.2.length then some (.nx, p.2.set i p.1) else none
--ev
theorem fSet_ev (i t e) : fSet i (t, e) = if i < e.length then some (.nx, e.set i t) else none := rfl
--ev
theorem dSet_ev (i d env) : dSet i d env = (d env).bind (fSet i) := by unfold dSet; cases d env <;> rfl
def fRet : T × List T → Option (Fl × List T) := fun p => some (.rt p.1, p.2)
--ev
theorem fRet_ev (t e) : fRet (t, e) = some (.rt t, e) := rfl
--ev
theorem dRet_ev (d env) : dRet d env = (d env).bind fRet := by unfold dRet; cases d env <;> rfl
def fEx : T × List T → Option (Fl × List T) := fun p => some (.nx, p.2)
--ev
theorem fEx_ev (t e) : fEx (t, e) = some (.nx, e) := rfl
--ev
theorem dEx_ev (d env) : dEx d env = (d env).bind fEx := by unfold dEx; cases d env <;> rfl
--ev
theorem dRetN_ev (env) : dRetN env = some (.rt (.lf .non), env) := rfl
--ev
theorem dNx_ev (env) : dNx env = some (.nx, env) := rfl
--ev
theorem dBk_ev (env) : dBk env = some (.bk, env) := rfl
--ev
theorem dCt_ev (env) : dCt env = some (.ct, env) := rfl
--ev
theorem dFail_ev (env) : dFail env = none := rfl
def fPut'' (i : Nat) (e : List T) : T × T → Option (Fl × List T) := fun q => some (.nx, e.set i q.2)
def fPut' (i : Nat) (mk : V → T → List T → Option (T × T)) (t : T) (e : List T) (x : T) : T → Option (Fl × List T)
  | .lf k => (mk k x [t]).bind (fPut'' i e)
  | _ => none
def fPut1 (i : Nat) (mk : V → T → List T → Option (T × T)) (dk : DV) (t : T) (e : List T) (x : T) : Option (Fl × List T) := (dk e).bind (fPut' i mk t e x)
def fPut (i : Nat) (mk : V → T → List T → Option (T × T)) (dk : DV) : T × List T → Option (Fl × List T) := fun p => (gV i p.2).bind (fPut1 i mk dk p.1 p.2)
--ev
theorem fPut''_ev (i e x y) : fPut'' i e (x, y) = some (.nx, e.set i y) := rfl
--ev
theorem fPut'_ev (i mk t e x k) : fPut' i mk t e x (.lf k) = (mk k x [t]).bind (fPut'' i e) := rfl
--ev
theorem fPut1_ev (i mk dk t e x) : fPut1 i mk dk t e x = (dk e).bind (fPut' i mk t e x) := rfl
--ev
theorem fPut_ev (i mk dk t e) : fPut i mk dk (t, e) = (gV i e).bind (fPut1 i mk dk t e) := rfl
--ev
theorem dPut_ev (i mk dv dk env) : dPut i mk dv dk env = (dv env).bind (fPut i mk dk) := by
  unfold dPut; cases dv env with
  | none => rfl
  | some p =>
    obtain ⟨t, e⟩ := p
    show (match gV i e, dk e with
      | some t_1, some (.lf k) => (mk k t_1 [t]).map fun q => (.nx, e.set i q.2)
      | _, _ => none) = (gV i e).bind (fPut1 i mk dk t e)
    cases h1 : gV i e with
    | none => rfl
    | some x =>
      show _ = (dk e).bind (fPut' i mk t e x)
      cases h2 : dk e with
      | none => rfl
      | some y => cases y with
        | lf k => show (mk k x [t]).map _ = (mk k x [t]).bind (fPut'' i e); cases mk k x [t] <;> rfl
        | no => rfl
        | nd _ _ _ => rfl
def fMut3 (i : Nat) (e : List T) : T × T → Option (T × List T) := fun q => some (q.1, e.set i q.2)
def fMut2 (i : Nat) (op : T → List T → Option (T × T)) (ts e : List T) (t : T) : Option (T × List T) := (op t ts).bind (fMut3 i e)
def fMut1 (i : Nat) (op : T → List T → Option (T × T)) : List T × List T → Option (T × List T) := fun p => (gV i p.2).bind (fMut2 i op p.1 p.2)
def fMut (ty : String) (i : Nat) (op : T → List T → Option (T × T)) (da : DA) (env : List T) (t0 : T) : Option (T × List T) := if isTy ty t0 = true then (da env).bind (fMut1 i op) else none
--ev
theorem fMut3_ev (i e x y) : fMut3 i e (x, y) = some (x, e.set i y) := rfl
--ev
theorem fMut2_ev (i op ts e t) : fMut2 i op ts e t = (op t ts).bind (fMut3 i e) := rfl
--ev
theorem fMut1_ev (i op ts e) : fMut1 i op (ts, e) = (gV i e).bind (fMut2 i op ts e) := rfl
--ev
theorem fMut_ev (ty i op da env t0) : fMut ty i op da env t0 = if isTy ty t0 = true then (da env).bind (fMut1 i op) else none := rfl
--ev
theorem dMut_ev (ty i op da env) : dMut ty i op da env = (gV i env).bind (fMut ty i op da env) := by
  unfold dMut fMut fMut1 fMut2; cases gV i env with
  | none => rfl
  | some t0 =>
    simp only [Option.bind_some]; split
    · cases da env with
      | none => rfl
      | some p => simp only [Option.bind_some]; cases gV i p.2 with
        | none => rfl
        | some t => simp only [Option.bind_some]; cases op t p.1 <;> rfl
    · rfl
def fLst : List T × List T → Option (T × List T) := fun p => if p.1.length ≤ sizeLine then some (.nd true .lst p.1, p.2) else none
def fTup : List T × List T → Option (T × List T) := fun p => if p.1.length ≤ sizeLine then some (.nd false .tup p.1, p.2) else none
--ev
theorem fLst_ev (ts e) (h : ts.length ≤ 1000) : fLst (ts, e) = some (.nd true .lst ts, e) := by unfold fLst; rw [if_pos (Nat.le_of_lt (small h))]
--ev
theorem fTup_ev (ts e) (h : ts.length ≤ 1000) : fTup (ts, e) = some (.nd false .tup ts, e) := by unfold fTup; rw [if_pos (Nat.le_of_lt (small h))]
--ev
theorem dLst_ev (da env) : dLst da env = (da env).bind fLst := rfl
--ev
theorem dTup_ev (da env) : dTup da env = (da env).bind fTup := rfl
--ev
theorem dDic_ev (env) : dDic env = some (dk true [], env) := rfl
def fBw (env : List T) : T × List T → Option (T × List T) := fun p => if pureT p.1 = true then some (p.1, env) else none
--ev
theorem fBw_ev (env t e) : fBw env (t, e) = if pureT t = true then some (t, env) else none := rfl
--ev
theorem bw_ev (d env) : bw d env = (d (frzs env)).bind (fBw env) := by unfold bw; cases d (frzs env) <;> rfl
def fFz (i : Nat) (d : DE) (env : List T) (t : T) : Option (T × List T) := d (env.set i (frz t))
--ev
theorem fFz_ev (i d env t) : fFz i d env t = d (env.set i (frz t)) := rfl
--ev
theorem fz_ev (i d env) : fz i d env = env[i]?.bind (fFz i d env) := by unfold fz; cases env[i]? <;> rfl
def fAug' (i : Nat) (o : T → T → Option T) (t : T) : T × List T → Option (Fl × List T) := fun p => (o t p.1).bind fun u => if cln u = true then some (.nx, p.2.set i u) else none
def fAug'' (i : Nat) (e : List T) (u : T) : Option (Fl × List T) := if cln u = true then some (.nx, e.set i u) else none
--ev
theorem fAug''_ev (i e u) : fAug'' i e u = if cln u = true then some (.nx, e.set i u) else none := rfl
--ev
theorem fAug'_ev (i o t y e) : fAug' i o t (y, e) = (o t y).bind (fAug'' i e) := rfl
def fAug (i : Nat) (o : T → T → Option T) (d : DE) (env : List T) (t : T) : Option (Fl × List T) := if cln t = true then (d env).bind (fAug' i o t) else none
--ev
theorem fAug_ev (i o d env t) : fAug i o d env t = if cln t = true then (d env).bind (fAug' i o t) else none := rfl
--ev
theorem dAug_ev (i o d env) : dAug i o d env = (gV i env).bind (fAug i o d env) := by unfold dAug; cases gV i env <;> rfl
/-! answers that are asked for -/
--ev
theorem z_ex {α : Type} {fl : Fl} {e : α} {P : α → Prop} : (∃ e', (some (fl, e) : Option (Fl × α)) = some (fl, e') ∧ P e') = P e := by
  apply propext; constructor
  · rintro ⟨e', h, k⟩; cases h; exact k
  · exact fun h => ⟨e, rfl, h⟩
--ev
theorem z_exT {α β : Type} {t : β} {e : α} {P : α → Prop} : (∃ e', (some (t, e) : Option (β × α)) = some (t, e') ∧ P e') = P e := by
  apply propext; constructor
  · rintro ⟨e', h, k⟩; cases h; exact k
  · exact fun h => ⟨e, rfl, h⟩
/-! loops -/
def rngT (n : Nat) : List T := (List.range n).map fun (k : Nat) => lfI k
def fRng : T × List T → Option (List T × List T)
  | (.lf (.int j), e) => if -(2 ^ 62) ≤ j ∧ j < 2 ^ 62 then some (rngT j.toNat, e) else none
  | _ => none
theorem fRng_ev (j e) : fRng (.lf (.int j), e) = if -(2 ^ 62) ≤ j ∧ j < 2 ^ 62 then some (rngT j.toNat, e) else none := rfl
--ev
theorem fRng_nat (n : Nat) (e) (h : n ≤ 1000) : fRng (.lf (.int (n : Int)), e) = some (rngT n, e) := by rw [fRng_ev, if_pos (by omega)]; rfl
theorem fRng_int (j : Int) (e) (h : -1000 ≤ j ∧ j ≤ 1000) : fRng (.lf (.int j), e) = some (rngT j.toNat, e) := by rw [fRng_ev, if_pos (by omega)]
--ev
theorem dRng_ev (d env) : dRng d env = (d env).bind fRng := by
  unfold dRng; split <;> rename_i h
  · rw [h]; rfl
  · cases hd : d env with
    | none => rfl
    | some p =>
      obtain ⟨t, e⟩ := p; rw [Option.bind_some]; unfold fRng; split
      · rename_i hp; cases hp; exact (h _ _ hd).elim
      · rfl
def fIt' (e : List T) (its : List T) : Option (List T × List T) := some (its, e)
def fIt (f : T → Option (List T)) : T × List T → Option (List T × List T) := fun p => (f p.1).bind (fIt' p.2)
--ev
theorem fIt'_ev (e its) : fIt' e its = some (its, e) := rfl
--ev
theorem fIt_ev (f t e) : fIt f (t, e) = (f t).bind (fIt' e) := rfl
--ev
theorem dIt_ev (f d env) : dIt f d env = (d env).bind (fIt f) := by
  unfold dIt fIt; cases d env with
  | none => rfl
  | some p => simp only [Option.bind_some]; cases f p.1 <;> rfl
def fFor (dg : DG) (d : DS) : List T × List T → Option (Fl × List T) := fun p => dFr dg d p.1 p.2
--ev
theorem fFor_ev (dg d its e) : fFor dg d (its, e) = dFr dg d its e := rfl
--ev
theorem dFor_ev (di dg d env) : dFor di dg d env = (di env).bind (fFor dg d) := rfl
--ev
theorem gN_ev (i t env) : gN i t env = if i < env.length then some (env.set i t) else none := rfl
def fG (b : DG) (y : T) (e : List T) : Option (List T) := b y e
--ev
theorem fG_ev (b y e) : fG b y e = b y e := rfl
--ev
theorem gT2_ev (a b o x y env) : gT2 a b (.nd o .tup [x, y]) env = (a x env).bind (fG b y) := rfl
--ev
theorem gT2_mk1 (a b o m env) : gT2 a b (mk1 o m) env = (a (.lf (.str m.1)) env).bind (fG b (li o m.2)) := rfl
--ev
theorem dFr_nil (dg d env) : dFr dg d [] env = some (.nx, env) := rfl
def turn (dg : DG) (d : DS) (t : T) (env : List T) : Option (Fl × List T) := (dg t env).bind d
--ev
theorem turn_ev (dg d t env) : turn dg d t env = (dg t env).bind d := rfl
def fFr (dg : DG) (d : DS) (ts : List T) : Fl × List T → Option (Fl × List T)
  | (.nx, e) => dFr dg d ts e
  | (.ct, e) => dFr dg d ts e
  | (.bk, e) => some (.nx, e)
  | (.rt t, e) => some (.rt t, e)
--ev
theorem fFr_nx (dg d ts e) : fFr dg d ts (.nx, e) = dFr dg d ts e := rfl
--ev
theorem fFr_ct (dg d ts e) : fFr dg d ts (.ct, e) = dFr dg d ts e := rfl
--ev
theorem fFr_bk (dg d ts e) : fFr dg d ts (.bk, e) = some (.nx, e) := rfl
--ev
theorem fFr_rt (dg d ts t e) : fFr dg d ts (.rt t, e) = some (.rt t, e) := rfl
--ev
theorem dFr_cons (dg d t ts env) : dFr dg d (t :: ts) env = (turn dg d t env).bind (fFr dg d ts) := by
  unfold turn; rw [dFr]; cases dg t env with
  | none => rfl
  | some e => simp only [Option.bind_some]; split <;> rename_i h <;> rw [h] <;> rfl
def fWh' (c : DE) (d : DS) (m : Nat) : Fl × List T → Option (Fl × List T)
  | (.nx, e) => dWh c d m e
  | (.ct, e) => dWh c d m e
  | (.bk, e) => some (.nx, e)
  | (.rt t, e) => some (.rt t, e)
theorem fWh'_nx (c d m e) : fWh' c d m (.nx, e) = dWh c d m e := rfl
theorem fWh'_ct (c d m e) : fWh' c d m (.ct, e) = dWh c d m e := rfl
theorem fWh'_bk (c d m e) : fWh' c d m (.bk, e) = some (.nx, e) := rfl
theorem fWh'_rt (c d m t e) : fWh' c d m (.rt t, e) = some (.rt t, e) := rfl
/-- one round of a while -/
theorem wh_stop {c : DE} {d : DS} {m : Nat} {env e : List T} (h : c env = some (B false, e)) : dWh c d (m + 1) env = some (.nx, e) := by rw [dWh, h]
theorem wh_go {c : DE} {d : DS} {m : Nat} {env e e2 : List T} (h : c env = some (B true, e)) (h2 : d e = some (.nx, e2)) : dWh c d (m + 1) env = dWh c d m e2 := by rw [dWh, h]; simp only [h2]
theorem wh_rt {c : DE} {d : DS} {m : Nat} {env e e2 : List T} {t : T} (h : c env = some (B true, e)) (h2 : d e = some (.rt t, e2)) : dWh c d (m + 1) env = some (.rt t, e2) := by rw [dWh, h]; simp only [h2]
/-- loops by an invariant -/
theorem lp {dg : DG} {d : DS} (its : List T) (Iv : Nat → List T → Prop) (env : List T) (h0 : Iv 0 env)
    (hs : ∀ i t env, its[i]? = some t → Iv i env → ∃ e', (turn dg d t env = some (.nx, e') ∨ turn dg d t env = some (.ct, e')) ∧ Iv (i + 1) e') : ∃ env', dFr dg d its env = some (.nx, env') ∧ Iv its.length env' :=
  dFr_inv its Iv env h0 fun i t env h k => by
    obtain ⟨e', h1, h2⟩ := hs i t env h k
    cases hg : dg t env with
    | none => simp [turn, hg] at h1
    | some e => exact ⟨e, e', rfl, by simpa [turn, hg] using h1, h2⟩
theorem lp_li {dg : DG} {d : DS} (xs : List Int) (Iv : Nat → List T → Prop) (env : List T) (h0 : Iv 0 env)
    (hs : ∀ i (hi : i < xs.length) env, Iv i env → ∃ e', turn dg d (I xs[i]) env = some (.nx, e') ∧ Iv (i + 1) e') : ∃ env', dFr dg d (xs.map lfI) env = some (.nx, env') ∧ Iv xs.length env' := by
  have := lp (dg := dg) (d := d) (xs.map lfI) Iv env h0 fun i t env h k => by
    obtain ⟨hi, rfl⟩ := li_get h
    obtain ⟨e', h1, h2⟩ := hs i hi env k
    exact ⟨e', .inl h1, h2⟩
  simpa using this
theorem lp_rng {dg : DG} {d : DS} (n : Nat) (Iv : Nat → List T → Prop) (env : List T) (h0 : Iv 0 env)
    (hs : ∀ (i : Nat), i < n → ∀ env, Iv i env → ∃ e', turn dg d (I (i : Int)) env = some (.nx, e') ∧ Iv (i + 1) e') : ∃ env', dFr dg d (rngT n) env = some (.nx, env') ∧ Iv n env' := by
  have := lp (dg := dg) (d := d) (rngT n) Iv env h0 fun i t env h k => by
    obtain ⟨hi, rfl⟩ := rng_get h
    obtain ⟨e', h1, h2⟩ := hs i hi env k
    exact ⟨e', .inl h1, h2⟩
  simpa [rngT] using this
theorem lp_ll {dg : DG} {d : DS} (xs : List (List Int)) (Iv : Nat → List T → Prop) (env : List T) (h0 : Iv 0 env)
    (hs : ∀ i (hi : i < xs.length) env, Iv i env → ∃ e', turn dg d (li false xs[i]) env = some (.nx, e') ∧ Iv (i + 1) e') : ∃ env', dFr dg d (xs.map (li false)) env = some (.nx, env') ∧ Iv xs.length env' := by
  have := lp (dg := dg) (d := d) (xs.map (li false)) Iv env h0 fun i t env h k => by
    obtain ⟨hi, rfl⟩ := ll_get h
    obtain ⟨e', h1, h2⟩ := hs i hi env k
    exact ⟨e', .inl h1, h2⟩
  simpa using this
/-- a loop that answers at the first of these -/
theorem lp_find {dg : DG} {d : DS} (Iv : List T → Prop) (p : Int → Bool) (r : T) : ∀ (xs : List Int) (env : List T), Iv env →
    (∀ x ∈ xs, ∀ env, Iv env → ∃ e', turn dg d (I x) env = some (if p x = true then .rt r else .nx, e') ∧ Iv e') → ∃ e, Iv e ∧ dFr dg d (xs.map lfI) env = some (if xs.any p = true then .rt r else .nx, e)
  | [], env, h0, _ => ⟨env, h0, rfl⟩
  | x :: xs, env, h0, hs => by
    obtain ⟨e', h1, h2⟩ := hs x (List.mem_cons_self ..) env h0
    have h1' : turn dg d (lfI x) env = _ := h1
    rw [List.map_cons, dFr_cons, h1', Option.bind_some]
    cases hp : p x with
    | true => exact ⟨e', h2, by simp [hp, fFr_rt]⟩
    | false =>
      obtain ⟨e9, g1, g2⟩ := lp_find Iv p r xs e' h2 fun u hu => hs u (List.mem_cons_of_mem _ hu)
      exact ⟨e9, g1, by simpa [hp, fFr_nx] using g2⟩
/-! comprehensions -/
def fLc' (e : List T) (vs : List Nat) : List T × List T → Option (T × List T) := fun q => some (.nd true .lst q.1, backT e q.2 vs)
def fLc (dg : DG) (dc de : DE) (vs : List Nat) : List T × List T → Option (T × List T) := fun p => if cleanAt p.2 vs = true then (dLr dg dc de vs p.1 [] (wipeT p.2 vs)).bind (fLc' p.2 vs) else none
--ev
theorem fLc'_ev (e vs acc e2) : fLc' e vs (acc, e2) = some (.nd true .lst acc, backT e e2 vs) := rfl
--ev
theorem fLc_ev (dg dc de vs its e) : fLc dg dc de vs (its, e) = if cleanAt e vs = true then (dLr dg dc de vs its [] (wipeT e vs)).bind (fLc' e vs) else none := rfl
--ev
theorem dLc_ev (di dg dc de vs env) : dLc di dg dc de vs env = (di env).bind (fLc dg dc de vs) := by
  unfold dLc fLc; cases di env with
  | none => rfl
  | some p => simp only [Option.bind_some]; split
              · cases dLr dg dc de vs p.1 [] (wipeT p.2 vs) <;> rfl
              · rfl
--ev
theorem dLr_nil (dg dc de vs acc env) : dLr dg dc de vs [] acc env = some (acc, env) := rfl
--ev
theorem wipeT_nil (e) : wipeT e [] = e := rfl
--ev
theorem wipeT_cons (e v vs) : wipeT e (v :: vs) = (wipeT e vs).set v .no := rfl
--ev
theorem backT_nil (o e) : backT o e [] = e := rfl
--ev
theorem backT_cons (o e v vs) : backT o e (v :: vs) = backT o (e.set v (o.getD v .no)) vs := rfl
--ev
theorem cleanAt_nil (e) : cleanAt e [] = true := rfl
--ev
theorem cleanAt_cons (e v vs) : cleanAt e (v :: vs) = (decide (v < e.length) && cln (e.getD v .no) && cleanAt e vs) := by simp [cleanAt]
/-- a comprehension without a test -/
theorem lc_map {dg : DG} {de : DE} {vs : List Nat} (env : List T) (f : T → T) (its : List T) (hl : its.length ≤ 1000) (hs : ∀ t ∈ its, ∃ e e2, dg t env = some e ∧ de e = some (f t, e2) ∧ wipeT e2 vs = env) :
    dLr dg dYes de vs its [] env = some (its.map f, env) := by
  have := dLr_run (dg := dg) (dc := dYes) (de := de) (vs := vs) env (fun _ => true) f its [] (by have := small hl; simp; omega) fun t ht => by
    obtain ⟨e, e2, h1, h2, h3⟩ := hs t ht
    exact ⟨e, e, h1, rfl, fun _ => ⟨e2, h2, h3⟩, fun h => by cases h⟩
  rw [this]; congr 2; simp [List.filter_eq_self.mpr]
/-- a comprehension with a test: the items that pass, as they are -/
theorem lc_filter {dg : DG} {dc de : DE} {vs : List Nat} (env : List T) (xs : List Int) (p : Int → Bool) (hl : xs.length ≤ 1000)
    (hs : ∀ x ∈ xs, ∃ e e1, dg (I x) env = some e ∧ dc e = some (B (p x), e1) ∧ (p x = true → ∃ e2, de e1 = some (I x, e2) ∧ wipeT e2 vs = env) ∧ (p x = false → wipeT e1 vs = env)) :
    dLr dg dc de vs (xs.map lfI) [] env = some ((xs.filter p).map lfI, env) := by
  let q : T → Bool := fun t => match t with | .lf (.int o) => p o | _ => false
  have := dLr_run (dg := dg) (dc := dc) (de := de) (vs := vs) env q id (xs.map lfI) [] (by have := small hl; simp; omega) fun t ht => by
    obtain ⟨x, hx, rfl⟩ := List.mem_map.mp ht
    obtain ⟨e, e1, h1, h2, h3, h4⟩ := hs x hx
    exact ⟨e, e1, h1, h2, h3, h4⟩
  rw [this, List.map_id, List.nil_append, List.filter_map]; rfl
/-! defs -/
def fFun (keep : List Bool) : Fl × List T → Option (T × List T)
  | (.rt t, e) => some (t, outs keep e)
  | (.nx, e) => some (.lf .non, outs keep e)
  | _ => none
--ev
theorem fFun_rt (keep t e) : fFun keep (.rt t, e) = some (t, outs keep e) := rfl
--ev
theorem fFun_nx (keep e) : fFun keep (.nx, e) = some (.lf .non, outs keep e) := rfl
--ev
theorem dFun_ev (keep n d ts) : dFun keep n d ts = if ts.length = keep.length then (d (ts ++ List.replicate (n - keep.length) .no)).bind (fFun keep) else none := by
  unfold dFun; split
  · cases d (ts ++ List.replicate (n - keep.length) .no) with
    | none => rfl
    | some p => obtain ⟨r, e⟩ := p; cases r <;> rfl
  · rfl
--ev
theorem outs_cons (b bs t ts) : outs (b :: bs) (t :: ts) = (if b = true then t else .no) :: outs bs ts := rfl
--ev
theorem outs_nil (ts) : outs [] ts = [] := by cases ts <;> rfl
/-! frozen, clean, pure -/
--ev
theorem frzs_nil : frzs [] = [] := by rw [frzs]
--ev
theorem frzs_cons (t ts) : frzs (t :: ts) = frz t :: frzs ts := by rw [frzs]
theorem frz_tup2 (o a b) : frz (.nd o .tup [a, b]) = .nd false .tup [frz a, frz b] := by rw [frz, frzs, frzs, frzs]
theorem cln_dk (xs) : cln (dk false xs) = true := by rw [← frz_dk true]; exact cln_frz _
theorem cln_mks (xs) : cln (mks false xs) = true := by rw [← frz_mks true]; exact cln_frz _
theorem cln_mch (a b c) : cln (mch false a b c) = true := by rw [← frz_mch true]; exact cln_frz _
theorem cln_mk1 (m) : cln (mk1 false m) = true := by rw [← frz_mk1 true]; exact cln_frz _
theorem frz_nd (o k xs) : frz (.nd o k xs) = .nd false k (frzs xs) := by rw [frz]
theorem cln_nd (k xs) : cln (.nd false k xs) = clns xs := by rw [cln]; rfl
theorem clns_nil : clns [] = true := by rw [clns]
theorem clns_cons (t ts) : clns (t :: ts) = (cln t && clns ts) := by rw [clns]
theorem pure_nd (k xs) : pureT (.nd true k xs) = pureTs xs := by rw [pureT]; rfl
theorem pureTs_nil : pureTs [] = true := by rw [pureTs]
theorem pureTs_cons (t ts) : pureTs (t :: ts) = (pureT t && pureTs ts) := by rw [pureTs]
--ev
theorem z_frz1 (o xs) : frz (li o xs) = li false xs := frz_li o xs
--ev
theorem z_frz2 (o xs) : frz (ll o xs) = ll false xs := frz_ll o xs
--ev
theorem z_frz3 (v) : frz (.lf v) = .lf v := frz_lf v
--ev
theorem z_frz4 : frz .no = .no := frz_no
--ev
theorem z_frz5 (ns) : frz (scrT ns) = scrT ns := frz_scr ns
--ev
theorem z_frz6 (o ks) : frz (dk o ks) = dk false ks := frz_dk o ks
--ev
theorem z_frz7 (o m) : frz (mk1 o m) = mk1 false m := frz_mk1 o m
--ev
theorem z_frz8 (o ms) : frz (mks o ms) = mks false ms := frz_mks o ms
--ev
theorem z_frz9 (o a b c) : frz (mch o a b c) = mch false a b c := frz_mch o a b c
--ev
theorem z_frz10 (o a b) : frz (tp o a b) = tp false a b := frz_tp o a b
--ev
theorem z_frz11 (o k xs) : frz (.nd o k xs) = .nd false k (frzs xs) := frz_nd o k xs
--ev
theorem z_cln1 (v) : cln (.lf v) = true := cln_lf v
--ev
theorem z_cln2 : cln .no = true := cln_no
--ev
theorem z_cln3 (xs) : cln (li false xs) = true := cln_li xs
--ev
theorem z_cln4 (xs) : cln (ll false xs) = true := cln_ll xs
--ev
theorem z_cln5 (ns) : cln (scrT ns) = true := cln_scr ns
--ev
theorem z_cln6 (ks) : cln (dk false ks) = true := cln_dk ks
--ev
theorem z_cln7 (ms) : cln (mks false ms) = true := cln_mks ms
--ev
theorem z_cln8 (m) : cln (mk1 false m) = true := cln_mk1 m
--ev
theorem z_cln9 (a b c) : cln (mch false a b c) = true := cln_mch a b c
--ev
theorem z_cln10 (k xs) : cln (.nd false k xs) = clns xs := cln_nd k xs
--ev
theorem z_clns1 : clns [] = true := clns_nil
--ev
theorem z_clns2 (t ts) : clns (t :: ts) = (cln t && clns ts) := clns_cons t ts
--ev
theorem z_clns3 (xs : List Int) : clns (xs.map lfI) = true := clns_ints xs
--ev
theorem z_pure1 (v) : pureT (.lf v) = true := pure_lf v
--ev
theorem z_pure2 (xs) : pureT (li true xs) = true := pure_li xs
--ev
theorem z_pure3 (xs) : pureT (ll true xs) = true := pure_ll xs
--ev
theorem z_pure4 (ks) : pureT (dk true ks) = true := pure_dk ks
--ev
theorem z_pure5 (k xs) : pureT (.nd true k xs) = pureTs xs := pure_nd k xs
--ev
theorem z_pure6 : pureTs [] = true := pureTs_nil
--ev
theorem z_pure7 (t ts) : pureTs (t :: ts) = (pureT t && pureTs ts) := pureTs_cons t ts
/-! operators -/
--ev
theorem z_lfI (i) : lfI i = .lf (.int i) := rfl
--ev
theorem z_li (o) (xs : List Int) : (.nd o .lst (xs.map lfI) : T) = li o xs := rfl
--ev
theorem z_add (i j : Int) : oAdd (.lf (.int i)) (.lf (.int j)) = some (.lf (.int (i + j))) := rfl
--ev
theorem z_sub (i j : Int) : oSub (.lf (.int i)) (.lf (.int j)) = some (.lf (.int (i - j))) := I_sub i j
--ev
theorem z_mulr (i j : Int) (h : -1000000 < j ∧ j < 1000000) : oMul (.lf (.int i)) (.lf (.int j)) = some (.lf (.int (i * j))) := I_mul ⟨by omega, by omega⟩
--ev
theorem z_mod (i j : Int) (h : 0 < j) : oMod (.lf (.int i)) (.lf (.int j)) = some (.lf (.int (i % j))) := I_mod h
--ev
theorem z_div (i j : Int) (h : 0 < j ∧ j < 1073741824) : oDiv (.lf (.int i)) (.lf (.int j)) = some (.lf (.int (i / j))) := I_div h
--ev
theorem z_lt (i j : Int) : oLt (.lf (.int i)) (.lf (.int j)) = some (.lf (.bl (decide (i < j)))) := I_lt i j
--ev
theorem z_le (i j : Int) : oLe (.lf (.int i)) (.lf (.int j)) = some (.lf (.bl (decide (i ≤ j)))) := by simp [oLe, oI]
--ev
theorem z_gt (i j : Int) : oGt (.lf (.int i)) (.lf (.int j)) = some (.lf (.bl (decide (j < i)))) := I_gt i j
--ev
theorem z_ge (i j : Int) : oGe (.lf (.int i)) (.lf (.int j)) = some (.lf (.bl (decide (j ≤ i)))) := I_ge i j
--ev
theorem z_eq (i j : Int) : oEq (.lf (.int i)) (.lf (.int j)) = some (.lf (.bl (decide (i = j)))) := oEq_int i j
--ev
theorem z_ne (i j : Int) : oNe (.lf (.int i)) (.lf (.int j)) = some (.lf (.bl (!decide (i = j)))) := oNe_int i j
--ev
theorem z_neg (i : Int) : oNeg (.lf (.int i)) = some (.lf (.int (-i))) := I_neg i
--ev
theorem z_eqli (o o' : Bool) (xs ys : List Int) : oEq (li o xs) (li o' ys) = some (.lf (.bl (decide (xs = ys)))) := oEq_li o o' xs ys
--ev
theorem z_neli (o o' : Bool) (xs ys : List Int) : oNe (li o xs) (li o' ys) = some (.lf (.bl (!decide (xs = ys)))) := oNe_li o o' xs ys
--ev
theorem z_eqnil (o o' : Bool) (xs : List Int) : oEq (li o xs) (.nd o' .lst []) = some (.lf (.bl (decide (xs = [])))) := oEq_li o o' xs []
--ev
theorem z_nenil (o o' : Bool) (xs : List Int) : oNe (li o xs) (.nd o' .lst []) = some (.lf (.bl (!decide (xs = [])))) := oNe_li o o' xs []
--ev
theorem z_inli (x o xs) : oIn (.lf (.int x)) (li o xs) = some (.lf (.bl (decide (x ∈ xs)))) := oIn_li x o xs
--ev
theorem z_ninli (x o xs) : oNotIn (.lf (.int x)) (li o xs) = some (.lf (.bl (!decide (x ∈ xs)))) := oNotIn_li x o xs
--ev
theorem z_indk (o xs x) : oIn (.lf (.int x)) (dk o (kI xs)) = some (.lf (.bl (decide (x ∈ xs)))) := dkI_in o xs x
--ev
theorem z_nindk (o xs x) : oNotIn (.lf (.int x)) (dk o (kI xs)) = some (.lf (.bl (!decide (x ∈ xs)))) := by
  have := dkI_in o xs x
  unfold oIn at this
  obtain ⟨b, e1, e2⟩ := Option.map_eq_some_iff.mp this
  unfold oNotIn
  rw [e1]
  cases e2
  rfl
--ev
theorem z_ll (o) (xs : List (List Int)) : (.nd o .lst (xs.map (li o)) : T) = ll o xs := rfl
--ev
theorem z_mks (o) (xs : List (Str × List Int)) : (.nd o .lst (xs.map (mk1 o)) : T) = mks o xs := rfl
--ev
theorem z_nil (o : Bool) : (.nd o .lst [] : T) = li o [] := rfl
--ev
theorem z_appll (x : List Int) : mAppend (li true []) [li true x] = some (.lf .non, ll true [x]) := ap_ll [] x (by simp)
--ev
theorem z_int1 (i : Int) : oInt (.lf (.int i)) = some (.lf (.int i)) := rfl
--ev
theorem z_int2 (b : Bool) : oInt (.lf (.bl b)) = some (.lf (.int (if b = true then 1 else 0))) := rfl
--ev
theorem z_len1 (o xs) : oLen (li o xs) = some (.lf (.int xs.length)) := oLen_li o xs
--ev
theorem z_len2 (o xs) : oLen (ll o xs) = some (.lf (.int xs.length)) := oLen_ll o xs
--ev
theorem z_len3 (ns) : oLen (scrT ns) = some (.lf (.int ns.length)) := oLen_scr ns
--ev
theorem z_len4 (o ks) : oLen (dk o ks) = some (.lf (.int ks.length)) := dk_len o ks
--ev
theorem z_len5 (o ms) : oLen (mks o ms) = some (.lf (.int ms.length)) := by unfold mks oLen; simp
--ev
theorem z_len6 (o) (xs : List T) : oLen (.nd o .lst xs) = some (.lf (.int xs.length)) := rfl
--ev
theorem z_len7 (o) (xs : List T) : oLen (.nd o .tup xs) = some (.lf (.int xs.length)) := rfl
--ev
theorem z_not (b) : oNot (.lf (.bl b)) = some (.lf (.bl (!b))) := rfl
--ev
theorem z_isi1 (x) : oIsi "int" (.lf (.int x)) = some (.lf (.bl true)) := isi_int x
--ev
theorem z_isi2 (x) : oIsi "bool" (.lf (.int x)) = some (.lf (.bl false)) := isi_bool x
--ev
theorem z_isi3 (o ts) : oIsi "list" (.nd o .lst ts) = some (.lf (.bl true)) := isi_list o ts
--ev
theorem z_isi4 (o ts) : oIsi "list" (li o ts) = some (.lf (.bl true)) := isi_list o _
--ev
theorem z_isi5 (o ts) : oIsi "list" (ll o ts) = some (.lf (.bl true)) := isi_list o _
--ev
theorem z_isi6 (o ts) : oIsi "tuple" (.nd o .tup ts) = some (.lf (.bl true)) := by simp [oIsi, tyN, isiB]
--ev
theorem z_list1 (o xs) : oList (li o xs) = some (li true xs) := oList_li o xs
--ev
theorem z_sort1 (o xs) : oSorted (li o xs) = some (li true (isort xs)) := oSorted_li o xs
theorem oSortedDk (o : Bool) (K : List Int) (h : K.length < 64) : oSorted (dk o (kI K)) = some (li true (isort K)) := by
  have e : intsOf ((kI K).map fun k => T.lf (kV k)) = some K := by
    have : ((kI K).map fun k => T.lf (kV k)) = K.map lfI := by rw [List.map_map]; rfl
    rw [this, intsOf_li]
  show (intsOf ((kI K).map fun k => T.lf (kV k))).bind _ = _
  rw [e]
  simp only [Option.bind_some, h, if_true]
  rfl
--ev
theorem z_sort2 (o K) (h : K.length < 64) : oSorted (dk o (kI K)) = some (li true (isort K)) := oSortedDk o K h
--ev
theorem z_app1 (xs x) (h : xs.length ≤ 1000) : mAppend (li true xs) [.lf (.int x)] = some (.lf .non, li true (xs ++ [x])) := ap_li xs x h
--ev
theorem z_app2 (xs x) (h : xs.length ≤ 1000) : mAppend (ll true xs) [li true x] = some (.lf .non, ll true (xs ++ [x])) := ap_ll xs x h
--ev
theorem z_pop1 (L x) : mPop (li true (L ++ [x])) [] = some (.lf (.int x), li true L) := by
  unfold li mPop
  rw [List.map_append, List.map_cons, List.map_nil]
  simp [lfI]
--ev
theorem z_clr1 (xs) : mClear (li true xs) [] = some (.lf .non, li true []) := rfl
--ev
theorem z_clr2 (xs) : mClear (ll true xs) [] = some (.lf .non, ll true []) := rfl
--ev
theorem z_rev1 (xs : List Int) : mReverse (li true xs) [] = some (.lf .non, li true xs.reverse) := by
  show some (_, T.nd true .lst (xs.map lfI).reverse) = _
  rw [← List.map_reverse]; rfl
--ev
theorem z_ext1 (xs ys : List Int) (o) (h : xs.length + ys.length ≤ 1000) : mExtend (li true xs) [li o ys] = some (.lf .non, li true (xs ++ ys)) := by
  have := small h
  show (if (xs.map lfI).length + (ys.map lfI).length ≤ sizeLine then some (T.lf .non, T.nd true .lst (xs.map lfI ++ ys.map lfI)) else none) = _
  rw [if_pos (by simp; omega), ← List.map_append]; rfl
--ev
theorem z_cat1 (o o' : Bool) (xs ys : List Int) (h : xs.length + ys.length ≤ 1000) : oCat (li o xs) (li o' ys) = some (li true (xs ++ ys)) := by
  have := small h
  show (if clns (xs.map lfI) = true ∧ clns (ys.map lfI) = true ∧ (xs.map lfI).length + (ys.map lfI).length ≤ sizeLine then some (T.nd true .lst (xs.map lfI ++ ys.map lfI)) else none) = _
  rw [if_pos ⟨clns_ints _, clns_ints _, by simp; omega⟩, ← List.map_append]; rfl
--ev
theorem z_it1 (o xs) : itemsL (li o xs) = some (xs.map lfI) := items_li o xs
--ev
theorem z_it2 (o xs) : itemsL (ll o xs) = some (xs.map (li false)) := items_ll o xs
--ev
theorem z_it3 (o ms) : itemsL (mks o ms) = some (ms.map (mk1 false)) := items_mks o ms
--ev
theorem z_it4 (o) (xs : List T) : itemsL (.nd o .lst xs) = some (frzs xs) := rfl
--ev
theorem z_ty1 (o) (xs : List T) : isTy "list" (.nd o .lst xs) = true := rfl
--ev
theorem z_ty2 (o xs) : isTy "list" (li o xs) = true := rfl
--ev
theorem z_ty3 (o xs) : isTy "list" (ll o xs) = true := rfl
--ev
theorem z_ty4 (o xs) : isTy "list" (mks o xs) = true := rfl
--ev
theorem z_fst (o rs ms fs) : oFld "Machine" "steps" (mch o rs ms fs) = some (ll o rs) := fld_steps o rs ms fs
--ev
theorem z_fma (o rs ms fs) : oFld "Machine" "marks" (mch o rs ms fs) = some (mks o ms) := fld_marks o rs ms fs
--ev
theorem z_ffa (o rs ms fs) : oFld "Machine" "fair" (mch o rs ms fs) = some (ll o fs) := fld_fair o rs ms fs
--ev
theorem z_ins1 (o rs ms fs) : isIns "Machine" "next_of" (mch o rs ms fs) = true := isIns_mch o rs ms fs nbn
--ev
theorem z_ins2 (o rs ms fs) : isIns "Machine" "many" (mch o rs ms fs) = true := isIns_mch o rs ms fs (by decide +kernel)
--ev
theorem z_ins3 (o rs ms fs) : isIns "Machine" "fair_at" (mch o rs ms fs) = true := isIns_mch o rs ms fs (by decide +kernel)
--ev
theorem z_ins4 (o rs ms fs) : isIns "Machine" "marked" (mch o rs ms fs) = true := isIns_mch o rs ms fs (by decide +kernel)
--ev
theorem z_ins5 (o rs ms fs) : isIns "Machine" "before" (mch o rs ms fs) = true := isIns_mch o rs ms fs (by decide +kernel)
/-- indexing: by a number that is known to be within -/
--ev
theorem z_ixli (o) (xs : List Int) (i : Int) (h0 : 0 ≤ i) (h : i.toNat < xs.length) : oIx (li o xs) (.lf (.int i)) = some (.lf (.int (xs.getD i.toNat 0))) := by
  rw [oIx_li o xs i h0 h]; simp [h]
--ev
theorem z_ixll (o) (xs : List (List Int)) (i : Int) (h0 : 0 ≤ i) (h : i.toNat < xs.length) : oIx (ll o xs) (.lf (.int i)) = some (li o (xs.getD i.toNat [])) := by
  rw [oIx_ll o xs i h0 h]; simp [h]
--ev
theorem z_ixlast (o) (xs : List Int) (h : xs ≠ []) : oIx (li o xs) (.lf (.int (-1))) = some (.lf (.int (xs.getD (xs.length - 1) 0))) := by
  have hl : 0 < xs.length := List.length_pos_iff.mpr h
  show L2.atI (xs.map lfI) (-1) = _
  unfold L2.atI ixN
  rw [if_neg (by omega), if_pos (by simp; omega)]
  have : ((-1 + ((xs.map lfI).length : Nat) : Int)).toNat = xs.length - 1 := by simp; omega
  have h2 : ((((xs.map lfI).length : Nat) : Int) + -1).toNat = xs.length - 1 := by simp; omega
  simp only [Option.bind_some]
  have h3 : xs[xs.length - 1]? = some (xs[xs.length - 1]'(by omega)) := List.getElem?_eq_getElem _
  first
    | rw [this]; simp [lfI, h3]
    | rw [h2]; simp [lfI, h3]
--ev
theorem z_setdk (xs x) (nd : xs.Nodup) (h : x ∉ xs) (hl : xs.length < 1000) : mSetD (.int x) (dk true (kI xs)) [.lf (.bl true)] = some (.lf .non, dk true (kI (xs ++ [x]))) := dkI_put xs x nd h (small (by omega))
def fDic1' (env : List T) (k : V) : T → Option (T × List T)
  | .lf w => (keyOf k).map fun kk => (.nd true (.dK [kk]) [.lf w], env)
  | _ => none
def fDic1 (dv : DV) (env : List T) : T → Option (T × List T)
  | .lf k => (dv env).bind (fDic1' env k)
  | _ => none
--ev
theorem fDic1_ev (dv env k) : fDic1 dv env (.lf k) = (dv env).bind (fDic1' env k) := rfl
--ev
theorem fDic1'_ev (env) (k : Int) : fDic1' env (.int k) (.lf (.bl true)) = some (dk true (kI [k]), env) := rfl
--ev
theorem dDic1_ev (dk dv env) : dDic1 dk dv env = (dk env).bind (fDic1 dv env) := by
  unfold dDic1
  cases h1 : dk env with
  | none => rfl
  | some x => cases x with
    | lf k =>
      show _ = (dv env).bind (fDic1' env k)
      cases h2 : dv env with
      | none => rfl
      | some y => cases y <;> rfl
    | no => rfl
    | nd _ _ _ => rfl
def fLRg : T × List T → Option (T × List T)
  | (.lf (.int j), e) => if -(2 ^ 62) ≤ j ∧ j ≤ 2 ^ 24 then some (.nd true .lst (rngT j.toNat), e) else none
  | _ => none
def rgI (n : Nat) : List Int := (List.range n).map fun (k : Nat) => (k : Int)
theorem rgI_len (n) : (rgI n).length = n := by simp [rgI]
theorem rgI_asc (n) : Asc n (rgI n) := ⟨List.pairwise_map.mpr (List.pairwise_lt_range.imp fun h => by omega), fun x h => by
  obtain ⟨k, h2, rfl⟩ := List.mem_map.mp h
  have := List.mem_range.mp h2
  omega⟩
theorem asc_up {n : Nat} {xs : List Int} (h : Asc n xs) : Asc (n + 1) xs := ⟨h.lt, fun x hx => by have := h.bd x hx; omega⟩
theorem asc_snoc {n : Nat} {xs : List Int} (h : Asc n xs) : Asc (n + 1) (xs ++ [(n : Int)]) := by
  have one : ∀ b : Int, b ∈ [(n : Int)] → b = (n : Int) := fun b hb => by simpa using hb
  constructor
  · rw [List.pairwise_append]
    refine ⟨h.lt, List.pairwise_singleton _ _, fun a ha b hb => ?_⟩
    have h1 := h.bd a ha
    have h2 := one b hb
    omega
  · intro x hx
    rcases List.mem_append.mp hx with hx | hx
    · have := h.bd x hx; omega
    · have := one x hx; omega
theorem asc_one {n : Nat} {x : Int} (h : 0 ≤ x ∧ x < n) : Asc n [x] := by
  refine ⟨List.pairwise_singleton _ _, fun y hy => ?_⟩
  have : y = x := by simpa using hy
  omega
theorem mem_rgI {n : Nat} {x : Int} : x ∈ rgI n ↔ 0 ≤ x ∧ x < n := ⟨(rgI_asc n).bd x, fun h => List.mem_map.mpr ⟨x.toNat, List.mem_range.mpr (by omega), by omega⟩⟩
theorem rngT_rgI (n) : rngT n = (rgI n).map lfI := rng_map n
--ev
theorem fLRg_nat (n : Nat) (e) (h : n ≤ 1000) : fLRg (.lf (.int (n : Int)), e) = some (li true (rgI n), e) := by
  show (if -(2 ^ 62) ≤ (n : Int) ∧ (n : Int) ≤ 2 ^ 24 then some (T.nd true .lst (rngT (n : Int).toNat), e) else none) = _
  rw [if_pos (by omega)]; simp only [Int.toNat_natCast]; rw [rngT_rgI]; rfl
--ev
theorem dLRg_ev (d env) : dLRg d env = (d env).bind fLRg := by
  unfold dLRg; split <;> rename_i h
  · rw [h]; rfl
  · cases hd : d env with
    | none => rfl
    | some p =>
      obtain ⟨t, e⟩ := p; rw [Option.bind_some]; unfold fLRg; split
      · rename_i hp; cases hp; exact (h _ _ hd).elim
      · rfl
--ev
theorem z_len8 (n) : (rngT n).length = n := by simp [rngT]
--ev
theorem z_bind_some {α β : Type} (a : α) (f : α → Option β) : (some a).bind f = f a := rfl
--ev
theorem z_get0 {α : Type} (a : α) (l : List α) : (a :: l)[0]? = some a := rfl
--ev
theorem z_gets {α : Type} (a : α) (l : List α) (i : Nat) : (a :: l)[i + 1]? = l[i]? := rfl
--ev
theorem z_getD0 {α : Type} (a d : α) (l : List α) : (a :: l).getD 0 d = a := rfl
--ev
theorem z_getDs {α : Type} (a d : α) (l : List α) (i : Nat) : (a :: l).getD (i + 1) d = l.getD i d := rfl
--ev
theorem z_set0 {α : Type} (a b : α) (l : List α) : (a :: l).set 0 b = b :: l := rfl
--ev
theorem z_sets {α : Type} (a b : α) (l : List α) (i : Nat) : (a :: l).set (i + 1) b = a :: l.set i b := rfl
--ev
theorem z_app {α : Type} (a : α) (l m : List α) : (a :: l) ++ m = a :: (l ++ m) := rfl
--ev
theorem z_nil_app {α : Type} (m : List α) : ([] : List α) ++ m = m := rfl
--ev
theorem z_app_nil {α : Type} (m : List α) : m ++ [] = m := List.append_nil m
--ev
theorem z_map0 {α β : Type} (f : α → β) : [].map f = [] := rfl
--ev
theorem z_mapc (v : V) (l : List V) : (v :: l).map T.lf = T.lf v :: l.map T.lf := rfl
--ev
theorem z_rep0 : List.replicate 0 T.no = [] := rfl
--ev
theorem z_reps (n) : List.replicate (n + 1) T.no = T.no :: List.replicate n T.no := rfl
--ev
theorem z_lenc {α : Type} (a : α) (l : List α) : (a :: l).length = l.length + 1 := rfl
--ev
theorem z_lenn {α : Type} : ([] : List α).length = 0 := rfl
end Tr


set_option Elab.async false
set_option linter.all false
set_option maxRecDepth 100000
set_option maxHeartbeats 4000000
/-! EV2: more things: lists by a function of the place (ranks, Nones), dicts of lists; a loop that answers at the first of these. -/
namespace Tr
open PySem PySem.Spec PyProof.Rows L2 Pm

--ev
theorem z_c0 : ((0 : Nat) : Int) = 0 := rfl
--ev
theorem z_c1 : ((1 : Nat) : Int) = 1 := rfl
--ev
theorem z_c2 : ((2 : Nat) : Int) = 2 := rfl
--ev
theorem z_c3 : ((3 : Nat) : Int) = 3 := rfl
def oV : Option Int → T
  | some i => I i
  | none => N
theorem frz_oV (x : Option Int) : frz (oV x) = oV x := by cases x <;> exact frz_lf _
theorem cln_oV (x : Option Int) : cln (oV x) = true := by cases x <;> exact cln_lf _
theorem pure_oV (x : Option Int) : pureT (oV x) = true := by cases x <;> exact pure_lf _
theorem okT_oV (x) : okT (oV x) = some (oV x) := by cases x <;> rfl
/-- a rank, or None -/
def rkT : Option (Int × Option Int) → T
  | none => N
  | some r => .nd false .tup [I r.1, oV r.2]
theorem frz_rk (x) : frz (rkT x) = rkT x := by cases x with
  | none => exact frz_lf _
  | some r => unfold rkT; rw [frz_nd, frzs, frzs, frzs, frz_lf, frz_oV]
theorem cln_rk (x) : cln (rkT x) = true := by rw [← frz_rk]; exact cln_frz _
theorem okT_rk (x) : okT (rkT x) = some (rkT x) := by cases x <;> rfl
/-- a list with a thing for each of n -/
def tl (o : Bool) (n : Nat) (f : Int → T) : T := .nd o .lst ((rgI n).map f)
def rl (o : Bool) (n : Nat) (F : Int → Option (Int × Option Int)) : T := tl o n fun x => rkT (F x)
theorem rgI_get {n : Nat} {i : Nat} (h : i < n) : (rgI n)[i]? = some (i : Int) := by simp [rgI, h]
theorem ix_tl (o n f i) (h0 : 0 ≤ i) (h : i.toNat < n) : oIx (tl o n f) (.lf (.int i)) = some (f i) := by
  show L2.atI ((rgI n).map f) i = _
  rw [atI_of h0 (by simpa [rgI_len] using h), List.getElem?_map, rgI_get h]
  simp [show ((i.toNat : Nat) : Int) = i by omega]
theorem set_tl (n f i t) (h0 : 0 ≤ i) (h : i.toNat < n) : mSetL (.int i) (tl true n f) [t] = some (.lf .non, tl true n fun y => if y = i then t else f y) := by
  have e : ixN ((rgI n).map f).length i = some i.toNat := by
    unfold ixN
    rw [if_pos h0, if_pos (by simp [rgI_len]; omega)]
  show (ixN ((rgI n).map f).length i).map _ = _
  rw [e]
  simp only [Option.map_some, tl]
  congr 3
  refine List.ext_getElem (by simp) fun j h1 h2 => ?_
  rw [List.getElem_set]
  simp only [List.getElem_map]
  have hj : (rgI n)[j]'(by simpa using h2) = (j : Int) := by
    have := rgI_get (n := n) (i := j) (by simpa [rgI_len] using h2)
    rw [List.getElem?_eq_getElem (by simpa using h2)] at this
    exact Option.some.inj this
  rw [hj]
  by_cases hi : i.toNat = j
  · rw [if_pos hi, if_pos (by omega)]
  · rw [if_neg hi, if_neg (by omega)]
theorem frz_tl (o n f) : frz (tl o n f) = tl false n fun x => frz (f x) := by
  unfold tl; rw [frz_nd, frzs_map, List.map_map]; rfl
theorem len_tl (o n f) : oLen (tl o n f) = some (.lf (.int n)) := by
  show some (I ((rgI n).map f).length) = _; rw [List.length_map, rgI_len]
theorem it_tl (o n f) : itemsL (tl o n f) = some ((rgI n).map fun x => frz (f x)) := by
  show some (frzs ((rgI n).map f)) = _; rw [frzs_map, List.map_map]; rfl
--ev
theorem z_okoV (x) : okT (oV x) = some (oV x) := okT_oV x
--ev
theorem z_okrk (x) : okT (rkT x) = some (rkT x) := okT_rk x
--ev
theorem z_okrl (o n F) : okT (rl o n F) = some (rl o n F) := rfl
--ev
theorem z_frzoV (x) : frz (oV x) = oV x := frz_oV x
--ev
theorem z_clnoV (x) : cln (oV x) = true := cln_oV x
--ev
theorem z_pureoV (x) : pureT (oV x) = true := pure_oV x
--ev
theorem z_frzrk (x) : frz (rkT x) = rkT x := frz_rk x
--ev
theorem z_clnrk (x) : cln (rkT x) = true := cln_rk x
theorem frz_rl (o n F) : frz (rl o n F) = rl false n F := by
  unfold rl; rw [frz_tl]; simp only [frz_rk]
--ev
theorem z_frzrl (o n F) : frz (rl o n F) = rl false n F := frz_rl o n F
--ev
theorem z_clnrl (n F) : cln (rl false n F) = true := by rw [← frz_rl true]; exact cln_frz _
--ev
theorem z_ixrl (o n F i) (h0 : 0 ≤ i) (h : i.toNat < n) : oIx (rl o n F) (.lf (.int i)) = some (rkT (F i)) := ix_tl o n _ i h0 h
--ev
theorem z_lenrl (o n F) : oLen (rl o n F) = some (.lf (.int n)) := len_tl o n _
--ev
theorem z_isirl (o n F) : oIsi "list" (rl o n F) = some (.lf (.bl true)) := isi_list o _
--ev
theorem z_tyrl (o n F) : isTy "list" (rl o n F) = true := rfl
--ev
theorem z_clrrl (n F) : mClear (rl true n F) [] = some (.lf .non, li true []) := rfl
--ev
theorem z_oVs (i) : oV (some i) = .lf (.int i) := rfl
--ev
theorem z_oVn : oV none = .lf .non := rfl
--ev
theorem z_rks (d m) : rkT (some (d, m)) = .nd false .tup [.lf (.int d), oV m] := rfl
--ev
theorem z_rkn : rkT none = .lf .non := rfl
--ev
theorem z_ixt0 (o a xs) : oIx (.nd o .tup (a :: xs)) (.lf (.int 0)) = some a := by
  show L2.atI (a :: xs) 0 = _; rw [atI_of (by omega) (by simp)]; rfl
--ev
theorem z_ixt1 (o a b xs) : oIx (.nd o .tup (a :: b :: xs)) (.lf (.int 1)) = some b := by
  show L2.atI (a :: b :: xs) 1 = _; rw [atI_of (by omega) (by simp)]; rfl
--ev
theorem z_isN1 : oIsN (.lf .non) (.lf .non) = some (.lf (.bl true)) := rfl
--ev
theorem z_isN2 (i) : oIsN (.lf (.int i)) (.lf .non) = some (.lf (.bl false)) := rfl
--ev
theorem z_isN3 (o k xs) : oIsN (.nd o k xs) (.lf .non) = some (.lf (.bl false)) := rfl
--ev
theorem z_notN1 : oNotN (.lf .non) (.lf .non) = some (.lf (.bl false)) := rfl
--ev
theorem z_notN2 (i) : oNotN (.lf (.int i)) (.lf .non) = some (.lf (.bl true)) := rfl
--ev
theorem z_notN3 (o k xs) : oNotN (.nd o k xs) (.lf .non) = some (.lf (.bl true)) := rfl
--ev
theorem z_isN4 (x) : oIsN (rkT x) (.lf .non) = some (.lf (.bl x.isNone)) := by cases x <;> rfl
--ev
theorem z_notN4 (x) : oNotN (rkT x) (.lf .non) = some (.lf (.bl x.isSome)) := by cases x <;> rfl
--ev
theorem z_isN5 (x) : oIsN (oV x) (.lf .non) = some (.lf (.bl x.isNone)) := by cases x <;> rfl
--ev
theorem z_notN5 (x) : oNotN (oV x) (.lf .non) = some (.lf (.bl x.isSome)) := by cases x <;> rfl
def fCh3 (o2 : T → T → Option T) (vc : DV) (env : List T) (y : T) : T → Option T
  | .lf (.bl true) => (vc env).bind (o2 y)
  | .lf (.bl false) => some (.lf (.bl false))
  | _ => none
--ev
theorem fCh3_ev (o2 vc env y b) : fCh3 o2 vc env y (.lf (.bl b)) = if b = true then (vc env).bind (o2 y) else some (.lf (.bl false)) := by cases b <;> rfl
def fCh2 (o1 o2 : T → T → Option T) (vc : DV) (env : List T) (x y : T) : Option T := (o1 x y).bind (fCh3 o2 vc env y)
--ev
theorem fCh2_ev (o1 o2 vc env x y) : fCh2 o1 o2 vc env x y = (o1 x y).bind (fCh3 o2 vc env y) := rfl
def fCh1 (o1 o2 : T → T → Option T) (vb vc : DV) (env : List T) (x : T) : Option T := (vb env).bind (fCh2 o1 o2 vc env x)
--ev
theorem fCh1_ev (o1 o2 vb vc env x) : fCh1 o1 o2 vb vc env x = (vb env).bind (fCh2 o1 o2 vc env x) := rfl
--ev
theorem z_ch (o1 o2 : T → T → Option T) (va vb vc : DV) (env) : oCh o1 o2 va vb vc env = (va env).bind (fCh1 o1 o2 vb vc env) := by
  unfold oCh fCh1 fCh2
  cases va env with
  | none => rfl
  | some x =>
    simp only [Option.bind_some]
    cases vb env with
    | none => rfl
    | some y =>
      simp only [Option.bind_some]
      split <;> rename_i h
      · rw [h]; rfl
      · rw [h]; rfl
      · cases hd : o1 x y with
        | none => rfl
        | some z => rw [Option.bind_some]; unfold fCh3; split <;> simp_all
/-! ### dicts of lists -/
def dls (o : Bool) (ks : List Int) (F : Int → List Int) : T := .nd o (.dK (kI ks)) (ks.map fun s => li o (F s))
--ev
theorem z_okdls (o ks F) : okT (dls o ks F) = some (dls o ks F) := rfl
theorem frz_dls (o ks F) : frz (dls o ks F) = dls false ks F := by
  unfold dls; rw [frz_nd, frzs_map, List.map_map]; congr 1; exact List.map_congr_left fun x _ => frz_li o _
--ev
theorem z_frzdls (o ks F) : frz (dls o ks F) = dls false ks F := frz_dls o ks F
--ev
theorem z_clndls (ks F) : cln (dls false ks F) = true := by rw [← frz_dls true]; exact cln_frz _
theorem getK_kI (f : Int → T) : ∀ (ks : List Int) (x : Int), x ∈ ks → getK (kI ks) (ks.map f) (Sum.inl x) = some (f x)
  | [], _, h => by cases h
  | k :: ks, x, h => by
    rw [List.map_cons]
    show (if (Sum.inl k : Key) = Sum.inl x then some (f k) else getK (kI ks) (ks.map f) (Sum.inl x)) = _
    by_cases e : k = x
    · subst e; rw [if_pos rfl]
    · rw [if_neg fun z => e (Sum.inl.inj z)]
      exact getK_kI f ks x ((List.mem_cons.mp h).resolve_left fun z => e z.symm)
--ev
theorem z_ixdls (o ks F x) (h : x ∈ ks) : oIx (dls o ks F) (.lf (.int x)) = some (li o (F x)) := getK_kI _ ks x h
--ev
theorem z_indls (o ks F x) : oIn (.lf (.int x)) (dls o ks F) = some (.lf (.bl (decide (x ∈ ks)))) := by
  have := dkI_in o ks x
  exact this
theorem set_dls (ks F x) (nd : ks.Nodup) (h : x ∉ ks) (hl : ks.length ≤ 1000) : mSetD (.int x) (dls true ks F) [li true (F x)] = some (.lf .non, dls true (ks ++ [x]) F) := by
  have := small hl
  unfold dls mSetD
  simp only [keyOf, Option.bind_some, List.length_map, this, nodupK_iff (kI_nd nd), and_self, if_true]
  rw [putKT_last (kI ks) _ (fun e => h (kI_mem.mp e)) (by simp)]
  simp
/-! ### dicts of dicts of keys -/
def dds (o : Bool) (ks : List Int) (F : Int → List Int) : T := .nd o (.dK (kI ks)) (ks.map fun s => dk o (kI (F s)))
--ev
theorem z_okdds (o ks F) : okT (dds o ks F) = some (dds o ks F) := rfl
theorem frz_dds (o ks F) : frz (dds o ks F) = dds false ks F := by
  unfold dds; rw [frz_nd, frzs_map, List.map_map]; congr 1; exact List.map_congr_left fun x _ => frz_dk o _
--ev
theorem z_frzdds (o ks F) : frz (dds o ks F) = dds false ks F := frz_dds o ks F
--ev
theorem z_clndds (ks F) : cln (dds false ks F) = true := by rw [← frz_dds true]; exact cln_frz _
--ev
theorem z_ixdds (o ks F x) (h : x ∈ ks) : oIx (dds o ks F) (.lf (.int x)) = some (dk o (kI (F x))) := getK_kI _ ks x h
theorem set_dds (ks F x) (nd : ks.Nodup) (h : x ∉ ks) (hl : ks.length ≤ 1000) : mSetD (.int x) (dds true ks F) [dk true (kI (F x))] = some (.lf .non, dds true (ks ++ [x]) F) := by
  have := small hl
  unfold dds mSetD
  simp only [keyOf, Option.bind_some, List.length_map, this, nodupK_iff (kI_nd nd), and_self, if_true]
  rw [putKT_last (kI ks) _ (fun e => h (kI_mem.mp e)) (by simp)]
  simp
/-! ### a value into a target -/
def fAsg' (e : List T) : Option (Fl × List T) := some (.nx, e)
--ev
theorem fAsg'_ev (e) : fAsg' e = some (.nx, e) := rfl
def fAsg (dg : DG) : T × List T → Option (Fl × List T) := fun p => (dg p.1 p.2).bind fAsg'
--ev
theorem fAsg_ev (dg t e) : fAsg dg (t, e) = (dg t e).bind fAsg' := rfl
--ev
theorem dAsg_ev (d dg env) : dAsg d dg env = (d env).bind (fAsg dg) := by
  unfold dAsg fAsg
  cases d env with
  | none => rfl
  | some p => simp only [Option.bind_some]; cases dg p.1 p.2 <;> rfl
/-! ### a loop that answers -/
theorem lp_findT {α : Type} {dg : DG} {d : DS} (Iv : List T → Prop) (p : α → Bool) (r : T) (c : α → T) : ∀ (xs : List α) (env : List T), Iv env →
    (∀ x ∈ xs, ∀ env, Iv env → ∃ e', turn dg d (c x) env = some (if p x = true then .rt r else .nx, e') ∧ Iv e') → ∃ e, Iv e ∧ dFr dg d (xs.map c) env = some (if xs.any p = true then .rt r else .nx, e)
  | [], env, h0, _ => ⟨env, h0, rfl⟩
  | x :: xs, env, h0, hs => by
    obtain ⟨e', h1, h2⟩ := hs x (List.mem_cons_self ..) env h0
    rw [List.map_cons, dFr_cons, h1, Option.bind_some]
    cases hp : p x with
    | true => exact ⟨e', h2, by simp [hp, fFr_rt]⟩
    | false =>
      obtain ⟨e9, g1, g2⟩ := lp_findT Iv p r c xs e' h2 fun u hu => hs u (List.mem_cons_of_mem _ hu)
      exact ⟨e9, g1, by simpa [hp, fFr_nx] using g2⟩
theorem take_filter {α : Type} (p : α → Bool) (xs : List α) (i : Nat) (h : i < xs.length) : (xs.take (i + 1)).filter p = (xs.take i).filter p ++ if p xs[i] = true then [xs[i]] else [] := by
  rw [List.take_succ_eq_append_getElem h, List.filter_append]
  congr 1
  by_cases hp : p xs[i] = true <;> simp [hp]

def flF (r : Int → T) : Option Int → Fl
  | some x => .rt (r x)
  | none => .nx
theorem lp_first {dg : DG} {d : DS} (Iv : List T → Prop) (p : Int → Bool) (r : Int → T) : ∀ (xs : List Int) (env : List T), Iv env →
    (∀ x ∈ xs, ∀ env, Iv env → ∃ e', turn dg d (I x) env = some (if p x = true then .rt (r x) else .nx, e') ∧ Iv e') → ∃ e, Iv e ∧ dFr dg d (xs.map lfI) env = some (flF r (xs.find? p), e)
  | [], env, h0, _ => ⟨env, h0, rfl⟩
  | x :: xs, env, h0, hs => by
    obtain ⟨e', h1, h2⟩ := hs x (List.mem_cons_self ..) env h0
    have h1' : turn dg d (lfI x) env = _ := h1
    rw [List.map_cons, dFr_cons, h1', Option.bind_some]
    cases hp : p x with
    | true => exact ⟨e', h2, by simp [hp, fFr_rt, flF]⟩
    | false =>
      obtain ⟨e9, g1, g2⟩ := lp_first Iv p r xs e' h2 fun u hu => hs u (List.mem_cons_of_mem _ hu)
      exact ⟨e9, g1, by simpa [hp, fFr_nx] using g2⟩
/-! ### all frozen meanwhile -/
--ev
theorem fBwS_ev (env w e) : fBwS env (.lf w, e) = some (.lf w, env) := rfl
--ev
theorem bwS_ev (d env) : bwS d env = (d (frzs env)).bind (fBwS env) := rfl
/-! ### slices -/
def fPt : T → Option (Option Int)
  | .lf (.int i) => some (some i)
  | _ => none
--ev
theorem fPt_ev (i) : fPt (.lf (.int i)) = some (some i) := rfl
--ev
theorem ptT_no (e) : ptT none e = some none := rfl
--ev
theorem ptT_so (v e) : ptT (some v) e = (v e).bind fPt := by
  show (match v e with | some (.lf (.int i)) => some (some i) | _ => none) = _
  cases v e with
  | none => rfl
  | some t => cases t with
    | lf w => cases w <;> rfl
    | _ => rfl
def fSl2 (o : Option Int → Option Int → T → Option T) (t : T) (e : List T) (l u : Option Int) : Option (T × List T) := (o l u t).bind (fP e)
--ev
theorem fSl2_ev (o t e l u) : fSl2 o t e l u = (o l u t).bind (fP e) := rfl
def fSl1 (o : Option Int → Option Int → T → Option T) (hi : Option DV) (t : T) (e : List T) (l : Option Int) : Option (T × List T) := (ptT hi e).bind (fSl2 o t e l)
--ev
theorem fSl1_ev (o hi t e l) : fSl1 o hi t e l = (ptT hi e).bind (fSl2 o t e l) := rfl
def fSl (o : Option Int → Option Int → T → Option T) (lo hi : Option DV) : T × List T → Option (T × List T) := fun p => (ptT lo p.2).bind (fSl1 o hi p.1 p.2)
--ev
theorem fSl_ev (o lo hi t e) : fSl o lo hi (t, e) = (ptT lo e).bind (fSl1 o hi t e) := rfl
--ev
theorem dSl_ev (o d lo hi env) : dSl o d lo hi env = (d env).bind (fSl o lo hi) := by
  unfold dSl fSl fSl1 fSl2
  cases d env with
  | none => rfl
  | some p =>
    simp only [Option.bind_some]
    cases ptT lo p.2 with
    | none => rfl
    | some l =>
      simp only [Option.bind_some]
      cases ptT hi p.2 with
      | none => rfl
      | some u => simp only [Option.bind_some]; cases o l u p.1 <;> rfl
theorem cutT_map {α β : Type} (f : α → β) (xs : List α) (l u) : cutT (xs.map f) l u = (cutT xs l u).map f := by
  unfold cutT; rw [List.length_map, List.map_take, List.map_drop]
--ev
theorem z_slli (o xs l u) : oSlL l u (li o xs) = some (li true (cutT xs l u)) := by
  show (if clns (xs.map lfI) = true then some (T.nd true .lst (cutT (xs.map lfI) l u)) else none) = _
  rw [clns_ints, cutT_map]; rfl
--ev
theorem z_cutTail {α : Type} (xs : List α) : cutT xs (some 1) none = xs.tail := by
  unfold cutT
  rw [HT.sIx_none, show HT.sIx xs.length 0 (some 1) = min 1 xs.length from HT.sIx_nat _ _ 1]
  cases xs with
  | nil => rfl
  | cons a l => simp
--ev
theorem z_cutInit {α : Type} (xs : List α) : cutT xs none (some (-1)) = xs.dropLast := by
  unfold cutT
  rw [HT.sIx_none]
  show (xs.drop 0).take ((-1 + (xs.length : Int)).toNat - 0) = _
  rw [List.dropLast_eq_take, List.drop_zero]
  congr 1
  omega
end Tr


set_option Elab.async false
set_option linter.all false
set_option autoImplicit false
set_option maxRecDepth 100000
set_option maxHeartbeats 4000000
/-! EV3: texts by their codes. -/
namespace Tr
open PySem PySem.Spec PyProof.Rows L2 Pm

/-- a text by its codes -/
def tx (l : List Nat) : T := .lf (.str ⟨l.toArray⟩)
--ev
theorem z_okst (l) : okT (tx l) = some (tx l) := rfl
--ev
theorem z_frzst (l) : frz (tx l) = tx l := frz_lf _
--ev
theorem z_clnst (l) : cln (tx l) = true := cln_lf _
--ev
theorem z_purest (l) : pureT (tx l) = true := pure_lf _
theorem str_len (l : List Nat) : (⟨l.toArray⟩ : Str).length = l.length := by show l.toArray.size = _; simp
theorem str_inj {a b : List Nat} : ((⟨a.toArray⟩ : Str) = ⟨b.toArray⟩) ↔ a = b := by
  constructor
  · intro h
    have := congrArg (fun s : Str => s.cps.toList) h
    simpa using this
  · rintro rfl; rfl
--ev
theorem z_addst (a b : List Nat) (h : a.length + b.length ≤ 1000) : oAdd (tx a) (tx b) = some (tx (a ++ b)) := by
  have := small h
  show (if (⟨a.toArray⟩ : Str).length + (⟨b.toArray⟩ : Str).length ≤ sizeLine then some (T.lf (.str (⟨a.toArray⟩ ++ ⟨b.toArray⟩))) else none) = _
  rw [str_len, str_len, if_pos (by omega)]
  unfold tx
  congr 3
  show (⟨a.toArray ++ b.toArray⟩ : Str) = _
  simp
--ev
theorem z_lenst (a : List Nat) (h : a.length ≤ 1000) : oLen (tx a) = some (.lf (.int a.length)) := by
  have := small h
  unfold tx oLen
  simp only [str_len]
  rw [if_pos (by omega)]
--ev
theorem z_inst1 (c : Nat) (l : List Nat) : oIn (tx [c]) (tx l) = some (.lf (.bl (decide (c ∈ l)))) := by
  show (inB (tx [c]) (tx l)).map _ = _
  unfold tx inB; simp
--ev
theorem z_ninst1 (c : Nat) (l : List Nat) : oNotIn (tx [c]) (tx l) = some (.lf (.bl (!decide (c ∈ l)))) := by
  show (inB (tx [c]) (tx l)).map _ = _
  unfold tx inB; simp
--ev
theorem z_ixst (l : List Nat) (i : Int) (hl : l.length ≤ 1000) (h0 : 0 ≤ i) (h : i.toNat < l.length) : oIx (tx l) (.lf (.int i)) = some (tx [l.getD i.toNat 0]) := by
  have := small hl
  show (if (⟨l.toArray⟩ : Str).length ≤ sizeLine then (L2.atI (⟨l.toArray⟩ : Str).cps.toList i).map fun c => T.lf (.str ⟨#[c]⟩) else none) = _
  rw [str_len, if_pos (by omega)]
  show (L2.atI l i).map _ = _
  rw [atI_of h0 h, List.getElem?_eq_getElem h]
  simp [tx, h]
/-- codes of signs that there are -/
def Okc (l : List Nat) : Bool := l.all fun c => decide (c < 1114112)
theorem shaped_str {s : Str} (h : PyData.strOk s = true) : SeqAt.shaped (.str s) = true := by
  unfold SeqAt.shaped
  rw [PyData.canLay0, PyData.depth, h]
  decide
theorem strOk_st {l : List Nat} (h : Okc l = true) : PyData.strOk ⟨l.toArray⟩ = true := by
  unfold PyData.strOk; simpa [Okc] using h
theorem oEq_str {s t : Str} (hs : PyData.strOk s = true) (ht : PyData.strOk t = true) : oEq (.lf (.str s)) (.lf (.str t)) = some (.lf (.bl (decide (s = t)))) := by
  unfold oEq
  simp only [toD, Option.bind_some, shaped_str hs, shaped_str ht, and_self, if_true, PyData.eqv]
  by_cases h : s = t <;> simp [h]
theorem oNe_str {s t : Str} (hs : PyData.strOk s = true) (ht : PyData.strOk t = true) : oNe (.lf (.str s)) (.lf (.str t)) = some (.lf (.bl (!decide (s = t)))) := by
  unfold oNe
  simp only [toD, Option.bind_some, shaped_str hs, shaped_str ht, and_self, if_true, PyData.eqv]
  by_cases h : s = t <;> simp [h]
/-- are two texts alike -/
def eqL (a b : List Nat) : Bool := decide (a = b)
--ev
theorem eqL_self (a) : eqL a a = true := decide_eq_true rfl
--ev
theorem eqL_nn : eqL [] [] = true := rfl
--ev
theorem eqL_nc (c a) : eqL [] (c :: a) = false := rfl
--ev
theorem eqL_cn (c a) : eqL (c :: a) [] = false := rfl
--ev
theorem eqL_cc (c a d b) : eqL (c :: a) (d :: b) = (decide (c = d) && eqL a b) := by
  unfold eqL; by_cases h : c = d <;> by_cases k : a = b <;> simp [h, k]
theorem eqL_iff {a b : List Nat} : eqL a b = true ↔ a = b := decide_eq_true_iff
theorem eqL_ne {a b : List Nat} (h : a ≠ b) : eqL a b = false := decide_eq_false h
--ev
theorem z_eqst (a b : List Nat) (ha : Okc a = true) (hb : Okc b = true) : oEq (tx a) (tx b) = some (.lf (.bl (eqL a b))) := by unfold tx; rw [oEq_str (strOk_st ha) (strOk_st hb)]; simp only [str_inj, eqL]
--ev
theorem z_nest (a b : List Nat) (ha : Okc a = true) (hb : Okc b = true) : oNe (tx a) (tx b) = some (.lf (.bl (!eqL a b))) := by unfold tx; rw [oNe_str (strOk_st ha) (strOk_st hb)]; simp only [str_inj, eqL]
theorem any_st (x : List Nat) (ws : List (List Nat)) : (ws.map tx).any (eqT (.str ⟨x.toArray⟩)) = decide (x ∈ ws) := by
  induction ws with
  | nil => rfl
  | cons y ys ih =>
    rw [List.map_cons, List.any_cons, ih]
    show ((⟨y.toArray⟩ : Str) == ⟨x.toArray⟩ || _) = _
    by_cases h : y = x
    · subst h; simp
    · have h1 : ¬ x = y := fun e => h e.symm
      have h2 : ((⟨y.toArray⟩ : Str) == ⟨x.toArray⟩) = false := by rw [beq_eq_false_iff_ne]; exact fun e => h (str_inj.mp e)
      rw [h2]; simp [h1]
theorem fl_st (ws : List (List Nat)) : (ws.map tx).all flT = true := by rw [List.all_map, List.all_eq_true]; intro x _; rfl
/-- a list or a tuple of texts -/
def sl (o : Bool) (k : Kd) (ws : List (List Nat)) : T := .nd o k (ws.map tx)
theorem inB_sl (x : List Nat) (o : Bool) (k : Kd) (hk : isSq k = true) (ws : List (List Nat)) : inB (tx x) (sl o k ws) = some (decide (x ∈ ws)) := by
  have : ∀ k, isSq k = true → inB (tx x) (sl o k ws) = if flatV (V.str ⟨x.toArray⟩) = true ∧ (ws.map tx).all flT = true then some ((ws.map tx).any (eqT (.str ⟨x.toArray⟩))) else none := fun k h => by cases k <;> first | rfl | cases h
  rw [this k hk, any_st, fl_st]
  simp [flatV]
--ev
theorem z_insl (x o k ws) (hk : isSq k = true) : oIn (tx x) (sl o k ws) = some (.lf (.bl (decide (x ∈ ws)))) := by unfold oIn; rw [inB_sl x o k hk]; rfl
--ev
theorem z_ninsl (x o k ws) (hk : isSq k = true) : oNotIn (tx x) (sl o k ws) = some (.lf (.bl (!decide (x ∈ ws)))) := by unfold oNotIn; rw [inB_sl x o k hk]; rfl
--ev
theorem z_sq1 : isSq .lst = true := rfl
--ev
theorem z_sq2 : isSq .tup = true := rfl
--ev
theorem z_sq3 : isSq .rot = true := rfl
--ev
theorem z_itst (l : List Nat) : itemsS (tx l) = some (l.map fun c => tx [c]) := rfl
--ev
theorem z_isist (l) : oIsi "str" (tx l) = some (.lf (.bl true)) := by simp [oIsi, tyN, isiB, tx]
--ev
theorem z_slst (l lo hi) (h : l.length ≤ 1000) : oSlS lo hi (tx l) = some (tx (cutT l lo hi)) := by
  have := small h
  show (if (⟨l.toArray⟩ : Str).length ≤ sizeLine then some (T.lf (.str (cutS ⟨l.toArray⟩ lo hi))) else none) = _
  rw [str_len, if_pos (by omega)]
  unfold tx cutS cutT
  rw [str_len]
--ev
theorem z_cutOne {α : Type} (xs : List α) : cutT xs none (some 1) = xs.take 1 := by
  unfold cutT
  rw [HT.sIx_none, show HT.sIx xs.length xs.length (some 1) = min 1 xs.length from HT.sIx_nat _ _ 1]
  cases xs with
  | nil => rfl
  | cons a l => simp
/-! texts that are written -/
--ev
theorem lit_all : (.lf (.str "all") : T) = tx [97, 108, 108] := rfl
--ev
theorem lit_not : (.lf (.str "not") : T) = tx [110, 111, 116] := rfl
--ev
theorem lit_both : (.lf (.str "both") : T) = tx [98, 111, 116, 104] := rfl
--ev
theorem lit_either : (.lf (.str "either") : T) = tx [101, 105, 116, 104, 101, 114] := rfl
--ev
theorem lit_somenext : (.lf (.str "somenext") : T) = tx [115, 111, 109, 101, 110, 101, 120, 116] := rfl
--ev
theorem lit_eachnext : (.lf (.str "eachnext") : T) = tx [101, 97, 99, 104, 110, 101, 120, 116] := rfl
--ev
theorem lit_sometill : (.lf (.str "sometill") : T) = tx [115, 111, 109, 101, 116, 105, 108, 108] := rfl
--ev
theorem lit_eachtill : (.lf (.str "eachtill") : T) = tx [101, 97, 99, 104, 116, 105, 108, 108] := rfl
--ev
theorem lit_someever : (.lf (.str "someever") : T) = tx [115, 111, 109, 101, 101, 118, 101, 114] := rfl
--ev
theorem lit_eachever : (.lf (.str "eachever") : T) = tx [101, 97, 99, 104, 101, 118, 101, 114] := rfl
--ev
theorem lit_somealways : (.lf (.str "somealways") : T) = tx [115, 111, 109, 101, 97, 108, 119, 97, 121, 115] := rfl
--ev
theorem lit_eachalways : (.lf (.str "eachalways") : T) = tx [101, 97, 99, 104, 97, 108, 119, 97, 121, 115] := rfl
--ev
theorem lit_mark : (.lf (.str "mark") : T) = tx [109, 97, 114, 107] := rfl
--ev
theorem lit_loop : (.lf (.str "loop") : T) = tx [108, 111, 111, 112] := rfl
--ev
theorem lit_rank : (.lf (.str "rank") : T) = tx [114, 97, 110, 107] := rfl
--ev
theorem lit_walk : (.lf (.str "walk") : T) = tx [119, 97, 108, 107] := rfl
--ev
theorem lit_shut : (.lf (.str "shut") : T) = tx [115, 104, 117, 116] := rfl
--ev
theorem lit_out : (.lf (.str "out") : T) = tx [111, 117, 116] := rfl
--ev
theorem lit_here : (.lf (.str "here") : T) = tx [104, 101, 114, 101] := rfl
--ev
theorem lit_dead : (.lf (.str "dead") : T) = tx [100, 101, 97, 100] := rfl
--ev
theorem lit_plain : (.lf (.str "plain") : T) = tx [112, 108, 97, 105, 110] := rfl
--ev
theorem lit_step : (.lf (.str "step") : T) = tx [115, 116, 101, 112] := rfl
--ev
theorem lit_none : (.lf (.str "none") : T) = tx [110, 111, 110, 101] := rfl
--ev
theorem lit_fair : (.lf (.str "fair") : T) = tx [102, 97, 105, 114] := rfl
--ev
theorem lit_answer : (.lf (.str "answer") : T) = tx [97, 110, 115, 119, 101, 114] := rfl
--ev
theorem lit_p : (.lf (.str "p") : T) = tx [112] := rfl
--ev
theorem lit_wet : (.lf (.str "wet") : T) = tx [119, 101, 116] := rfl
--ev
theorem lit_darkness : (.lf (.str "darkness") : T) = tx [100, 97, 114, 107, 110, 101, 115, 115] := rfl
--ev
theorem lit_x : (.lf (.str "x") : T) = tx [120] := rfl
--ev
theorem lit_q : (.lf (.str "q") : T) = tx [113] := rfl
--ev
theorem lit_empty : (.lf (.str "") : T) = tx [] := rfl
--ev
theorem lit_in : (.lf (.str "in") : T) = tx [105, 110] := rfl
/-! the words that are kept -/
def ABC : List Nat := [97, 98, 99, 100, 101, 102, 103, 104, 105, 106, 107, 108, 109, 110, 111, 112, 113, 114, 115, 116, 117, 118, 119, 120, 121, 122]
def KW : List (List Nat) := [[97, 108, 108], [110, 111, 116], [98, 111, 116, 104], [101, 105, 116, 104, 101, 114], [115, 111, 109, 101, 110, 101, 120, 116], [101, 97, 99, 104, 110, 101, 120, 116], [115, 111, 109, 101, 116, 105, 108, 108], [101, 97, 99, 104, 116, 105, 108, 108], [115, 111, 109, 101, 101, 118, 101, 114], [101, 97, 99, 104, 101, 118, 101, 114]]
--ev
theorem lit_letters : (.lf (.str "abcdefghijklmnopqrstuvwxyz") : T) = tx ABC := rfl
theorem lit_kept (o k) : (.nd o k [.lf (.str "all"), .lf (.str "not"), .lf (.str "both"), .lf (.str "either"), .lf (.str "somenext"), .lf (.str "eachnext"), .lf (.str "sometill"), .lf (.str "eachtill"), .lf (.str "someever"), .lf (.str "eachever")] : T) = sl o k KW := rfl
--ev
theorem z_kept (o k) : (.nd o k [tx [97, 108, 108], tx [110, 111, 116], tx [98, 111, 116, 104], tx [101, 105, 116, 104, 101, 114], tx [115, 111, 109, 101, 110, 101, 120, 116], tx [101, 97, 99, 104, 110, 101, 120, 116], tx [115, 111, 109, 101, 116, 105, 108, 108], tx [101, 97, 99, 104, 116, 105, 108, 108], tx [115, 111, 109, 101, 101, 118, 101, 114], tx [101, 97, 99, 104, 101, 118, 101, 114]] : T) = sl o k KW := rfl
/-! ### tuples put together, tables -/
--ev
theorem z_catX12 (a b c) : oCatX (.nd false .tup [a]) (.nd false .tup [b, c]) = some (.nd false .tup [a, b, c]) := by
  show (if ([a] : List T) ≠ [] ∧ [b, c] ≠ [] ∧ [a].length + [b, c].length ≤ sizeLine then some (T.nd false .tup ([a] ++ [b, c])) else none) = _
  rw [if_pos ⟨by simp, by simp, Nat.le_of_lt (small (by simp))⟩]; rfl
--ev
theorem z_catT12 (a b c o o') : oCatT (.nd o .tup [a]) (.nd o' .tup [b, c]) = if cln a = true ∧ cln b = true ∧ cln c = true then some (.nd false .tup [a, b, c]) else none := by
  show (if clns [a] = true ∧ clns [b, c] = true ∧ ([a] : List T) ≠ [] ∧ [b, c] ≠ [] ∧ [a].length + [b, c].length ≤ sizeLine then some (T.nd false .tup ([a] ++ [b, c])) else none) = _
  simp only [clns, Bool.and_true, Bool.and_eq_true]
  by_cases h : cln a = true ∧ cln b = true ∧ cln c = true
  · rw [if_pos h, if_pos ⟨h.1, h.2, by simp, by simp, Nat.le_of_lt (small (by simp))⟩]; rfl
  · rw [if_neg h, if_neg fun z => h ⟨z.1, z.2.1⟩]
--ev
theorem z_ixt2 (o a b c xs) : oIx (.nd o .tup (a :: b :: c :: xs)) (.lf (.int 2)) = some c := by
  show L2.atI (a :: b :: c :: xs) 2 = _; rw [atI_of (by omega) (by simp)]; rfl
theorem ap_tl (i : Nat) (f : Int → T) (h : i ≤ 1000) : mAppend (tl true i f) [f i] = some (.lf .non, tl true (i + 1) f) := by
  have := small h
  show (if ((rgI i).map f).length < sizeLine then some (T.lf .non, T.nd true .lst ((rgI i).map f ++ [f i])) else none) = _
  rw [List.length_map, rgI_len, if_pos this]
  unfold tl rgI
  rw [List.range_succ, List.map_append, List.map_append]; rfl
theorem tl_nil (f) : li true [] = tl true 0 f := rfl
end Tr


set_option Elab.async false
set_option linter.all false
set_option maxRecDepth 100000
set_option maxHeartbeats 4000000
/-! D15: classes in families: attributes of several classes, isinstance of own classes, classes without a constructor; defs that call themselves. -/
namespace Tr
open PySem PySem.Spec PyProof.Rows L2

/-! ### one class or another -/
def oOr (p q : T → Option T) : T → Option T := fun t => match p t with
  | some u => some u
  | none => q t
def mOr (p q : T → List T → Option (T × T)) : T → List T → Option (T × T) := fun t ts => match p t ts with
  | some u => some u
  | none => q t ts
section
variable {K : PySem.W.Frag} {mg : Mg}
theorem Op1V.or {r : V → Hp → VK → Prop} {p q : T → Option T} (hp : Op1V K mg r p) (hq : Op1V K mg r q) : Op1V K mg r (oOr p q) := fun F H x t R u Q le rx h k => by
  unfold oOr at h
  cases e : p t with
  | some w => rw [e] at h; cases h; exact hp F H x t R _ Q le rx e k
  | none => rw [e] at h; exact hq F H x t R u Q le rx h k
theorem OpM.or {r : V → List V → Hp → VK → Prop} {p q : T → List T → Option (T × T)} (hp : OpM K mg r p) (hq : OpM K mg r q) : OpM K mg r (mOr p q) := fun F H x t A vs ts R res t' Q le rx rs dj h k => by
  unfold mOr at h
  cases e : p t ts with
  | some w => rw [e] at h; cases h; exact hp F H x t A vs ts R _ _ Q le rx rs dj e k
  | none => rw [e] at h; exact hq F H x t A vs ts R _ _ Q le rx rs dj h k
end
section
variable {X : Cx} {e : Expr} {f : Str} {pos : Pos} {d : DV} {de : DE} {o : T → Option T}
theorem sv_fldA (hv : Op1V X.K X.mg (rFld X.K f) o) (he : SV X e d) (hb : attributeBase e f X.env (eval e X.env) = eval e X.env := by rfl) : SV X (.Attribute e f pos) (o1V o d) := pew (pe_fld he hb) fun _ _ _ => i1V hv
theorem sr_fldA (hv : Op1V X.K X.mg (rFld X.K f) o) (he : SR X e de) (hb : attributeBase e f X.env (eval e X.env) = eval e X.env := by rfl) : SR X (.Attribute e f pos) (o1 o de) := pew (pe_fld he hb) fun _ _ _ => i1R hv
end
section
variable {X : Cx} {x : Str} {i : Nat} {value : Expr} {px pos pos' : Pos} {dv : DE}
theorem ss_fldA {f : Str} {mk : T → List T → Option (T × T)} (hm : OpM X.K X.mg (rFldM X.K f) mk) (hv : SE X value dv) (hN : X.N[i]? = some x := by rfl) (hvis : Vis X.env.scope x := by first | exact Or.inl rfl | exact Or.inr (Or.inl rfl) | exact Or.inr (Or.inr rfl)) (hd : (x == ("__debug__" : Str)) = false := by decide) (hcd : (x == ("__classdict__" : Str)) = false := by decide)
    (hs : swapsWith value (some (.Attribute (.Name x px) f pos)) pos'.line X.env = pure false := by rfl) :
    SS X (.Assign [.Attribute (.Name x px) f pos] value pos') [] (dPut i (fun _ => mk) dv (gC .non)) :=
  psw (ps_fld (pe_var hN hvis hd hcd) hv hs) fun D σ H h => by
    obtain ⟨F, env, S, t, e, ok, hd, q⟩ := put_imp (r := fun _ => rFldM X.K f) (fun _ => hm) h
    exact ⟨F, env, S, t, e, ok, hd, fun v F' H' S' R a b c d => by
      obtain ⟨x, e1, q2⟩ := q v F' H' S' R a b c d
      obtain ⟨F2, en2, S2, t2, ok2, hd2, q2⟩ := q2
      cases hd2
      obtain ⟨v', a', C', dx, fs, e3, e4, e5, e6, e7, e8, q3⟩ := q2 .non Emp (.lf rfl fun _ z => z)
      cases e3
      exact ⟨x, e1, a', C', dx, fs, e4, e5, e6, e7, e8, q3⟩⟩
end

/-! ### isinstance of own classes -/
/-- what isinstance asks of the class of an instance -/
structure Ins0 (K : PySem.W.Frag) (C : Addr) : Prop where
  cl : Cls K C
  ha : PySem.W.findIn K (.ref C) "__class__" = some (some (.builtin "object.__class__"))
  hn : PySem.W.specialIn K (.builtin "object.__class__") "__get__" = some (some (.builtin "getset_descriptor.__get__"))
  htk : PySem.W.takesIn K (.builtin "object.__class__") = some true
  hm : PySem.W.mroIn K C (.type "object") = some true
def clsOf : T → Option Str
  | .nd _ (.ins c _) _ => some c
  | _ => none
/-- of an instance of c the answer is b -/
def oIs1 (c : Str) (b : Bool) : T → Option T := fun t => if clsOf t = some c then some (.lf (.bl b)) else none
section
variable {K : PySem.W.Frag} {mg : Mg} {F H : Hp}
theorem tyx_ins {c : Str} {C : Addr} {v : V} {t : T} {R : AS} (hc : mg c = some (.ref C)) (ic : Ins0 K C) (le : Le F H) (r : Rep K mg F H v t R) (h : clsOf t = some c) : TyX K H v (.ref C) := by
  unfold clsOf at h
  split at h
  · cases h
    obtain ⟨a, vs, S0, rfl, p, _, hl, C', dx, hr, hm⟩ := r.nd_inv le
    rw [hc] at hm
    cases hm
    exact .base (.ins hr ic.cl ic.ha ic.hn ic.htk ic.hm)
  · cases h
theorem v_is1 {c : Str} {C D : Addr} {b : Bool} (hc : mg c = some (.ref C)) (ic : Ins0 K C) (kt : PySem.W.kitOne K (.ref C) (.ref D) = some b) : Op1V K mg (fun x H Q => rIsi K [x, .ref D] H Q) (oIs1 c b) := fun F H x t R u Q le r h q => by
  unfold oIs1 at h
  split at h
  · rename_i hcl
    cases h
    exact ⟨x, _, _, _, b, rfl, .own D, tyx_ins hc ic le r hcl, kt, q _ Emp (.lf rfl fun _ z => z)⟩
  · cases h
/-- isinstance of one of these classes: the answer for the tuple of classes us -/
def rIsA (K : PySem.W.Frag) (us : List Value) : V → Hp → VK → Prop := fun x H Q => ∃ t b, TyX K H x t ∧ PySem.W.kitAny K t us = some b ∧ Q (.bl b) H
theorem v_isA {c : Str} {C : Addr} {us : List Value} {b : Bool} (hc : mg c = some (.ref C)) (ic : Ins0 K C) (kt : PySem.W.kitAny K (.ref C) us = some b) : Op1V K mg (rIsA K us) (oIs1 c b) := fun F H x t R u Q le r h q => by
  unfold oIs1 at h
  split at h
  · rename_i hcl
    cases h
    exact ⟨_, b, tyx_ins hc ic le r hcl, kt, q _ Emp (.lf rfl fun _ z => z)⟩
  · cases h
end
section
variable {X : Cx} {e : Expr} {y : Str} {D : Addr} {p pos py : Pos} {d : DV} {de : DE} {o : T → Option T}
/-- isinstance(e, D), D an own class -/
theorem sv_isC (hgi : Gl X "isinstance") (hmi : X.mg "isinstance" = none) (hgy : Gl X y) (hmy : X.mg y = some (.ref D)) (ho : Op1V X.K X.mg (fun x H Q => rIsi X.K [x, .ref D] H Q) o) (ha : SV X e d)
    (hdb : (y == ("__debug__" : Str)) = false := by decide)
    (hs : starEach (e :: [.Name y py]) X.env = (false, eval e X.env) :: starEach [.Name y py] X.env := by rfl) (hs2 : starEach [.Name y py] X.env = (false, eval (.Name y py) X.env) :: starEach [] X.env := by rfl) (hpl : (backTo pos (starEach [.Name y py] X.env)).any (·.1) = false := by rfl) :
    SV X (.Call (.Name "isinstance" p) [e, .Name y py] [] pos) (o1V o d) :=
  pew (pe_callB call_isi hgi hmi (by decide +kernel) (pa_cons ha (pa_cons (pe_glob hgy hmy (show RelV (.ref D) (.ref D) from rfl) hdb) pa_nil hs2) hs) (he := hs) (hpl := hpl)) fun _ _ _ h => i1V ho h
/-- the classes of a tuple -/
inductive PCs (X : Cx) : List Expr → List Addr → Prop
  | nil : PCs X [] []
  | cons {y : Str} {D : Addr} {py : Pos} {es : List Expr} {Ds : List Addr} (hgy : Gl X y) (hmy : X.mg y = some (.ref D)) (hr : PCs X es Ds)
      (hdb : (y == ("__debug__" : Str)) = false := by decide) (hs : starEach (.Name y py :: es) X.env = (false, eval (.Name y py) X.env) :: starEach es X.env := by rfl) : PCs X (.Name y py :: es) (D :: Ds)
def tCs (Ds : List Addr) : TA := fun _ H Q => Q (Ds.map V.ref) H
theorem PCs.pa : ∀ {es : List Expr} {Ds : List Addr}, PCs X es Ds → PA X es (tCs Ds)
  | _, _, .nil => pa_nil
  | _, _, .cons hgy hmy hr hdb hs => pa_cons (pe_glob (v := .ref _) hgy hmy rfl hdb) hr.pa hs
theorem paired_own : ∀ Ds : List Addr, Paired ClsV (Ds.map V.ref) (Ds.map Value.ref)
  | [] => .nil
  | D :: Ds => .cons (.own D) (paired_own Ds)
/-- isinstance(e, (D1, D2, ..)) -/
theorem sr_isCs {es : List Expr} {Ds : List Addr} {k : Nat} {tpos : Pos} (hgi : Gl X "isinstance") (hmi : X.mg "isinstance" = none) (hes : PCs X es Ds) (hl : Ds.length ≤ 60) (ho : Op1V X.K X.mg (rIsA X.K (Ds.map Value.ref)) o) (ha : SV X e d)
    (hs : starEach (e :: [.Tuple es k tpos]) X.env = (false, eval e X.env) :: starEach [.Tuple es k tpos] X.env := by rfl) (hs2 : starEach [.Tuple es k tpos] X.env = (false, eval (.Tuple es k tpos) X.env) :: starEach [] X.env := by rfl) (hpl : (backTo pos (starEach [.Tuple es k tpos] X.env)).any (·.1) = false := by rfl) :
    SR X (.Call (.Name "isinstance" p) [e, .Tuple es k tpos] [] pos) (vr (o1V o d)) :=
  pew (pe_callB call_isiT hgi hmi (by decide +kernel) (pa_cons ha (pa_cons (pe_tup hes.pa) pa_nil hs2) hs) (he := hs) (hpl := hpl)) fun σ H Q h => by
    obtain ⟨F, env, S, t, env', ok, hd, q⟩ := h
    obtain ⟨hd, rfl⟩ := vr_some hd
    obtain ⟨t0, h1, h2⟩ := Option.bind_eq_some_iff.mp hd
    refine ⟨F, env', S, t0, ok, h1, fun v R r => ⟨?_, fun tp htp => ?_⟩⟩
    · rw [List.length_map, sizeLine_eq]; omega
    · have fp : F tp = none := ok.le.nn htp
      have st : Stp F H S F (upd H tp (.tup (Ds.map V.ref))) S := ⟨Le.refl _, fun a o e _ => by rw [upd_ne (ne_of_none e htp)]; exact e, fun _ _ e => .inl e, fun a e => .inl e⟩
      have le2 : Le F (upd H tp (.tup (Ds.map V.ref))) := fun a o e => by rw [upd_ne (ne_of_none (ok.le a o e) htp)]; exact ok.le a o e
      have ok2 : Ok X.K X.mg F (upd H tp (.tup (Ds.map V.ref))) σ env' S := ⟨le2, ok.st.frame (Le.refl _) fun x z => by
        obtain ⟨⟨o, e⟩, g⟩ := ok.st.dom x z
        exact ⟨upd_ne (ne_of_none e htp), g⟩⟩
      have r2 : Rep X.K X.mg F (upd H tp (.tup (Ds.map V.ref))) v t0 R := r.frame (Le.refl _) fun x z => by
        obtain ⟨⟨o, e⟩, g⟩ := r.dom x z
        exact ⟨upd_ne (ne_of_none e htp), g⟩
      obtain ⟨ty, b, e1, e2, e3⟩ := ho F _ v t0 R t (fun v H' => Q v H') le2 r2 h2 fun w R' rw' => q w F _ S R' st ok2 rw'
      exact ⟨v, tp, _, ty, _, b, rfl, upd_same, paired_own Ds, e1, e2, e3⟩
end

/-! ### a class without a constructor of its own -/
structure Mk0 (K : PySem.W.Frag) (C : Addr) : Prop where
  makes : PySem.W.makesIn K C = true
  init : PySem.W.findIn K (.ref C) "__init__" = some (some (.builtin "object.__init__"))
  kp : PySem.W.keepIn K (.ref C) = true
def tNew0 (C : Addr) : TE := fun _ H Q => ∀ x dx, H x = none → H dx = none → dx ≠ x → Q (.ref x) (upd (upd H dx (.own x)) x (.ins C dx []))
theorem new0_K {prog : Program} {w : World} {A : Around} {K : PySem.W.Frag} {C : Addr} {s : Shared} {R : Result → Shared → Prop} (X : K.In s.heap) (hm : PySem.W.makesIn K C = true) (hi : PySem.W.findIn K (.ref C) "__init__" = some (some (.builtin "object.__init__")))
    (h : R (.ok (.ret (.ref (s.heap.objs.size + 1)))) { s with heap := (s.heap.push PySem.W.emptyDict).push (PySem.W.instObj C s.heap.objs.size) }) :
    codeAny (model prog w) A (.call (.ref C) ⟨[], []⟩) R s := by
  obtain ⟨hh, g, d, t, os⟩ := s
  have Y := PySem.W.makes_of (M := model prog w) X hm
  refine PySem.W.make_core Y (PySem.W.looks_findIn X hi) (fun self => PySem.W.Looks.of_pure (PySem.W.oi_bind self)) (.inr ⟨rfl, rfl⟩) ?_
  have hx : ((hh.push PySem.W.emptyDict).push (PySem.W.instObj C hh.objs.size)).get? (hh.objs.size + 1) = some (PySem.W.instObj C hh.objs.size) := by
    have := Heap.get?_push_size (hh.push PySem.W.emptyDict) (o := PySem.W.instObj C hh.objs.size) rfl
    rwa [Heap.size_push] at this
  have t1 : PySem.W.Looks (model prog w) ((hh.push PySem.W.emptyDict).push (PySem.W.instObj C hh.objs.size)) (typeOf (.ref (hh.objs.size + 1))) (.ref C) := (PySem.W.Looks.ld hx).andThen .now
  have t2 : PySem.W.Looks (model prog w) ((hh.push PySem.W.emptyDict).push (PySem.W.instObj C hh.objs.size)) (isInstance (.ref (hh.objs.size + 1)) (.type "object")) true := t1.andThen (Y.top.keeps fun b o e => Heap.get?_push_of_some _ (Heap.get?_push_of_some _ e))
  refine codeAny_call_builtin PySem.W.oi_plain PySem.W.entry_oi (@PySem.W.check_slot (model prog w) _ _ _ "object.__init__" "object" "__init__" (.ref (hh.objs.size + 1)) [] [] _ PySem.W.oi_kind PySem.W.oi_split t2 (PySem.W.oi_args (.ref (hh.objs.size + 1))) ?_)
  rw [PySem.W.oi_run]
  exact wpAny_pure (And.intro rfl h)
section
variable {X : Cx} {C : Addr} {x c : Str} {p pos : Pos}
theorem run_new0 {pins : List (Addr × Obj)} {σ : L2.St} {H : Hp} {s : Shared} {Q : VK} (M : Mk0 X.K C) (I : Inv X pins σ H s) (h : tNew0 C σ H Q) : wpAny (model X.prog X.w) X.A (call (.ref C) []) (EP X pins σ Q) X.xe s := by
  have hq := h (s.heap.objs.size + 1) s.heap.objs.size (I.hok.fresh (Nat.le_succ _)) (I.hok.fresh (Nat.le_refl _)) (Nat.ne_of_lt (Nat.lt_succ_self _))
  have I2 := Inv.made (C := C) I
  exact wpAny_call (new0_K I.kIn M.makes M.init ⟨V.ref (s.heap.objs.size + 1), _, I2, rfl, hq⟩)
theorem pe_new00 (M : Mk0 X.K C) (hg : Gl X x) (hm : X.mg x = some (.ref C)) (hdb : (x == ("__debug__" : Str)) = false := by decide) : PE X (.Call (.Name x p) [] [] pos) (tNew0 C) := by
  refine ⟨fun pins s σ H Q I h => ?_⟩
  refine wpAny_Call_Name_kw (ld_glob I hg hm ?_ hdb)
  exact PySem.W.callWith_K0 I.kIn M.kp (run_new0 M I h)
def dNew (c : Str) : DE := fun env => some (.nd true (.ins c []) [], env)
theorem se_new0 (M : Mk0 X.K C) (hg : Gl X x) (hm : X.mg x = some (.ref C)) (hdb : (x == ("__debug__" : Str)) = false := by decide) : SE X (.Call (.Name x p) [] [] pos) (dNew x) := pew (pe_new00 M hg hm hdb) fun σ H Q h => by
  obtain ⟨F, env, S, t, e, ok, hd, q⟩ := h
  cases hd
  intro y dx hy hdx ne
  have st2 : Stp F H Emp F (upd (upd H dx (.own y)) y (.ins C dx [])) (fun z => z = y) := by
    refine ⟨Le.refl _, fun a o e _ => ?_, fun _ _ e => .inl e, fun a e => .inr (by rw [e]; exact hy)⟩
    rw [upd_ne (ne_of_none e hy), upd_ne (ne_of_none e hdx)]
    exact e
  have le2 : Le F (upd (upd H dx (.own y)) y (.ins C dx [])) := fun a o e => st2.kp a o (ok.le a o e) fun z => z
  obtain ⟨a1, a2, a3⟩ := fin_new (σ := σ) Stp.refl ok st2 le2
  have rx : Rep X.K X.mg F (upd (upd H dx (.own y)) y (.ins C dx [])) (.ref y) (.nd true (.ins x []) []) (fun z => z = y) :=
    .own (o := .ins C dx []) (vs := []) (S0 := Emp) upd_same (ok.le.nn hy) ⟨rfl, C, dx, rfl, hm⟩ (.nil fun _ z => z) (fun z => z) fun z => ⟨.inl, fun z => z.elim id fun z => z.elim⟩
  exact q _ _ _ _ _ a1 a2 rx a3
end

/-! ### backwards; texts joined -/
def itemsR : T → Option (List T) := fun t => (itemsL t).map List.reverse
theorem good_rev {K : PySem.W.Frag} {mg : Mg} {F H : Hp} {a : Addr} {vs : List V} {its : List T} {S : AS} (r : Reps K mg F H vs its Emp) (hr : ∀ F2 H2 S2, Stp F H S F2 H2 S2 → Le F2 H2 → SqL K H2 a vs) : Good K mg its.reverse (Itv K a vs.length) F H S := fun i F2 H2 S2 st le => by
  have hq := hr F2 H2 S2 st le
  have hl := r.length (S := Emp)
  refine ⟨fun t h => ?_, fun h => by rw [List.length_reverse] at h; show vs.length ≤ i; omega⟩
  have hi : i < its.length := by
    have := (List.getElem?_eq_some_iff.mp h).1
    simpa using this
  rw [List.getElem?_reverse hi] at h
  obtain ⟨v, R, e1, e2, e3⟩ := r.get h
  rw [← hl] at e1
  refine ⟨⟨by omega, vs, v, hq, e1⟩, fun x H3 y => ?_⟩
  obtain ⟨e4, y⟩ := y
  subst e4
  have e5 := (y vs hq).symm.trans e1
  cases e5
  exact ⟨F2, .refl, le, (e2.iff (S' := Emp) fun x => ⟨fun z => z.elim, fun z => e3 x z⟩).frame st.ff fun _ z => z.elim⟩
theorem si_rev {X : Cx} {tg l : Expr} {d : DE} {p pos : Pos} (hg : Gl X "reversed") (hm : X.mg "reversed" = none) (hl : SE X l d) (hs : starEach [l] X.env = [(false, eval l X.env)] := by rfl) : SI X tg (.Call (.Name "reversed" p) [l] [] pos) (dIt itemsR d) :=
  piw (pi_reversed hg hm (pa_cons hl pa_nil hs) hs) fun σ H Rk ⟨F, env, S, its, e, ok, hd, q⟩ => by
  obtain ⟨t, h1, h2⟩ := dIt_some hd
  obtain ⟨its0, h3, h4⟩ := Option.map_eq_some_iff.mp h2
  subst h4
  obtain ⟨o, k, xs, rfl, rfl, hk⟩ := itemsL_some h3
  refine ⟨F, env, S, _, e, ok, h1, fun v F1 H1 S1 R1 st ok1 r dj => ?_⟩
  obtain ⟨F', a, vs, rfl, st', ok', p, hr⟩ := items_frozen st ok1 r dj
  exact ⟨a, vs, rfl, hk _ _ _ _ _ (hr F' H1 S1 .refl ok'.le), q _ F' H1 S1 st' ok' (good_rev p fun F2 H2 S2 s l => hk _ _ _ _ _ (hr F2 H2 S2 s l))⟩
def strsOf : List T → Option (List Str)
  | [] => some []
  | .lf (.str x) :: ts => (strsOf ts).map (x :: ·)
  | _ => none
theorem reps_strs {K : PySem.W.Frag} {mg : Mg} {F H : Hp} : ∀ {ts : List T} {ys : List Str} {vs : List V} {S : AS}, strsOf ts = some ys → Reps K mg F H vs ts S → vs = ys.map V.str
  | [], ys, vs, S, h, r => by cases h; cases r; rfl
  | t :: ts, ys, vs, S, h, r => by
    unfold strsOf at h
    split at h
    · rename_i e; cases e
    · rename_i x ts' e
      cases e
      obtain ⟨zs, h1, rfl⟩ := Option.map_eq_some_iff.mp h
      cases r with
      | cons r q _ _ => rw [reps_strs h1 q, r.lf_inv.1]; rfl
    · cases h
def oJoin (a : Str) : T → Option T
  | .nd _ k xs => if isSq k = true then (strsOf xs).bind fun ys => if (ys.map (·.length)).sum + ys.length * a.length ≤ 16777216 then some (.lf (.str (Txt.join a ys))) else none else none
  | _ => none
theorem oJoin_some {a : Str} {t u : T} (h : oJoin a t = some u) : ∃ o k xs ys, t = .nd o k xs ∧ isSq k = true ∧ strsOf xs = some ys ∧ (ys.map (·.length)).sum + ys.length * a.length ≤ 16777216 ∧ u = .lf (.str (Txt.join a ys)) := by
  cases t with
  | no => cases h
  | lf v => cases h
  | nd o k xs =>
    unfold oJoin at h
    by_cases hk : isSq k = true
    · simp only [hk, if_true] at h
      obtain ⟨ys, h1, h2⟩ := Option.bind_eq_some_iff.mp h
      split at h2
      · rename_i hz
        cases h2
        exact ⟨o, k, xs, ys, rfl, hk, h1, hz, rfl⟩
      · cases h2
    · simp only [hk] at h; cases h
def dJoin (vo : DV) (de : DE) : DE := fun env => match vo env with
  | some (.lf (.str a)) => (de env).bind fun p => (oJoin a p.1).map fun u => (u, p.2)
  | _ => none
theorem sr_join {X : Cx} {o e : Expr} {apos pos : Pos} {vo : DV} {de : DE} (ho : SV X o vo) (he : SR X e de) (hs : starEach [e] X.env = [(false, eval e X.env)] := by rfl) (hbase : attributeBase o "join" X.env (eval o X.env) = eval o X.env := by rfl) (hline : (apos.endLine == pos.line) = true := by rfl) :
    SR X (.Call (.Attribute o "join" apos) [e] [] pos) (dJoin vo de) := pew (pe_join ho he hs hbase hline) fun σ H Q h => by
  obtain ⟨F, env, S, t, env', ok, hd, q⟩ := h
  unfold dJoin at hd
  split at hd
  · rename_i a hv
    obtain ⟨⟨t1, e1⟩, h1, h2⟩ := Option.bind_eq_some_iff.mp hd
    obtain ⟨u, h3, h4⟩ := Option.map_eq_some_iff.mp h2
    cases h4
    refine ⟨F, env, S, _, ok, hv, fun v R r => ⟨⟨a, r.lf_inv.1⟩, F, env, S, t1, _, ok, h1, fun w F' H' S' R' st ok' r' => ?_⟩⟩
    obtain ⟨ow, k, xs, ys, rfl, hk, h5, hz, rfl⟩ := oJoin_some h3
    obtain ⟨p, vs, S0, rfl, rp, _, hr⟩ := r'.nd_inv ok'.le
    have ev := reps_strs h5 rp
    subst ev
    exact ⟨a, p, ys, r.lf_inv.1, rfl, hr.sq hk, hz, q _ F' H' S' Emp st ok' (.lf rfl fun _ z => z)⟩
  · cases hd

/-! ### defs that call themselves -/
theorem sss_none {X : Cx} {st : List Stmt} {W : List Nat} : SSs X st W (fun _ => none) := ⟨fun pins s σ H D I ⟨_, _, _, _, _, _, h, _⟩ => by cases h⟩
theorem se_none {X : Cx} {e : Expr} : SE X e (fun _ => none) := ⟨fun pins s σ H Q I ⟨_, _, _, _, _, _, h, _⟩ => by cases h⟩
theorem sv_none {X : Cx} {e : Expr} : SV X e (fun _ => none) := ⟨fun pins s σ H Q I ⟨_, _, _, _, _, h, _⟩ => by cases h⟩
theorem sr_none {X : Cx} {e : Expr} : SR X e (fun _ => none) := ⟨fun pins s σ H Q I ⟨_, _, _, _, _, _, h, _⟩ => by cases h⟩
/-- a def's mirror by its fuel -/
def dRec (keep : List Bool) (n : Nat) (b : FT → DS) : Nat → FT
  | 0 => dFun keep n (fun _ => none)
  | k + 1 => dFun keep n (b (dRec keep n b k))
theorem dRec_len {keep : List Bool} {n : Nat} {b : FT → DS} {m : Nat} (h : keep.length = m) : ∀ k, FLen (dRec keep n b k) m
  | 0 => dFun_len h
  | k + 1 => dFun_len h
end Tr


set_option Elab.async false
set_option linter.all false
set_option maxRecDepth 100000
set_option maxHeartbeats 4000000
/-! D16: a part taken out of its place; the place is known no more. -/
namespace Tr
open PySem PySem.Spec PyProof.Rows L2
def dTake (dp : DP) : DE := fun env => (dp env).map fun p => (p.1, p.2 .no)
theorem se_take {X : Cx} {e : Expr} {dp : DP} (hp : SP X e dp) : SE X e (dTake dp) := pew hp fun σ H Q q => by
  obtain ⟨F, env, S, t, env', ok, hd, q⟩ := q
  obtain ⟨⟨t1, put⟩, h1, h2⟩ := Option.map_eq_some_iff.mp hd
  cases h2
  refine ⟨F, env, S, _, put, ok, h1, fun v f => ?_⟩
  obtain ⟨A, B, rx, d, hS, rest⟩ := f
  refine q v F H (Cup Emp B) A ⟨Le.refl _, fun _ _ z _ => z, fun _ _ z => .inl z, fun y z => .inl ((hS y).mpr ?_)⟩ ⟨ok.le, rest H .no Emp (fun _ _ => rfl) (.no fun _ z => z) emp_dj⟩ rx fun y z a => ?_
  · exact z.elim (fun z => .inr (z.elim (fun z => z.elim) id)) .inl
  · exact z.elim (fun z => z.elim) fun z => d y a z
end Tr


set_option Elab.async false
set_option linter.all false
set_option maxRecDepth 100000
set_option maxHeartbeats 4000000
/-! D17: a loop over a list that is owned here, which hands its things on: behind it the list stands, its things are known no more. -/
namespace Tr
open PySem PySem.Spec PyProof.Rows L2
def nos (xs : List T) : List T := xs.map fun _ => .no
def dForM (i : Nat) (dg : DG) (d : DS) : DS := fun env => match gV i env with
  | some (.nd true .lst its) => match dFr dg d its (env.set i .no) with
    | some (r, e) => match e[i]? with
      | some .no => some (r, e.set i (.nd true .lst (nos its)))
      | _ => none
    | none => none
  | _ => none
section
variable {K : PySem.W.Frag} {mg : Mg} {D : Ends} {σ σ' : L2.St} {H H' F F' : Hp} {S S' R : AS} {W1 W2 : List Nat} {env env' : List T} {r : Fl}
theorem Reps.nos : ∀ {vs : List V} {ts : List T} {S : AS}, Reps K mg F H vs ts S → Reps K mg F H vs (Tr.nos ts) Emp
  | _, _, _, .nil _ => .nil fun _ z => z
  | _, _, _, .cons _ q _ _ => .cons (S1 := Emp) (S2 := Emp) (.no fun _ z => z) (Reps.nos q) dj_emp fun x => ⟨fun z => z.elim, fun z => z.elim id id⟩
theorem forM_core {dg : DG} {d : DS} {its : List T} {vs : List V} {a : Addr} {F0 H0 : Hp} {S0 Q0 : AS} {σ0 : L2.St} {e0 : List T} (ha : H0 a = some (.lst vs)) (rp : Reps K mg F0 H0 vs its Q0) (djQ : Dj S0 Q0) (nS : ¬ S0 a) (nQ : ¬ Q0 a) (ok0 : Ok K mg F0 H0 σ0 e0 S0) (hd0 : dFr dg d its e0 = some (r, env')) (c0 : Cont' K mg D (W1 ++ W2) F0 H0 (Cup S0 Q0) σ0 r env') :
    ∃ Wi : Nat → Nat → L2.St → Hp → Prop, (∃ m, Wi 0 m σ0 H0) ∧ ∀ i m σ H, Wi i m σ H →
      ((Itl K a).stop i H ∧ D.nx σ H) ∨ ((Itl K a).go i H ∧ ∃ N : L2.St → Hp → Prop, (∀ σ' H', N σ' H' → ∃ m', m' < m ∧ Wi (i + 1) m' σ' H') ∧ ∀ x H', (Itl K a).yld i H x H' → tG K mg W1 dg x σ H' fun σ2 H2 => tS K mg W2 d { D with nx := N, ct := N, bk := D.nx } σ2 H2) := by
  have hl : vs.length = its.length := rp.length (S := Emp)
  refine ⟨fun i m σ H => m = its.length - i ∧ i ≤ its.length ∧ ∃ F env S Q, H a = some (.lst vs) ∧ Reps K mg F H (vs.drop i) (its.drop i) Q ∧ Dj S Q ∧ ¬ S a ∧ ¬ Q a ∧ Ok K mg F H σ env S ∧ dFr dg d (its.drop i) env = some (r, env') ∧ Cont' K mg D (W1 ++ W2) F H (Cup S Q) σ r env', ⟨its.length, rfl, Nat.zero_le _, F0, e0, S0, Q0, ha, rp, djQ, nS, nQ, ok0, hd0, c0⟩, ?_⟩
  rintro i m σ H ⟨rfl, hi, F, env, S, Q, hA, rq, dj, nS, nQ, ok, hd, c⟩
  have sq : SqL K H a vs := SqL.of hA
  by_cases hlt : i < its.length
  · have hlt' : i < vs.length := hl ▸ hlt
    rw [List.drop_eq_getElem_cons hlt, dFr] at hd
    rw [List.drop_eq_getElem_cons hlt, List.drop_eq_getElem_cons hlt'] at rq
    cases rq with
    | @cons _ _ _ _ _ A1 Q2 r1 q2 d1 hQ =>
      refine .inr ⟨⟨vs, vs[i], sq, List.getElem?_eq_getElem hlt'⟩, fun σ' H' => ∃ F env S Q, H' a = some (.lst vs) ∧ Reps K mg F H' (vs.drop (i + 1)) (its.drop (i + 1)) Q ∧ Dj S Q ∧ ¬ S a ∧ ¬ Q a ∧ Ok K mg F H' σ' env S ∧ dFr dg d (its.drop (i + 1)) env = some (r, env') ∧ Cont' K mg D (W1 ++ W2) F H' (Cup S Q) σ' r env', fun σ' H' z => ⟨its.length - (i + 1), by omega, rfl, hlt, z⟩, fun x H3 y => ?_⟩
      obtain ⟨e4, y⟩ := y
      subst e4
      have e5 := (y vs sq).symm.trans (List.getElem?_eq_getElem hlt')
      cases e5
      split at hd
      · rename_i e h1
        refine ⟨F, env, S, A1, its[i], e, ok, r1, fun z s u => dj z s ((hQ z).mpr (.inl u)), h1, fun σ1 S1 ok1 sub1 of1 => ?_⟩
        have d2 : Dj S1 Q2 := fun z s u => (sub1 z s).elim (fun s => dj z s ((hQ z).mpr (.inr u))) fun s => d1 z s u
        have nS1 : ¬ S1 a := fun s => (sub1 a s).elim nS fun s => nQ ((hQ a).mpr (.inl s))
        have nQ2 : ¬ Q2 a := fun u => nQ ((hQ a).mpr (.inr u))
        have inS : ∀ z, S1 z → Cup S Q z := fun z s => (sub1 z s).elim .inl fun s => .inr ((hQ z).mpr (.inl s))
        have inA : ∀ z, Cup S1 Q2 z → Cup S Q z := fun z s => s.elim (inS z) fun u => .inr ((hQ z).mpr (.inr u))
        have big : ∀ {F2 H2 : Hp} {S2 R2 : AS}, Stp F H3 S1 F2 H2 (Cup S2 R2) → Stp F H3 (Cup S Q) F2 H2 (Cup (Cup S2 Q2) R2) := fun st2 => ((st2.frame Q2).big inA).weak fun z u => u.elim (fun u => u.elim (fun u => .inl (.inl u)) .inr) fun u => .inl (.inr u)
        have next : ∀ {F2 H2 : Hp} {S2 R2 : AS} {σ2 : L2.St} {e2 : List T}, Stp F H3 S1 F2 H2 (Cup S2 R2) → Ok K mg F2 H2 σ2 e2 S2 → Off W2 σ1 σ2 → dFr dg d (its.drop (i + 1)) e2 = some (r, env') →
            ∃ F env S Q, H2 a = some (.lst vs) ∧ Reps K mg F H2 (vs.drop (i + 1)) (its.drop (i + 1)) Q ∧ Dj S Q ∧ ¬ S a ∧ ¬ Q a ∧ Ok K mg F H2 σ2 env S ∧ dFr dg d (its.drop (i + 1)) env = some (r, env') ∧ Cont' K mg D (W1 ++ W2) F H2 (Cup S Q) σ2 r env' := fun {F2 H2 S2 R2 σ2 e2} st2 ok2 of2 hd => by
          refine ⟨F2, e2, S2, Q2, st2.kp a _ hA nS1, q2.keep st2 d2, fun z s u => st2.dj (fun x z => (q2.dom x z).1) d2 z (.inl s) u, fun s => ?_, nQ2, ok2, hd, c.step (big st2) ((of1.mono fun i z => List.mem_append_left _ z).trans (of2.mono fun i z => List.mem_append_right _ z))⟩
          rcases st2.no a (.inl s) with s | s
          · exact nS1 s
          · rw [hA] at s; cases s
        have away : ∀ {F2 H2 : Hp} {S2 R2 : AS}, Stp F H3 S1 F2 H2 (Cup S2 R2) → Stp F H3 (Cup S Q) F2 H2 (Cup S2 R2) := fun st2 => (big st2).weak fun z u => u.elim (fun u => .inl (.inl u)) .inr
        split at hd
        · rename_i e2 h2
          exact ⟨F, e, S1, .nx, e2, ok1, h2, fun F2 H2 S2 R2 σ2 st2 ok2 of2 dj2 => next st2 ok2 of2 hd⟩
        · rename_i e2 h2
          exact ⟨F, e, S1, .ct, e2, ok1, h2, fun F2 H2 S2 R2 σ2 st2 ok2 of2 dj2 => next st2 ok2 of2 hd⟩
        · rename_i e2 h2
          cases hd
          exact ⟨F, e, S1, .bk, _, ok1, h2, fun F2 H2 S2 R2 σ2 st2 ok2 of2 dj2 => c F2 H2 S2 R2 σ2 (away st2) ok2 ((of1.mono fun i z => List.mem_append_left _ z).trans (of2.mono fun i z => List.mem_append_right _ z)) dj2⟩
        · rename_i t e2 h2
          cases hd
          exact ⟨F, e, S1, .rt t, _, ok1, h2, fun F2 H2 S2 R2 σ2 st2 ok2 of2 dj2 => c F2 H2 S2 R2 σ2 (away st2) ok2 ((of1.mono fun i z => List.mem_append_left _ z).trans (of2.mono fun i z => List.mem_append_right _ z)) dj2⟩
        · cases hd
      · cases hd
  · have e : i = its.length := by omega
    subst e
    rw [List.drop_length] at hd
    cases hd
    exact .inl ⟨⟨vs, sq, by rw [hl]; exact Nat.le_refl _⟩, c F H S Emp σ (Stp.refl.weak fun z u => u.elim .inl fun u => u.elim) ok .refl dj_emp⟩
theorem forM_imp {i : Nat} {dg : DG} {d : DS} (hi : i ∉ W1 ++ W2) (h : tS K mg (W1 ++ W2) (dForM i dg d) D σ H) : tFor (iList K (tVar i)) (tG K mg W1 dg) (tS K mg W2 d) D σ H := by
  obtain ⟨F, env, S, r, env', ok, hd, q⟩ := h
  unfold dForM at hd
  split at hd
  · rename_i its h0
    split at hd
    · rename_i r' e h2
      split at hd
      · rename_i h3
        cases hd
        obtain ⟨g1, g2⟩ := gV_some h0
        obtain ⟨v, A, B, ev, rv, dAB, hS, rest⟩ := ok.st.slot g1 g2
        obtain ⟨a, o, vs, S0, rfl, ha, hf, hc, rp, na, hA⟩ := rv.own_inv
        cases (show o = .lst vs from hc)
        have hB : ∀ x, B x → (∃ o, H x = some o) ∧ F x = none := fun x z => ok.st.dom x ((hS x).mpr (.inr z))
        have okB : Ok K mg F H σ (env.set i .no) (Cup Emp B) := ⟨ok.le, by
          have := rest F H (some (.ref a)) .no Emp (Le.refl _) (fun y z => ⟨rfl, (hB y z).2⟩) (.no fun _ z => z) emp_dj
          rwa [set_self' ev] at this⟩
        have okB' : Ok K mg F H σ (env.set i .no) B := ⟨okB.le, okB.st.iff fun x => ⟨.inr, fun z => z.elim (fun z => z.elim) id⟩⟩
        refine ⟨.ref a, ev, a, rfl, ⟨vs, SqL.of ha⟩, ?_⟩
        have nB : ¬ B a := fun z => dAB a ((hA a).mpr (.inl rfl)) z
        have dBQ : Dj B S0 := fun z b s => dAB z ((hA z).mpr (.inr s)) b
        refine forM_core ha rp dBQ nB na okB' h2 fun F' H' S' R σ' st ok' of dj => ?_
        have e' : σ'[i]? = some (some (.ref a)) := (of.at_ i hi).trans ev
        have rN : Rep K mg F H (.ref a) (.nd true .lst (nos its)) (fun x => x = a) := .own ha hf hc rp.nos (fun z => z) fun x => ⟨.inl, fun z => z.elim id fun z => z.elim⟩
        have dN : Dj (Cup B S0) (fun x => x = a) := fun z u w => by subst w; exact u.elim nB na
        have rv' := rN.keep st dN
        have djA : Dj (Cup S' R) (fun x => x = a) := st.dj (fun x z => (rN.dom x z).1) dN
        obtain ⟨s, A2, B2, k1, k2, k3, k4, rest2⟩ := ok'.st.split h3
        rw [e'] at k1
        cases k1
        have hn := rest2 F' H' (some (.ref a)) (.nd true .lst (nos its)) (fun x => x = a) (Le.refl _) (fun y z => ⟨rfl, (ok'.st.dom y ((k4 y).mpr (.inr z))).2⟩) rv' fun y z u => djA y (.inl ((k4 y).mpr (.inr u))) z
        rw [set_self' e'] at hn
        refine q F' H' (Cup (fun x => x = a) B2) R σ' ?_ ⟨ok'.le, hn⟩ of fun y z u => z.elim (fun z => djA y (.inr u) z) fun z => dj y ((k4 y).mpr (.inr z)) u
        have b1 := st.frameL (fun x => x = a)
        refine (b1.big fun y z => ?_).weak fun y z => z.elim (fun z => z.elim .inl fun z => .inr (.inl ((k4 y).mpr (.inr z)))) fun z => .inr (.inr z)
        exact z.elim (fun z => (hS y).mpr (.inl ((hA y).mpr (.inl z)))) fun z => z.elim (fun z => (hS y).mpr (.inr z)) fun z => (hS y).mpr (.inl ((hA y).mpr (.inr z)))
      · cases hd
    · cases hd
  · cases hd
theorem ss_forM {X : Cx} {tg : Expr} {x : Str} {i : Nat} {px : Pos} {body : List Stmt} {dg : DG} {d : DS} {pos : Pos} (hi : i ∉ W1 ++ W2) (hp : PassesOwn (model X.prog X.w) X.A X.env X.xe) (hc : X.calm = true) (hg : SG X tg W1 dg) (hb : SSs X body W2 d)
    (hN : X.N[i]? = some x := by rfl) (hvis : Vis X.env.scope x := by first | exact Or.inl rfl | exact Or.inr (Or.inl rfl) | exact Or.inr (Or.inr rfl)) (hd : (x == ("__debug__" : Str)) = false := by decide) (hcd : (x == ("__classdict__" : Str)) = false := by decide)
    (hs : ∀ y, foldedSetIterable (.Name x px) X.env y = pure y := by intro _; rfl) : SS X (.For tg (.Name x px) body [] pos) (W1 ++ W2) (dForM i dg d) :=
  psw (ps_for hp hc (pi_list (pe_var hN hvis hd hcd)) hg hb hs) fun _ _ _ => forM_imp hi
end
end Tr


set_option Elab.async false
set_option linter.all false
set_option maxRecDepth 100000
set_option maxHeartbeats 4000000
/-! D18: the things of a list are frozen, the list itself stays owned. -/
namespace Tr
open PySem PySem.Spec PyProof.Rows L2
def fzk (i : Nat) (d : DE) : DE := fun env => match env[i]? with
  | some (.nd true k xs) => d (env.set i (.nd true k (frzs xs)))
  | _ => none
section
variable {K : PySem.W.Frag} {mg : Mg} {σ : L2.St} {F H : Hp} {env : List T} {S : AS} {i : Nat}
theorem freezeK_ok {k : Kd} {xs : List T} (ok : Ok K mg F H σ env S) (h : env[i]? = some (.nd true k xs)) : ∃ F' S', Stp F H S F' H S' ∧ Ok K mg F' H σ (env.set i (.nd true k (frzs xs))) S' := by
  obtain ⟨s, A, B, e1, e2, e3, e4, rest⟩ := ok.st.split h
  cases s with
  | none => obtain ⟨h', _⟩ := e2; cases h'
  | some v =>
    obtain ⟨a, o, vs, S0, rfl, ha, hf, hc, rp, na, hA⟩ := Rep.own_inv e2
    have ff := frF_le (A := S0) ok.le
    have kB : ∀ y, B y → H y = H y ∧ frF F H S0 y = none := fun y z => ⟨rfl, by rw [frF_out fun a => e3 y ((hA y).mpr (.inr a)) z]; exact (ok.st.dom y ((e4 y).mpr (.inr z))).2⟩
    have r' : Rep K mg (frF F H S0) H (.ref a) (.nd true k (frzs xs)) (fun x => x = a) :=
      .own (S0 := Emp) ha (by rw [frF_out na]; exact hf) hc (Reps.freeze ff.1 rp (fun y z => frF_in z) fun _ z => z) (fun z => z) fun x => ⟨.inl, fun z => z.elim id fun z => z.elim⟩
    have := rest (frF F H S0) H (some (.ref a)) (.nd true k (frzs xs)) (fun x => x = a) ff.1 kB r' fun y z u => e3 y ((hA y).mpr (.inl z)) u
    rw [set_self' e1] at this
    exact ⟨frF F H S0, Cup (fun x => x = a) B, frF_stp ok.le (fun y z => (e4 y).mpr (.inl ((hA y).mpr (.inr z)))) fun y z => (e4 y).mpr (z.elim (fun z => .inl ((hA y).mpr (.inl z))) .inr), ⟨ff.2, this⟩⟩
theorem fzkE_imp {d : DE} {Q : VK} (h : tE K mg (fzk i d) σ H Q) : tE K mg d σ H Q := by
  obtain ⟨F, env, S, t, e, ok, hd, q⟩ := h
  unfold fzk at hd
  split at hd
  · rename_i k xs hu
    obtain ⟨F', S', st, ok'⟩ := freezeK_ok ok hu
    exact ⟨F', _, S', t, e, ok', hd, fun v F2 H2 S2 R st2 ok2 r dj => q v F2 H2 S2 R (st.trans st2) ok2 r dj⟩
  · cases hd
end
theorem SE.fzk {X : Cx} {e : Expr} {d : DE} (i : Nat) (h : SE X e d) : SE X e (Tr.fzk i d) := pew h fun _ _ _ => fzkE_imp
def dfz (d : DE) : DE := fun env => (d env).map fun p => (frz p.1, p.2)
section
variable {K : PySem.W.Frag} {mg : Mg} {σ : L2.St} {H : Hp}
theorem dfz_imp {d : DE} {Q : VK} (h : tE K mg (dfz d) σ H Q) : tE K mg d σ H Q := by
  obtain ⟨F, env, S, t, e, ok, hd, q⟩ := h
  obtain ⟨⟨t0, e0⟩, h1, h2⟩ := Option.map_eq_some_iff.mp hd
  cases h2
  refine ⟨F, env, S, t0, _, ok, h1, fun v F1 H1 S1 R st ok1 r dj => ?_⟩
  have ff := frF_le (A := R) ok1.le
  have stF : Stp F1 H1 (Cup S1 R) (frF F1 H1 R) H1 S1 := frF_stp ok1.le (fun _ z => .inr z) fun _ z => .inl z
  have stF' : Stp F1 H1 R (frF F1 H1 R) H1 Emp := frF_stp ok1.le (fun _ z => z) fun _ z => z.elim
  have ok' := ok1.keep stF' dj.symm ff.2
  have r' : Rep K mg (frF F1 H1 R) H1 v (frz t0) Emp := r.freeze ff.1 (fun x z => frF_in z) fun _ z => z
  exact q v (frF F1 H1 R) H1 S1 Emp ((st.trans stF).weak fun z u => u.elim id fun u => u.elim) ok' r' fun _ _ u => u
end
theorem SE.dfz {X : Cx} {e : Expr} {d : DE} (h : SE X e d) : SE X e (Tr.dfz d) := pew h fun _ _ _ => dfz_imp
end Tr


set_option Elab.async false
set_option linter.all false
set_option maxRecDepth 100000
set_option maxHeartbeats 4000000
/-! D19: zip of two lists; insert; d.get(k, x); a slice from a bound that is reckoned; built-ins of two readings; stores at places. -/
namespace Tr
open PySem PySem.Spec PyProof.Rows L2

/-! ### zip -/
def zpT : List T → List T → List T
  | x :: xs, y :: ys => .nd false .tup [x, y] :: zpT xs ys
  | _, _ => []
def itemsZ : List T → Option (List T)
  | [.nd _ .lst xs, .nd _ .lst ys] => some (zpT (frzs xs) (frzs ys))
  | _ => none
def dZip (da : DA) : DI := fun env => (da env).bind fun p => (itemsZ p.1).map fun its => (its, p.2)
theorem zpT_get : ∀ (xs ys : List T) (i : Nat) (t : T), (zpT xs ys)[i]? = some t → ∃ x y, xs[i]? = some x ∧ ys[i]? = some y ∧ t = .nd false .tup [x, y]
  | [], _, i, t, h => by simp [zpT] at h
  | _ :: _, [], i, t, h => by simp [zpT] at h
  | x :: xs, y :: ys, 0, t, h => by
    simp only [zpT, List.getElem?_cons_zero, Option.some.injEq] at h
    exact ⟨x, y, rfl, rfl, h.symm⟩
  | x :: xs, y :: ys, i + 1, t, h => by
    simp only [zpT, List.getElem?_cons_succ] at h
    obtain ⟨a, b, h1, h2, h3⟩ := zpT_get xs ys i t h
    exact ⟨a, b, by simpa using h1, by simpa using h2, h3⟩
theorem zpT_len : ∀ (xs ys : List T), (zpT xs ys).length = min xs.length ys.length
  | [], _ => by simp [zpT]
  | _ :: _, [] => by simp [zpT]
  | x :: xs, y :: ys => by simp only [zpT, List.length_cons, zpT_len xs ys]; omega
section
variable {K : PySem.W.Frag} {mg : Mg} {F H : Hp}
theorem good_zip {a b : Addr} {vs ws : List V} {its jts : List T} {S : AS} (r : Reps K mg F H vs its Emp) (q : Reps K mg F H ws jts Emp) (hr : ∀ F2 H2 S2, Stp F H S F2 H2 S2 → Le F2 H2 → SqL K H2 a vs) (hq : ∀ F2 H2 S2, Stp F H S F2 H2 S2 → Le F2 H2 → SqL K H2 b ws) : Good K mg (zpT its jts) (Itz K a b) F H S := fun i F2 H2 S2 st le => by
  have ha := hr F2 H2 S2 st le
  have hb := hq F2 H2 S2 st le
  refine ⟨fun t h => ?_, fun h => ⟨vs, ws, ha, hb, by rw [r.length (S := Emp), q.length (S := Emp)]; rw [zpT_len] at h; omega⟩⟩
  obtain ⟨u1, u2, hu1, hu2, rfl⟩ := zpT_get _ _ _ _ h
  obtain ⟨v, R, e1, e2, e3⟩ := r.get hu1
  obtain ⟨w, R', f1, f2, f3⟩ := q.get hu2
  refine ⟨⟨vs, ws, v, w, ha, hb, e1, f1⟩, fun x H3 y => ?_⟩
  obtain ⟨A, x1, x2, rfl, hA, rfl, y1, y2⟩ := y
  have e5 := (y1 vs ha).symm.trans e1
  cases e5
  have e6 := (y2 ws hb).symm.trans f1
  cases e6
  have nA : ∀ b o, F2 b = some o → b ≠ A := fun b o e z => by rw [z] at e; rw [le A o e] at hA; cases hA
  let F3 : Hp := upd F2 A (.tup [v, w])
  have l3 : Le F2 F3 := fun b o e => by show upd F2 A _ b = _; rw [upd_ne (nA b o e)]; exact e
  have rx : Rep K mg F3 (upd H2 A (.tup [v, w])) v u1 Emp := ((e2.iff (S' := Emp) fun x => ⟨fun z => z.elim, fun z => e3 x z⟩).frame st.ff (F' := F2) (H' := H2) fun _ z => z.elim).frame l3 fun _ z => z.elim
  have ry : Rep K mg F3 (upd H2 A (.tup [v, w])) w u2 Emp := ((f2.iff (S' := Emp) fun x => ⟨fun z => z.elim, fun z => f3 x z⟩).frame st.ff (F' := F2) (H' := H2) fun _ z => z.elim).frame l3 fun _ z => z.elim
  refine ⟨F3, ⟨l3, fun b o e _ => by rw [upd_ne fun z => by rw [z, hA] at e; cases e]; exact e, fun b o e => ?_, fun _ z => z.elim⟩, fun b o e => ?_, ?_⟩
  · by_cases hb : b = A
    · subst hb; exact .inr (.inr hA)
    · have : F3 b = F2 b := upd_ne hb
      rw [this] at e; exact .inl e
  · by_cases hb : b = A
    · subst hb
      have : F3 b = some (.tup [v, w]) := upd_same
      rw [this] at e; rw [upd_same]; exact e
    · have : F3 b = F2 b := upd_ne hb
      rw [this] at e; rw [upd_ne hb]; exact le b o e
  · exact .frz (o := .tup [v, w]) (vs := [v, w]) upd_same rfl (.cons (S1 := Emp) (S2 := Emp) rx (.cons (S1 := Emp) (S2 := Emp) ry (.nil fun _ z => z) dj_emp fun _ => ⟨.inl, fun z => z.elim id id⟩) dj_emp fun _ => ⟨.inl, fun z => z.elim id id⟩)
end
theorem si_zip {X : Cx} {l l2 : Expr} {da : DA} {bs : List (Option Nat)} {p pos tpos : Pos} {elts : List Expr} {kk : Nat} (hg : Gl X "zip") (hm : X.mg "zip" = none) (hl : SA X [l, l2] bs da) (hs : starEach [l, l2] X.env = (false, eval l X.env) :: starEach [l2] X.env := by rfl) (hpl : (backTo pos (starEach [l2] X.env)).any (·.1) = false := by rfl) : SI X (.Tuple elts kk tpos) (.Call (.Name "zip" p) [l, l2] [] pos) (dZip da) :=
  piw (pi_zip hg hm hl hs hpl) fun σ H Rk ⟨F, env, S, its, e, ok, hd, q⟩ => by
    obtain ⟨⟨ts, e1⟩, h1, h2⟩ := Option.bind_eq_some_iff.mp hd
    obtain ⟨its', h3, h4⟩ := Option.map_eq_some_iff.mp h2
    cases h4
    unfold itemsZ at h3
    split at h3
    · rename_i o1 xs o2 ys hts
      have hts' : ts = [.nd o1 .lst xs, .nd o2 .lst ys] := hts
      subst hts'
      cases h3
      refine ⟨F, env, S, _, _, ok, h1, fun vs F1 H1 S1 R1 st ok1 r dj _ => ?_⟩
      have ff := frF_le (A := R1) ok1.le
      have stF : Stp F1 H1 (Cup S1 R1) (frF F1 H1 R1) H1 S1 := frF_stp ok1.le (fun _ z => .inr z) fun _ z => .inl z
      have stF' : Stp F1 H1 R1 (frF F1 H1 R1) H1 Emp := frF_stp ok1.le (fun _ z => z) fun _ z => z.elim
      have ok' := ok1.keep stF' dj.symm ff.2
      have r' : Reps X.K X.mg (frF F1 H1 R1) H1 vs (frzs [.nd o1 .lst xs, .nd o2 .lst ys]) Emp := r.freeze ff.1 (fun x z => frF_in z) fun _ z => z
      rw [frzs, frzs, frzs, frz, frz] at r'
      cases r' with
      | @cons v1 _ vs1 _ _ A1 B1 r1 r2 d1 hS1 =>
        cases r2 with
        | @cons v2 _ vs2 _ _ A2 B2 r3 r4 d2 hS2 =>
          cases r4 with
          | nil _ =>
            have r1' : Rep X.K X.mg (frF F1 H1 R1) H1 v1 (.nd false .lst (frzs xs)) Emp := r1.iff fun x => ⟨fun z => z.elim, fun z => (hS1 x).mpr (.inl z)⟩
            have r3' : Rep X.K X.mg (frF F1 H1 R1) H1 v2 (.nd false .lst (frzs ys)) Emp := r3.iff fun x => ⟨fun z => z.elim, fun z => (hS1 x).mpr (.inr ((hS2 x).mpr (.inl z)))⟩
            obtain ⟨a, us, Sa, rfl, pa, hsa, hra⟩ := r1'.stays (S := S1) ff.2 dj_emp fun x z => (ok'.st.dom x z).2
            obtain ⟨b, ws, Sb, rfl, pb, hsb, hrb⟩ := r3'.stays (S := S1) ff.2 dj_emp fun x z => (ok'.st.dom x z).2
            refine ⟨a, b, us, ws, rfl, SqL.of (hra _ H1 S1 .refl ok'.le), SqL.of (hrb _ H1 S1 .refl ok'.le), q _ (frF F1 H1 R1) H1 S1 (st.trans stF) ok' ?_⟩
            exact good_zip (pa.clean0 (clns_frz xs)) (pb.clean0 (clns_frz ys)) (fun F2 H2 S2 s l => SqL.of (hra F2 H2 S2 s l)) fun F2 H2 S2 s l => SqL.of (hrb F2 H2 S2 s l)
    · cases h3

/-! ### insert -/
def mInsert : T → List T → Option (T × T)
  | .nd true .lst xs, [.lf (.int i), t] => if xs.length < sizeLine ∧ 0 ≤ i ∧ i < 2 ^ 63 then some (.lf .non, .nd true .lst (xs.take i.toNat ++ [t] ++ xs.drop i.toNat)) else none
  | _, _ => none
section
variable {K : PySem.W.Frag} {mg : Mg} {F H : Hp}
theorem Reps.splitAt : ∀ (n : Nat) {vs : List V} {ts : List T} {S : AS}, Reps K mg F H vs ts S → ∃ A B, Reps K mg F H (vs.take n) (ts.take n) A ∧ Reps K mg F H (vs.drop n) (ts.drop n) B ∧ Dj A B ∧ ∀ x, S x ↔ A x ∨ B x
  | 0, vs, ts, S, r => ⟨Emp, S, by simpa using (Reps.nil (K := K) (mg := mg) (F := F) (H := H) (S := Emp) fun _ z => z), by simpa using r, emp_dj, fun x => ⟨.inr, fun z => z.elim (fun z => z.elim) id⟩⟩
  | n + 1, _, _, S, .nil h => ⟨Emp, Emp, .nil fun _ z => z, .nil fun _ z => z, emp_dj, fun x => ⟨fun z => (h x z).elim, fun z => z.elim (fun z => z.elim) fun z => z.elim⟩⟩
  | n + 1, _, _, S, .cons (S1 := S1) r q d hS => by
    obtain ⟨A, B, h1, h2, h3, h4⟩ := Reps.splitAt n q
    refine ⟨Cup S1 A, B, ?_, ?_, fun x a b => a.elim (fun a => d x a ((h4 x).mpr (.inr b))) fun a => h3 x a b, fun x => ?_⟩
    · rw [List.take_succ_cons, List.take_succ_cons]
      exact .cons r h1 (fun x a b => d x a ((h4 x).mpr (.inl b))) fun _ => Iff.rfl
    · rw [List.drop_succ_cons, List.drop_succ_cons]; exact h2
    · rw [hS x, h4 x]; exact ⟨fun z => z.elim (fun z => .inl (.inl z)) fun z => z.elim (fun z => .inl (.inr z)) .inr, fun z => z.elim (fun z => z.elim .inl fun z => .inr (.inl z)) fun z => .inr (.inr z)⟩
def rInsertM : V → List V → Hp → VK → Prop := fun x vs H Q => ∃ (l : Addr) (xs : List V) (i : Int) (y : V), x = .ref l ∧ vs = [.int i, y] ∧ H l = some (.lst xs) ∧ xs.length < sizeLine ∧ 0 ≤ i ∧ i < 2 ^ 63 ∧
    Q .non (upd H l (.lst (xs.take i.toNat ++ [y] ++ xs.drop i.toNat)))
theorem mt_insertM {X : Cx} : MtR X "list.insert" rInsertM := mt_insert
theorem m_insert : OpM K mg rInsertM mInsert := by
  intro F H x t A vs ts R res t' Q le rx rs dj h q
  unfold mInsert at h
  split at h
  · rename_i xs i y
    split at h
    · rename_i hl
      cases h
      obtain ⟨a, o, ws, S0, rfl, h1, h2, rfl, r, na, hA⟩ := rx.own_inv
      cases rs with
      | @cons v0 _ vs0 _ _ Ri R1 ri rs1 di hRi =>
        cases rs1 with
        | @cons v _ vs _ _ R2 R3 ry rn dy hR =>
          cases rn with
          | nil hn =>
            obtain ⟨rfl, _, _⟩ := ri.lf_inv
            have nRa : ¬ R a := fun z => dj a ((hA a).mpr (.inl rfl)) z
            obtain ⟨A1, B1, k1, k2, k3, k4⟩ := r.splitAt i.toNat
            have sub : ∀ x, R2 x → R x := fun x z => (hRi x).mpr (.inr ((hR x).mpr (.inl z)))
            have d0 : ∀ x, S0 x → ¬ R2 x := fun x z y => dj x ((hA x).mpr (.inr z)) (sub x y)
            have one : Reps K mg F H [v] [y] R2 := .cons (S1 := R2) (S2 := Emp) ry (.nil fun _ z => z) dj_emp fun x => ⟨.inl, fun z => z.elim id fun z => z.elim⟩
            have j1 := Reps.append one k1 fun x z y => d0 x ((k4 x).mpr (.inl z)) y
            have j2 := Reps.append k2 j1 fun x z y => z.elim (fun z => k3 x z y) fun z => d0 x ((k4 x).mpr (.inr y)) z
            refine ⟨a, ws, i, v, rfl, rfl, h1, by rw [r.length (S := Emp)]; exact hl.1, hl.2.1, hl.2.2, ?_⟩
            exact write_end (k := .lst) (vs' := ws.take i.toNat ++ [v] ++ ws.drop i.toNat) (xs' := xs.take i.toNat ++ [y] ++ xs.drop i.toNat) (R := R) le h2 hA na nRa j2 (fun x z => z.elim (fun z => z.elim (fun z => .inl ((k4 x).mpr (.inl z))) fun z => .inr (sub x z)) fun z => .inl ((k4 x).mpr (.inr z))) rfl rfl q
    · cases h
  · cases h
end

/-! ### built-ins of two readings -/
section
variable {X : Cx} {e1 e2 : Expr} {x : Str} {id : String} {p pos : Pos} {d1 d2 : DE} {r : List V → Hp → VK → Prop} {o : T → T → Option T}
theorem sr_b2c (hc : CallR X (.builtin id) r) (hv : Op2V X.K X.mg (fun x y H Q => r [x, y] H Q) o) (hb : bootBuiltins x = some (.builtin id)) (hg : Gl X x) (hm : X.mg x = none) (h1 : SR X e1 d1) (h2 : SR X e2 d2) (hn : x ≠ "__name__" := by decide) (hdb : (x == ("__debug__" : Str)) = false := by decide)
    (hs : starEach (e1 :: [e2]) X.env = (false, eval e1 X.env) :: starEach [e2] X.env := by rfl) (hs2 : starEach (e2 :: []) X.env = (false, eval e2 X.env) :: starEach [] X.env := by rfl) (hpl : (backTo pos (starEach [e2] X.env)).any (·.1) = false := by rfl) :
    SR X (.Call (.Name x p) [e1, e2] [] pos) (o2c o d1 d2) := pew (pe_callB hc hg hm hb (pa_cons h1 (pa_cons h2 pa_nil hs2) hs) hn hdb (he := hs) (hpl := hpl)) fun _ _ _ h => i2c hv h
end

/-! ### a slice whose first bound is reckoned -/
def oSlLo : T → T → Option T
  | t, .lf (.int i) => oSlL (some i) none t
  | _, _ => none
section
variable {K : PySem.W.Frag} {mg : Mg} {σ : L2.St}
theorem slN_imp {i : Nat} {db : DE} {H : Hp} {Q : VK} (h : tE K mg (o2n oSlLo i db) σ H Q) : tSl (rSlL K) (tVar i) (tPart (tR K mg db)) tNoPart σ H Q := by
  obtain ⟨F, env, S, t, env', ok, hd, q⟩ := h
  obtain ⟨t0, h0, hd⟩ := Option.bind_eq_some_iff.mp hd
  obtain ⟨⟨y, e⟩, h1, h2⟩ := Option.bind_eq_some_iff.mp hd
  obtain ⟨t1, h3, h4⟩ := Option.bind_eq_some_iff.mp h2
  obtain ⟨u, h5, h6⟩ := Option.map_eq_some_iff.mp h4
  cases h6
  obtain ⟨g1, g2⟩ := gV_some h0
  obtain ⟨v, A, B, ev, rx, _⟩ := ok.st.slot g1 g2
  refine ⟨v, ev, F, env, S, y, _, ok, h1, fun w F1 H1 S1 R1 st ok1 r1 => ?_⟩
  unfold oSlLo at h5
  split at h5
  · rename_i j hj
    have hj' : y = .lf (.int j) := hj
    subst hj'
    refine ⟨j, r1.lf_inv.1, ?_⟩
    obtain ⟨g3, g4⟩ := gV_some h3
    obtain ⟨v2, A2, B2, ev2, rx2, _⟩ := ok1.st.slot g3 g4
    rw [ev] at ev2
    cases ev2
    refine e_slL (some j) none F1 H1 v _ A2 _ Q ok1.le rx2 h5 fun v' F2 H2 R' st2 le2 r' => ?_
    obtain ⟨a, b, c⟩ := fin_new st ok1 st2 le2
    exact q v' F2 H2 S1 R' a b r' c
  · cases h5
end
section
variable {X : Cx} {x : Str} {i : Nat} {b : Expr} {px pos p2 : Pos} {db : DE}
theorem se_slN (hb : SR X b db) (hN : X.N[i]? = some x := by rfl) (hvis : Vis X.env.scope x := by first | exact Or.inl rfl | exact Or.inr (Or.inl rfl) | exact Or.inr (Or.inr rfl)) (hd : (x == ("__debug__" : Str)) = false := by decide) (hcd : (x == ("__classdict__" : Str)) = false := by decide) :
    SE X (.Subscript (.Name x px) (.Slice (some b) none none p2) pos) (o2n oSlLo i db) := pew (pe_slice sl_list (pe_var hN hvis hd hcd) (po_some hb) po_none) fun _ _ _ h => slN_imp h
end

/-! ### d.get(k, x) -/
def oGet (t k x : T) : Option T := match t, k with
  | .nd _ (.dK ks) xs, .lf w => (keyOf w).map fun kk => (getK ks xs kk).getD x
  | _, _ => none
def o3V (o : T → T → T → Option T) (a b c : DV) : DV := fun env => (a env).bind fun x => (b env).bind fun y => (c env).bind fun z => o x y z
/-- d.get(k, []) -/
def dGetE (a b : DV) : DE := fun env => (a env).bind fun x => (b env).bind fun y => (oGet x y (.nd true .lst [])).map fun t => (t, env)
section
variable {K : PySem.W.Frag} {mg : Mg} {F H : Hp} {σ : L2.St}
theorem getK_none {k : Key} : ∀ {ks : List Key} {vs : List V} {ts : List T}, vs.length = ts.length → ks.length = vs.length → getK ks ts k = none → valV (ks.zip vs) k = none
  | [], _, _, _, _, _ => by simp [valV]
  | a :: ks, [], _, _, h, _ => by simp at h
  | a :: ks, v :: vs, [], h, _, _ => by simp at h
  | a :: ks, v :: vs, t :: ts, h1, h2, h => by
    unfold getK at h
    split at h
    · cases h
    · rename_i ne
      rw [List.zip_cons_cons, valV_neg ne]
      exact getK_none (by simpa using h1) (by simpa using h2) h
theorem oGet_imp {x y z : V} {t k d u : T} {R R2 R3 : AS} (le : Le F H) (r : Rep K mg F H x t R) (r2 : Rep K mg F H y k R2) (r3 : Rep K mg F H z d R3) (h : oGet t k d = some u) : ∃ a w Rw o, x = .ref a ∧ IsD H a ∧ DGet H a y o ∧ o.getD z = w ∧ Rep K mg F H w u Rw := by
  unfold oGet at h
  split at h
  · rename_i o ks xs w
    obtain ⟨kk, h1, h2⟩ := Option.map_eq_some_iff.mp h
    obtain ⟨a, vs, S0, rfl, p, hs, hl, hd⟩ := r.nd_inv le
    have ew := keyOf_some h1
    obtain ⟨e0, _, _⟩ := r2.lf_inv
    rw [e0, ew]
    cases hg : getK ks xs kk with
    | some t' =>
      rw [hg] at h2
      cases h2
      obtain ⟨v, R', g1, g2, g3⟩ := getK_ok p hl hg
      exact ⟨a, v, R', some v, rfl, .inl ⟨_, .inl hd⟩, g1 ▸ DGet.k hd, rfl, g2⟩
    | none =>
      rw [hg] at h2
      cases h2
      have g1 := getK_none (p.length (S := Emp)) hl hg
      exact ⟨a, z, R3, none, rfl, .inl ⟨_, .inl hd⟩, g1 ▸ DGet.k hd, rfl, r3⟩
  · cases h
theorem get_imp {a b c : DV} {Q : VK} (h : tV K mg (o3V oGet a b c) σ H Q) : tDGet2 (tV K mg a) (tV K mg b) (tV K mg c) σ H Q := by
  obtain ⟨F, env, S, t, ok, hd, q⟩ := h
  obtain ⟨x, h1, hd⟩ := Option.bind_eq_some_iff.mp hd
  obtain ⟨y, h2, hd⟩ := Option.bind_eq_some_iff.mp hd
  obtain ⟨z, h3, hd⟩ := Option.bind_eq_some_iff.mp hd
  refine ⟨F, env, S, x, ok, h1, fun v R r => ?_⟩
  have isd : ∃ a, v = .ref a ∧ IsD H a := by
    unfold oGet at hd
    split at hd
    · obtain ⟨a, vs, S0, rfl, p, hs, hl, hk⟩ := r.nd_inv ok.le
      exact ⟨a, rfl, .inl ⟨_, .inl hk⟩⟩
    · cases hd
  obtain ⟨a, rfl, hi⟩ := isd
  refine ⟨a, rfl, hi, F, env, S, y, ok, h2, fun w R2 r2 => ⟨F, env, S, z, ok, h3, fun u R3 r3 => ?_⟩⟩
  obtain ⟨a', w', Rw, o, e1, _, g, e2, rw'⟩ := oGet_imp ok.le r r2 r3 hd
  cases e1
  exact ⟨o, g, e2 ▸ q w' Rw rw'⟩
theorem getE_imp {a b : DV} {Q : VK} (h : tR K mg (dGetE a b) σ H Q) : tDGet2 (tV K mg a) (tV K mg b) (tLst tNil) σ H Q := by
  obtain ⟨F, env, S, t, env', ok, hd, q⟩ := h
  obtain ⟨x, h1, hd⟩ := Option.bind_eq_some_iff.mp hd
  obtain ⟨y, h2, hd⟩ := Option.bind_eq_some_iff.mp hd
  obtain ⟨u, h3, h4⟩ := Option.map_eq_some_iff.mp hd
  cases h4
  refine ⟨F, _, S, x, ok, h1, fun v R r => ?_⟩
  have isd : ∃ a, v = .ref a ∧ IsD H a := by
    unfold oGet at h3
    split at h3
    · obtain ⟨a, vs, S0, rfl, p, hs, hl, hk⟩ := r.nd_inv ok.le
      exact ⟨a, rfl, .inl ⟨_, .inl hk⟩⟩
    · cases h3
  obtain ⟨a, rfl, hi⟩ := isd
  refine ⟨a, rfl, hi, F, _, S, y, ok, h2, fun w R2 r2 => ⟨by decide, fun p hp => ?_⟩⟩
  have np : ∀ b o, H b = some o → b ≠ p := fun b o z y => by rw [y, hp] at z; cases z
  obtain ⟨g1, g2, g3⟩ := new_one (K := K) (mg := mg) (k := .lst) (o := .lst []) (vs := []) (xs := []) ok.le hp rfl (.nil fun _ z => z)
  obtain ⟨z1, z2, z3⟩ := fin_new .refl ok g1 g2
  have kp : ∀ v t R, Rep K mg F H v t R → Rep K mg F (upd H p (.lst [])) v t R := fun v t R r => r.frame (Le.refl _) fun x z => ⟨by obtain ⟨⟨o, e⟩, _⟩ := r.dom x z; exact upd_ne (np x o e), (r.dom x z).2⟩
  obtain ⟨a', w', Rw, o, e1, _, g, e2, rw'⟩ := oGet_imp g2 (kp _ _ _ r) (kp _ _ _ r2) g3 h3
  cases e1
  exact ⟨o, g, e2 ▸ q w' F _ S Rw (z1.weak fun _ z => .inl z) z2 rw'⟩
end
section
variable {X : Cx} {o e f : Expr} {apos cpos : Pos} {a b c : DV}
theorem sv_get (hu : X.A.units + 1 < cLine) (ho : SV X o a) (he : SV X e b) (hf : SV X f c) (m : M2 X o "get" apos e f cpos := by exact ⟨rfl, rfl, rfl, rfl⟩) : SV X (.Call (.Attribute o "get" apos) [e, f] [] cpos) (o3V oGet a b c) := pew (pe_dget2 hu ho he hf m) fun _ _ _ h => get_imp h
theorem sr_getE {lp : Pos} (hu : X.A.units + 1 < cLine) (ho : SV X o a) (he : SV X e b) (m : M2 X o "get" apos e (.List [] lp) cpos := by exact ⟨rfl, rfl, rfl, rfl⟩) : SR X (.Call (.Attribute o "get" apos) [e, .List [] lp] [] cpos) (dGetE a b) := pew (pe_dget2 hu ho he (pe_lst pa_nil) m) fun _ _ _ h => getE_imp h
end
end Tr


set_option Elab.async false
set_option linter.all false
set_option maxRecDepth 100000
set_option maxHeartbeats 4000000
/-! D20: dicts written out; stores at places. -/
namespace Tr
open PySem PySem.Spec PyProof.Rows L2

/-! ### {"a": x, "b": y, ..} -/
def dDisp (ks : List Key) (da : DA) : DE := fun env => (da env).bind fun p => if nodupK ks = true ∧ ks.length = p.1.length ∧ ks.length ≤ 15 then some (.nd true (.dK ks) p.1, p.2) else none
def tPr (K : PySem.W.Frag) (mg : Mg) (ks : List Key) (da : DA) (σ : L2.St) (H : Hp) (Q : List (V × V) → Hp → Prop) : Prop := ∃ F env S ts env', Ok K mg F H σ env S ∧ da env = some (ts, env') ∧ ks.length = ts.length ∧
  ∀ vs F' H' S' R, Stp F H S F' H' (Cup S' R) → Ok K mg F' H' σ env' S' → Reps K mg F' H' vs ts R → Dj S' R → Q ((ks.map kV).zip vs) H'
def PD (X : Cx) (pos : Pos) (keys : List (Option Expr)) (values : List Expr) (ks : List Key) (da : DA) : Prop := ∃ trs, PPs X pos keys values trs ∧ ∀ σ H Q, tPr X.K X.mg ks da σ H Q → tPairs trs σ H Q
theorem pd_nil {X : Cx} {pos : Pos} : PD X pos [] [] [] aNil := ⟨[], pps_nil, fun σ H Q ⟨F, env, S, ts, env', ok, hd, hl, q⟩ => by
  cases hd
  exact q [] F H S Emp (Stp.refl.weak fun _ z => z.elim id fun z => z.elim) ok (.nil fun _ z => z) dj_emp⟩
theorem pd_cons {X : Cx} {pos p2 : Pos} {x : Str} {j : Nat} {v : Expr} {keys : List (Option Expr)} {values : List Expr} {ks : List Key} {d : DE} {da : DA} (hv : SE X v d) (hr : PD X pos keys values ks da) : PD X pos (some (.Constant (.str x) j p2) :: keys) (v :: values) (.inr x :: ks) (aCons d da) := by
  obtain ⟨trs, h1, h2⟩ := hr
  refine ⟨_, pps_cons (pe_str (x := x)) hv h1, fun σ H Q ⟨F, env, S, ts, env', ok, hd, hl, q⟩ => ?_⟩
  obtain ⟨t, e1, ts', g1, g2, rfl⟩ := aCons_some hd
  show tE X.K X.mg d σ H fun y H2 => tPairs trs σ H2 fun ps H3 => Q ((.str x, y) :: ps) H3
  refine ⟨F, env, S, t, e1, ok, g1, fun v F1 H1 S1 R1 st ok1 r dj => h2 _ _ _ ⟨F1, e1, S1, ts', env', ok1, g2, by simpa using hl, fun vs F2 H2 S2 R2 st2 ok2 r2 dj2 => ?_⟩⟩
  obtain ⟨k1, k2, k3⟩ := join_step st (fun x z => (r.dom x z).1) dj st2
  exact q (v :: vs) F2 H2 S2 (Cup R1 R2) k1 ok2 (.cons (r.keep st2 dj) r2 k2 fun _ => Iff.rfl) fun x a b => b.elim (k3 x a) (dj2 x a)
theorem zip_kV : ∀ (ks : List Key) (vs : List V), (ks.map kV).zip vs = (ks.zip vs).map fun kv => (kV kv.1, kv.2)
  | [], _ => by simp
  | _ :: _, [] => by simp
  | k :: ks, v :: vs => by simp only [List.map_cons, List.zip_cons_cons, zip_kV ks vs]
theorem putK_fresh {k : Key} {w : V} : ∀ {acc : List (Key × V)}, (∀ p ∈ acc, p.1 ≠ k) → putK acc k w = acc ++ [(k, w)] := fun {acc} h => by
  unfold putK
  have : (acc.any fun kv => decide (kv.1 = k)) = false := by
    rw [List.any_eq_false]
    intro p hp
    simpa using h p hp
  rw [this]; rfl
theorem mergeK_fresh : ∀ (more acc : List (Key × V)), (more.map (·.1)).Nodup → (∀ p ∈ acc, ∀ q ∈ more, p.1 ≠ q.1) → mergeK acc more = acc ++ more
  | [], acc, _, _ => by simp [mergeK]
  | kv :: more, acc, nd, h => by
    have nd' := List.nodup_cons.mp nd
    show mergeK (putK acc kv.1 kv.2) more = _
    rw [putK_fresh fun p hp => h p hp kv (List.mem_cons_self ..), mergeK_fresh more _ nd'.2, List.append_assoc]
    · rfl
    · intro p hp q hq
      rcases List.mem_append.mp hp with hp | hp
      · exact h p hp q (List.mem_cons_of_mem _ hq)
      · rw [show p = (kv.1, kv.2) by simpa using hp]
        intro e
        have e' : kv.1 = q.1 := e
        exact nd'.1 (List.mem_map.mpr ⟨q, hq, e'.symm⟩)
theorem zip_keys : ∀ (ks : List Key) (vs : List V), ks.length = vs.length → (ks.zip vs).map (·.1) = ks
  | [], [], _ => rfl
  | [], _ :: _, h => by simp at h
  | _ :: _, [], h => by simp at h
  | k :: ks, v :: vs, h => by rw [List.zip_cons_cons, List.map_cons, zip_keys ks vs (by simpa using h)]
theorem disp_imp {K : PySem.W.Frag} {mg : Mg} {ks : List Key} {da : DA} {σ : L2.St} {H : Hp} {Q : VK} {trs : List (TE × TE)} (ht : ∀ σ H Q, tPr K mg ks da σ H Q → tPairs trs σ H Q) (h : tE K mg (dDisp ks da) σ H Q) : tDisp trs σ H Q := by
  obtain ⟨F, env, S, t, e, ok, hd, q⟩ := h
  obtain ⟨⟨ts, e1⟩, h1, h2⟩ := Option.bind_eq_some_iff.mp hd
  split at h2
  · rename_i hc
    cases h2
    intro p hp
    have np : ∀ b o, H b = some o → b ≠ p := fun b o z y => by rw [y, hp] at z; cases z
    have Fp : F p = none := ok.le.nn hp
    have nS : ¬ S p := fun z => by obtain ⟨⟨o, e⟩, _⟩ := ok.st.dom p z; exact np p o e rfl
    have ok1 : Ok K mg F (upd H p (.dK [])) σ env S := ⟨fun b o z => by rw [upd_ne (np b o (ok.le b o z))]; exact ok.le b o z, ok.st.frame (Le.refl _) fun x z => ⟨by obtain ⟨⟨o, z1⟩, _⟩ := ok.st.dom x z; exact upd_ne (np x o z1), (ok.st.dom x z).2⟩⟩
    refine ht _ _ _ ⟨F, env, S, ts, e1, ok1, h1, hc.2.1, fun vs F2 H2 S2 R st ok2 r dj => ?_⟩
    have hl : ks.length = vs.length := by rw [r.length (S := Emp)]; exact hc.2.1
    have h2p : H2 p = some (.dK []) := st.kp p _ upd_same nS
    have f2p : F2 p = none := by
      cases z : F2 p with
      | none => rfl
      | some o =>
        rcases st.nf p o z with y | y | y
        · rw [Fp] at y; cases y
        · exact (nS y).elim
        · rw [upd_same] at y; cases y
    have n2 : ¬ Cup S2 R p := fun z => (st.no p z).elim nS fun y => by rw [upd_same] at y; cases y
    refine ⟨h2p, ks.zip vs, zip_kV ks vs, ?_, ?_⟩
    · rw [List.length_zip]; omega
    · rw [mergeK_fresh (ks.zip vs) [] (by rw [zip_keys ks vs hl]; exact nodupK_ok hc.1) (fun p hp => by cases hp), List.nil_append]
      have n1 : ∀ a, upd H p (.dK []) a = none → H a = none := fun a z => by
        by_cases ha : a = p
        · subst ha; exact hp
        · rwa [upd_ne ha] at z
      refine q (.ref p) F2 _ S2 (fun x => x = p ∨ R x) ⟨st.ff, fun a o z n => ?_, fun a o z => (st.nf a o z).imp id (Or.imp id (n1 a)), fun a z => ?_⟩ ⟨fun b o z => ?_, ok2.st.frame (Le.refl _) fun x z => ⟨upd_ne fun y => n2 (y ▸ .inl z), (ok2.st.dom x z).2⟩⟩ ?_ fun x a b => ?_
      · have := np a o z
        rw [upd_ne this]
        exact st.kp a o (by rw [upd_ne this]; exact z) n
      · rcases z with z | z | z
        · exact (st.no a (.inl z)).imp id (n1 a)
        · exact .inr (z ▸ hp)
        · exact (st.no a (.inr z)).imp id (n1 a)
      · have := ok2.le b o z
        rw [upd_ne fun y => by subst y; rw [f2p] at z; cases z]
        exact this
      · exact .own (o := .dK (ks.zip vs)) (vs := vs) (S0 := R) upd_same f2p ⟨hl, rfl⟩ (r.frame (Le.refl _) fun x z => ⟨upd_ne fun y => n2 (y ▸ .inr z), (r.dom x z).2⟩) (fun z => n2 (.inr z)) fun _ => Iff.rfl
      · rcases b with b | b
        · exact n2 (b ▸ .inl a)
        · exact dj x a b
  · cases h2
theorem se_disp {X : Cx} {pos : Pos} {keys : List (Option Expr)} {values : List Expr} {ks : List Key} {da : DA} (h : PD X pos keys values ks da) (hall : keys.all (·.isSome) = true := by rfl) (hl : keys.length = values.length := by rfl) (h0 : keys ≠ [] := by simp) (h15 : keys.length ≤ 15 := by decide) : SE X (.Dict keys values pos) (dDisp ks da) := by
  obtain ⟨trs, h1, h2⟩ := h
  exact pew (pe_disp h1 hall hl h0 h15) fun _ _ _ => disp_imp h2

/-! ### reversed(range(n)) -/
def dRevR (d : DE) : DI := fun env => match d env with
  | some (.lf (.int j), e) => if -(2 ^ 61) ≤ j ∧ j < 2 ^ 61 then some ((List.range j.toNat).map fun (k : Nat) => lfI (j - 1 - k), e) else none
  | _ => none
theorem si_revR {X : Cx} {tg e : Expr} {d : DE} {p pos p2 pos2 : Pos} (hg : Gl X "reversed") (hm : X.mg "reversed" = none) (hg2 : Gl X "range") (hm2 : X.mg "range" = none) (ha : SR X e d) (hs : starEach [e] X.env = (false, eval e X.env) :: starEach [] X.env := by rfl)
    (hs2 : starEach [.Call (.Name "range" p2) [e] [] pos2] X.env = [(false, eval (.Call (.Name "range" p2) [e] [] pos2) X.env)] := by rfl) : SI X tg (.Call (.Name "reversed" p) [.Call (.Name "range" p2) [e] [] pos2] [] pos) (dRevR d) :=
  piw (pi_revR hg hm (prg_1 hg2 hm2 ha hs) hs2) fun σ H R ⟨F, env, S, its, env', ok, hd, q⟩ => by
    unfold dRevR at hd
    split at hd
    · rename_i j e1 h1
      split at hd
      · rename_i hj
        cases hd
        refine ⟨F, env, S, _, _, ok, h1, fun v F1 H1 S1 R1 st ok1 r => ⟨j, by rw [r.lf_inv.1], by omega, by omega, by omega, by omega, ?_⟩⟩
        refine q _ F1 H1 S1 st ok1 fun i F2 H2 S2 st2 le => ⟨fun t h => ?_, fun h => ?_⟩
        · have hi : i < j.toNat := by
            have := (List.getElem?_eq_some_iff.mp h).1
            simpa using this
          rw [List.getElem?_map, List.getElem?_range hi] at h
          cases h
          refine ⟨by show i < (j - 0).toNat; simpa using hi, fun x H3 y => ?_⟩
          obtain ⟨e1, e2⟩ := y
          subst e1 e2
          refine ⟨F2, .refl, le, ?_⟩
          have : (0 + (((j - 0).toNat : Nat) : Int) - 1) + (i : Nat) * (-1) = j - 1 - (i : Nat) := by omega
          show Rep X.K X.mg F2 _ (.int ((0 + (((j - 0).toNat : Nat) : Int) - 1) + (i : Nat) * (-1))) (lfI (j - 1 - (i : Nat))) Emp
          rw [this]
          exact .lf rfl fun _ z => z
        · have h' : j.toNat ≤ i := by simpa using h
          show (j - 0).toNat ≤ i
          simpa using h'
      · cases hd
    · cases hd
/-! ### places in dicts -/
def idxK : List Key → Key → Option Nat
  | a :: ks, k => if a = k then some 0 else (idxK ks k).map (· + 1)
  | [], _ => none
def dpKy (da : DP) (db : DV) : DP := fun env => match da env, db env with
  | some (.nd o (.dK ks) xs, put), some (.lf w) => (keyOf w).bind fun k => (idxK ks k).bind fun j => (xs[j]?).map fun t => (t, fun t' => put (.nd o (.dK ks) (xs.set j t')))
  | _, _ => none
theorem idxK_val {k : Key} {w : V} : ∀ {ks : List Key} {vs : List V} {j : Nat}, idxK ks k = some j → vs[j]? = some w → ks.length = vs.length → valV (ks.zip vs) k = some w
  | [], _, _, h, _, _ => by simp [idxK] at h
  | a :: ks, [], _, _, h, _ => by simp at h
  | a :: ks, v :: vs, j, h, hw, hl => by
    unfold idxK at h
    split at h
    · rename_i e
      cases h
      have : v = w := by simpa using hw
      subst this
      rw [List.zip_cons_cons, valV_pos e]
    · rename_i ne
      obtain ⟨j', h1, rfl⟩ := Option.map_eq_some_iff.mp h
      rw [List.zip_cons_cons, valV_neg ne]
      exact idxK_val h1 (by simpa using hw) (by simpa using hl)
section
variable {K : PySem.W.Frag} {mg : Mg} {F H : Hp} {σ : L2.St} {env : List T} {S : AS}
theorem pky_imp {da : DP} {db : DV} {Q : VK} (h : tP K mg (dpKy da db) σ H Q) : tOp (rIxA K) (tP K mg da) (tV K mg db) σ H Q := by
  obtain ⟨F, env, S, t, put, ok, hd, q⟩ := h
  unfold dpKy at hd
  split at hd
  · rename_i o ks xs p w h1 h2
    obtain ⟨k, e0, hd⟩ := Option.bind_eq_some_iff.mp hd
    obtain ⟨j, e1, e2⟩ := Option.bind_eq_some_iff.mp hd
    obtain ⟨t', e3, e4⟩ := Option.map_eq_some_iff.mp e2
    cases e4
    refine ⟨F, env, S, _, _, ok, h1, fun v f => ⟨F, env, S, _, ok, h2, fun w' R rw' => ?_⟩⟩
    obtain ⟨a, vs, u, R', rfl, hh, g1, g2, g3, g4, g5⟩ := foc_child f e3
    obtain ⟨hl, hk⟩ := hh ok.le
    rw [rw'.lf_inv.1, keyOf_some e0]
    exact .inr (.inr (.inr ⟨a, u, rfl, idxK_val e1 g1 hl ▸ DGet.k hk, q u g5⟩))
  · cases hd
/-- the value, then the place, then the key, then the store -/
def dPutP (dp : DP) (mk : V → T → List T → Option (T × T)) (dv : DE) (dk : DV) : DS := fun env => (dv env).bind fun p => (dp p.2).bind fun u => match dk p.2 with
  | some (.lf k) => if cln p.1 = true then (mk k u.1 [p.1]).map fun r => (.nx, u.2 r.2) else none
  | _ => none
theorem putP_imp {D : Ends} {dp : DP} {mk : V → T → List T → Option (T × T)} {r : V → V → List V → Hp → VK → Prop} {dv : DE} {dk : DV} (ho : ∀ k, OpM K mg (r k) (mk k)) (h : tS K mg [] (dPutP dp mk dv dk) D σ H) :
    tE K mg dv σ H fun v H1 => tP K mg dp σ H1 fun x H2 => tV K mg dk σ H2 fun k H3 => r k x [v] H3 fun _ H4 => D.nx σ H4 := by
  obtain ⟨F, env, S, rr, env', ok, hd, q⟩ := h
  obtain ⟨⟨t, e⟩, h1, h2⟩ := Option.bind_eq_some_iff.mp hd
  obtain ⟨⟨u, put⟩, h3, h4⟩ := Option.bind_eq_some_iff.mp h2
  have hk : ∃ k, dk e = some (.lf k) ∧ cln t = true ∧ ∃ y, mk k u [t] = some y ∧ rr = .nx ∧ env' = put y.2 := by
    replace h4 : (match dk e with
      | some (.lf k) => if cln t = true then (mk k u [t]).map fun r => (Fl.nx, put r.2) else none
      | _ => none) = some (rr, env') := h4
    cases hdk : dk e with
    | none => rw [hdk] at h4; cases h4
    | some z =>
      rw [hdk] at h4
      cases z with
      | lf k =>
        replace h4 : (if cln t = true then (mk k u [t]).map fun r => (Fl.nx, put r.2) else none) = some (rr, env') := h4
        split at h4
        · rename_i hc
          obtain ⟨y, h5, h6⟩ := Option.map_eq_some_iff.mp h4
          cases h6
          exact ⟨k, rfl, hc, y, h5, rfl, rfl⟩
        · cases h4
      | no => cases h4
      | nd _ _ _ => cases h4
  obtain ⟨k, hdk, hc, ⟨res, t'⟩, hop, rfl, rfl⟩ := hk
  refine ⟨F, env, S, t, e, ok, h1, fun v F1 H1 S1 R1 st1 ok1 r1 dj1 => ⟨F1, e, S1, u, put, ok1, h3, fun x f => ⟨F1, e, S1, .lf k, ok1, hdk, fun w R2 rw' => ?_⟩⟩⟩
  obtain ⟨rfl, _, _⟩ := rw'.lf_inv
  refine foc_mut (ho w) ok1.le f (.cons (S1 := Emp) (S2 := Emp) (r1.clean0 hc) (.nil fun _ z => z) (fun _ z => z.elim) fun _ => ⟨.inl, fun z => z.elim id id⟩) hop (fun v' F' H' S' R' st ok' _ _ => ?_) ok1.st.dom
  exact q.now ((st1.weak fun x z => .inl z).trans (st.weak fun x z => .inl z)) ok' .refl
end
section
variable {X : Cx} {k value o : Expr} {pos pos' : Pos} {dv : DE} {dk : DV} {dp : DP} {a b : Expr} {da : DP} {db : DV}
theorem sp_ky (hu : X.A.units + 1 < cLine) (ha : SP X a da) (hb : SV X b db) (hs : PlainIx b := by exact fun _ _ => rfl) : SP X (.Subscript a b pos) (dpKy da db) := pew (pe_ix (ix_all hu) ha hb hs) fun _ _ _ => pky_imp
theorem ss_setLP (hv : SE X value dv) (ho : SP X o dp) (hk : SV X k dk)
    (ha : ∀ v, assign (.Subscript o k pos) X.env v = (do
      let ov ← holding [v] (eval o X.env)
      let iv ← holding [v, ov] (eval k X.env)
      standAt pos
      holding [v, ov, iv] (setItem ov iv v)
      release [v, ov, iv] []) := by intro _; rfl) (hs : swapsWithSole [.Subscript o k pos] value pos'.line X.env = pure false := by rfl) (hw : swappedStores [.Subscript o k pos] value X.env = pure none := by rfl)
    (h1 : (assignEach [.Subscript o k pos] X.env).map (·.2) = [assign (.Subscript o k pos) X.env] := by rfl) :
    SS X (.Assign [.Subscript o k pos] value pos') [] (dPutP dp mSetL dv dk) :=
  psw (ps_asg hv (pg_sub ho hk set_list ha) hs hw h1) fun D σ H h => by
    obtain ⟨F, env, S, t, e, ok, hd, q⟩ := putP_imp (r := rSetLM) (fun k => m_setL k) h
    exact ⟨F, env, S, t, e, ok, hd, fun v F' H' S' R a b c d => by
      obtain ⟨F2, en2, S2, t2, p2, ok2, hd2, q2⟩ := q v F' H' S' R a b c d
      exact ⟨F2, en2, S2, t2, p2, ok2, hd2, fun x f => by
        obtain ⟨F3, en3, S3, t3, ok3, hd3, q3⟩ := q2 x f
        exact ⟨F3, en3, S3, t3, ok3, hd3, fun w R' r' => by
          obtain ⟨v', e3, q4⟩ := q3 w R' r'
          cases e3
          exact q4⟩⟩⟩
theorem ss_setDP (hu : X.A.units + 1 < cLine) (hv : SE X value dv) (ho : SP X o dp) (hk : SV X k dk) (hs : swapsWith value (some (.Subscript o k pos)) pos'.line X.env = pure false := by rfl) :
    SS X (.Assign [.Subscript o k pos] value pos') [] (dPutP dp mSetD dv dk) :=
  psw (ps_dput hu ho hk hv hs) fun D σ H h => by
    obtain ⟨F, env, S, t, e, ok, hd, q⟩ := putP_imp (r := rSetDM) (fun k => m_setD k) h
    exact ⟨F, env, S, t, e, ok, hd, fun v F' H' S' R a b c d => by
      obtain ⟨F2, en2, S2, t2, p2, ok2, hd2, q2⟩ := q v F' H' S' R a b c d
      exact ⟨F2, en2, S2, t2, p2, ok2, hd2, fun x f => by
        obtain ⟨F3, en3, S3, t3, ok3, hd3, q3⟩ := q2 x f
        exact ⟨F3, en3, S3, t3, ok3, hd3, fun w R' r' => by
          obtain ⟨v', a', H4, e3, e4, e5, q4⟩ := q3 w R' r'
          cases e3
          exact ⟨a', H4, e4, e5, q4⟩⟩⟩⟩
end
end Tr


set_option Elab.async false
set_option linter.all false
set_option maxRecDepth 100000
set_option maxHeartbeats 4000000
/-! D21: for .. in zip(x, y), x a list of clean things that is changed behind the loop; tuples of one's own; a change at a place with what is reckoned. -/
namespace Tr
open PySem PySem.Spec PyProof.Rows L2

def dForZ (i j : Nat) (dg : DG) (d : DS) : DS := fun env => match gV i env, gV j env with
  | some t0, some u0 => match itemsC t0, itemsC u0 with
    | some its, some jts => if cln u0 = true then match dFr dg d (zpT its jts) (env.set i .no) with
      | some (r, e) => match e[i]? with
        | some .no => some (r, e.set i t0)
        | _ => none
      | none => none
      else none
    | _, _ => none
  | _, _ => none
section
variable {K : PySem.W.Frag} {mg : Mg} {D : Ends} {σ σ' : L2.St} {H H' F F' : Hp} {S S' R : AS} {W1 W2 : List Nat} {env env' : List T} {r : Fl}
theorem forZ_imp {i j : Nat} {dg : DG} {d : DS} (hi : i ∉ W1 ++ W2) (h : tS K mg (W1 ++ W2) (dForZ i j dg d) D σ H) : tFor (iZip K (tCons (tVar i) (tCons (tVar j) tNil))) (tG K mg W1 dg) (tS K mg W2 d) D σ H := by
  obtain ⟨F, env, S, r, env', ok, hd, q⟩ := h
  unfold dForZ at hd
  split at hd
  · rename_i t0 u0 h0 h0'
    split at hd
    · rename_i its jts h1 h1'
      split at hd
      · rename_i hcl
        split at hd
        · rename_i r' e h2
          split at hd
          · rename_i h3
            cases hd
            obtain ⟨g1, g2⟩ := gV_some h0
            obtain ⟨v, A, B, ev, rv, dAB, hS, rest⟩ := ok.st.slot g1 g2
            obtain ⟨o, k, rfl, hc, hk⟩ := itemsC_some h1
            obtain ⟨o', k', rfl, hc', hk'⟩ := itemsC_some h1'
            obtain ⟨g1', g2'⟩ := gV_some h0'
            obtain ⟨v', A', B', ev', rw', _⟩ := ok.st.slot g1' g2'
            have rw0 := rw'.clean0 hcl
            have hB : ∀ x, B x → (∃ o, H x = some o) ∧ F x = none := fun x z => ok.st.dom x ((hS x).mpr (.inr z))
            obtain ⟨a, vs, S0, rfl, p, hs, hr⟩ := rv.stays (S := B) ok.le dAB.symm fun x z => (hB x z).2
            obtain ⟨b, ws, S1, rfl, p', hs', hr'⟩ := rw0.stays (S := B) ok.le dj_emp fun x z => (hB x z).2
            have okB : Ok K mg F H σ (env.set i .no) (Cup Emp B) := ⟨ok.le, by
              have := rest F H (some (.ref a)) .no Emp (Le.refl _) (fun y z => ⟨rfl, (hB y z).2⟩) (.no fun _ z => z) emp_dj
              rwa [set_self' ev] at this⟩
            have okB' : Ok K mg F H σ (env.set i .no) B := ⟨okB.le, okB.st.iff fun x => ⟨.inr, fun z => z.elim (fun z => z.elim) id⟩⟩
            refine ⟨.ref a, ev, .ref b, ev', a, b, vs, ws, rfl, hk _ _ _ _ _ (hr F H B .refl ok.le), hk' _ _ _ _ _ (hr' F H B .refl ok.le), ?_⟩
            have good : Good K mg (zpT its jts) (Itz K a b) F H B := good_zip (p.clean0 hc) (p'.clean0 hc') (fun F2 H2 S2 s l => hk _ _ _ _ _ (hr F2 H2 S2 s l)) fun F2 H2 S2 s l => hk' _ _ _ _ _ (hr' F2 H2 S2 s l)
            refine for_core good okB' h2 fun F' H' S' R σ' st ok' of dj => ?_
            have e' : σ'[i]? = some (some (.ref a)) := (of.at_ i hi).trans ev
            have rv' := rv.keep st dAB.symm
            have djA : Dj (Cup S' R) A := st.dj (fun x z => (rv.dom x z).1) dAB.symm
            obtain ⟨s, A2, B2, k1, k2, k3, k4, rest2⟩ := ok'.st.split h3
            rw [e'] at k1
            cases k1
            have hn := rest2 F' H' (some (.ref a)) (.nd o k its) A (Le.refl _) (fun y z => ⟨rfl, (ok'.st.dom y ((k4 y).mpr (.inr z))).2⟩) rv' fun y z u => djA y (.inl ((k4 y).mpr (.inr u))) z
            rw [set_self' e'] at hn
            refine q F' H' (Cup A B2) R σ' ?_ ⟨ok'.le, hn⟩ of fun y z u => z.elim (fun z => djA y (.inr u) z) fun z => dj y ((k4 y).mpr (.inr z)) u
            have b1 := st.frameL A
            exact (b1.big fun y z => (hS y).mpr z).weak fun y z => z.elim (fun z => z.elim .inl fun z => .inr (.inl ((k4 y).mpr (.inr z)))) fun z => .inr (.inr z)
          · cases hd
        · cases hd
      · cases hd
    · cases hd
  · cases hd
theorem ss_forZ {X : Cx} {elts : List Expr} {kk : Nat} {tpos : Pos} {x y : Str} {i j : Nat} {px py p pos2 : Pos} {body : List Stmt} {dg : DG} {d : DS} {pos : Pos} (hi : i ∉ W1 ++ W2) (hp : PassesOwn (model X.prog X.w) X.A X.env X.xe) (hc : X.calm = true) (hgl : Gl X "zip") (hm : X.mg "zip" = none) (hg : SG X (.Tuple elts kk tpos) W1 dg) (hb : SSs X body W2 d)
    (hN : X.N[i]? = some x := by rfl) (hvis : Vis X.env.scope x := by first | exact Or.inl rfl | exact Or.inr (Or.inl rfl) | exact Or.inr (Or.inr rfl)) (hd : (x == ("__debug__" : Str)) = false := by decide) (hcd : (x == ("__classdict__" : Str)) = false := by decide)
    (hN' : X.N[j]? = some y := by rfl) (hvis' : Vis X.env.scope y := by first | exact Or.inl rfl | exact Or.inr (Or.inl rfl) | exact Or.inr (Or.inr rfl)) (hd' : (y == ("__debug__" : Str)) = false := by decide) (hcd' : (y == ("__classdict__" : Str)) = false := by decide)
    (hs1 : starEach [.Name x px, .Name y py] X.env = (false, eval (.Name x px) X.env) :: starEach [.Name y py] X.env := by rfl) (hs2 : starEach [.Name y py] X.env = (false, eval (.Name y py) X.env) :: starEach [] X.env := by rfl) (hpl : (backTo p (starEach [.Name y py] X.env)).any (·.1) = false := by rfl)
    (hs : ∀ z, foldedSetIterable (.Call (.Name "zip" pos2) [.Name x px, .Name y py] [] p) X.env z = pure z := by intro _; rfl) : SS X (.For (.Tuple elts kk tpos) (.Call (.Name "zip" pos2) [.Name x px, .Name y py] [] p) body [] pos) (W1 ++ W2) (dForZ i j dg d) :=
  psw (ps_for hp hc (pi_zip hgl hm (pa_cons (pe_var hN hvis hd hcd) (pa_cons (pe_var hN' hvis' hd' hcd') pa_nil hs2) hs1) hs1 hpl) hg hb hs) fun _ _ _ => forZ_imp hi
end
/-! ### a slot frozen ahead of a statement -/
def fzS (i : Nat) (d : DS) : DS := fun env => match env[i]? with
  | some t => d (env.set i (frz t))
  | none => none
theorem fzS_imp {K : PySem.W.Frag} {mg : Mg} {D : Ends} {σ : L2.St} {H : Hp} {W : List Nat} {i : Nat} {d : DS} (h : tS K mg W (fzS i d) D σ H) : tS K mg W d D σ H := by
  obtain ⟨F, env, S, r, env', ok, hd, c⟩ := h
  unfold fzS at hd
  split at hd
  · rename_i t ht
    obtain ⟨F', S', st, ok'⟩ := freeze_ok ok ht
    exact ⟨F', _, S', r, env', ok', hd, c.step (R := Emp) (st.weak fun _ z => z.elim id fun z => z.elim) .refl⟩
  · cases hd
theorem SS.fzS {X : Cx} {st : Stmt} {W : List Nat} {d : DS} (i : Nat) (h : SS X st W d) : SS X st W (Tr.fzS i d) := psw h fun _ _ _ => fzS_imp
/-! ### tuples of one's own -/
def dTupO (da : DA) : DE := fun env => (da env).bind fun p => if p.1.length ≤ sizeLine then some (.nd true .tup p.1, p.2) else none
section
variable {X : Cx} {pos : Pos} {es : List Expr} {da : DA} {bs : List (Option Nat)}
theorem se_tupO {k : Nat} (ha : SA X es bs da) : SE X (.Tuple es k pos) (dTupO da) := pew (pe_tup ha) fun σ H Q h => by
  obtain ⟨F, env, S, t, e, ok, hd, q⟩ := h
  obtain ⟨⟨ts, e1⟩, h1, h2⟩ := Option.bind_eq_some_iff.mp hd
  split at h2
  · rename_i hl
    cases h2
    refine ⟨F, env, S, ts, _, ok, h1, fun vs F1 H1 S1 R st ok1 r dj bo => ⟨by rw [r.length (S := Emp)]; exact hl, fun p hp => ?_⟩⟩
    have fp : F1 p = none := ok1.le.nn hp
    have hpS : ∀ y, S1 y → y ≠ p := fun y z e => by obtain ⟨⟨o, e'⟩, _⟩ := ok1.st.dom y z; rw [e, hp] at e'; cases e'
    have hpR : ∀ y, R y → y ≠ p := fun y z e => by obtain ⟨⟨o, e'⟩, _⟩ := r.dom y z; rw [e, hp] at e'; cases e'
    have st2 : Stp F1 H1 Emp F1 (upd H1 p (.tup vs)) (fun y => y = p) := ⟨Le.refl _, fun a o e _ => by rw [upd_ne (ne_of_none e hp)]; exact e, fun _ _ e => .inl e, fun a e => .inr (by rw [e]; exact hp)⟩
    have le2 : Le F1 (upd H1 p (.tup vs)) := fun a o e => st2.kp a o (ok1.le a o e) fun z => z
    refine q (.ref p) F1 (upd H1 p (.tup vs)) S1 (Cup (fun y => y = p) R) ?_ (ok1.keep st2 emp_dj le2) (.own upd_same fp rfl (r.keep st2 emp_dj) (fun z => hpR p z rfl) fun _ => Iff.rfl) fun y a b => b.elim (hpS y a) (dj y a)
    have b1 := (st2.frame (Cup S1 R)).big (R := Cup S1 R) fun y z => z.elim (fun z => z.elim) id
    exact (st.trans b1).weak fun y z => z.elim (fun z => .inr (.inl z)) fun z => z.elim .inl fun z => .inr (.inr z)
  · cases h2
end
/-! ### a change at a place, what is handed in reckoned with all frozen -/
def dMutPB (ty : String) (dp : DP) (op : T → List T → Option (T × T)) (da : DA) : DE := fun env => (dp env).bind fun p => (da (frzs env)).bind fun u => if isTy ty p.1 = true ∧ pureTs u.1 = true then (op p.1 u.1).map fun q => (q.1, p.2 q.2) else none
section
variable {K : PySem.W.Frag} {mg : Mg} {F H : Hp} {σ : L2.St} {S : AS}
theorem foc_mutR {r : V → List V → Hp → VK → Prop} {op : T → List T → Option (T × T)} {vs : List V} {ts : List T} {t t' res : T} {put : T → List T} {v : V} {Q : VK} {R : AS} (ho : OpM K mg r op) (le : Le F H) (f : Foc K mg F H σ S v t put) (rs : Reps K mg F H vs ts R) (djR : Dj S R) (hop : op t ts = some (res, t'))
    (q : ∀ w F' H' S' R', Stp F H (Cup S R) F' H' (Cup S' R') → Ok K mg F' H' σ (put t') S' → Rep K mg F' H' w res R' → Dj S' R' → Q w H') (dom : ∀ x, S x → (∃ o, H x = some o) ∧ F x = none) : r v vs H Q := by
  obtain ⟨A, B, rx, d, hS, rest⟩ := f
  refine ho F H v t A vs ts R res t' Q le rx rs (fun x a b => djR x ((hS x).mpr (.inl a)) b) hop fun w H' A' Rv stm le' rx' rw' dj' => ?_
  have djB : Dj (Cup A R) B := fun y a b => a.elim (fun a => d y a b) fun a => djR y ((hS y).mpr (.inr b)) a
  have kB := stm.keeps (R := B) (fun y z => dom y ((hS y).mpr (.inr z))) djB
  have djB' : Dj (Cup A' Rv) B := stm.dj (fun y z => (dom y ((hS y).mpr (.inr z))).1) djB
  have hn := rest H' t' A' (fun x z => (kB x z).1) rx' fun y a b => djB' y (.inl a) b
  refine q w F H' (Cup A' B) Rv ?_ ⟨le', hn⟩ rw' fun y a b => a.elim (fun a => dj' y a b) fun a => djB' y (.inr b) a
  have b1 := stm.frame B
  have b2 : Stp F H (Cup S R) F H' (Cup (Cup A' Rv) B) := b1.big fun y z => z.elim (fun z => z.elim (fun z => .inl ((hS y).mpr (.inl z))) .inr) fun z => .inl ((hS y).mpr (.inr z))
  exact b2.weak fun y z => z.elim (fun z => z.elim (fun z => .inl (.inl z)) .inr) fun z => .inl (.inr z)
theorem mutPB_imp {ty : String} {dp : DP} {r : V → List V → Hp → VK → Prop} {op : T → List T → Option (T × T)} {da : DA} {bs : List (Option Nat)} {Q : VK} (ho : OpM K mg r op) (h : tE K mg (dMutPB ty dp op da) σ H Q) : tBM K ty r (tP K mg dp) (tA K mg bs da) σ H Q := by
  obtain ⟨F, env, S, res, e, ok, hd, q⟩ := h
  obtain ⟨⟨t, put⟩, h1, h2⟩ := Option.bind_eq_some_iff.mp hd
  obtain ⟨⟨ts, e1⟩, h3, h4⟩ := Option.bind_eq_some_iff.mp h2
  split at h4
  · rename_i hi
    obtain ⟨⟨r', t'⟩, h5, h6⟩ := Option.map_eq_some_iff.mp h4
    cases h6
    refine ⟨F, env, S, t, put, ok, h1, fun v f => ⟨?_, ?_⟩⟩
    · obtain ⟨A, B, rx, _⟩ := f
      exact isTy_ok ok.le rx hi.1
    · have ff := frF_le (A := S) ok.le
      refine ⟨frF F H S, frzs env, Emp, ts, e1, ⟨ff.2, ok.st.freeze ff.1 fun x z => frF_in z⟩, h3, fun vs F2 H2 S2 R st2 ok2 rs dj bo => ?_⟩
      have kp : ∀ a o, H a = some o → H2 a = some o := fun a o z => st2.kp a o z fun z => z
      have nw : ∀ a, R a → H a = none := fun a z => (st2.no a (.inr z)).elim (fun z => z.elim) id
      have same : ∀ x, S x → H2 x = H x := fun x z => by obtain ⟨⟨o, e1⟩, _⟩ := ok.st.dom x z; exact (kp x o e1).trans e1.symm
      have rs' := rs.unfreeze (ff.1.trans st2.ff) hi.2
      have dS : Dj S R := fun x z y => by obtain ⟨⟨o, e1⟩, _⟩ := ok.st.dom x z; rw [nw x y] at e1; cases e1
      have le2 : Le F H2 := fun a o z => kp a o (ok.le a o z)
      have f2 : Foc K mg F H2 σ S v t put := by
        obtain ⟨A, B, rx, d, hS, rest⟩ := f
        refine ⟨A, B, rx.frame (Le.refl _) fun x z => ⟨same x ((hS x).mpr (.inl z)), (rx.dom x z).2⟩, d, hS, fun H' t' A' k r' dj' => rest H' t' A' (fun x z => (k x z).trans (same x ((hS x).mpr (.inr z)))) r' dj'⟩
      refine foc_mutR ho le2 f2 rs' dS h5 (fun w F' H' S' R' st ok' rw' dj' => q w F' H' S' R' ?_ ok' rw' dj') fun x z => ?_
      · have s1 : Stp F H S F H2 (Cup S R) := ⟨Le.refl _, fun a o z _ => kp a o z, fun _ _ z => .inl z, fun a z => z.elim .inl fun z => .inr (nw a z)⟩
        exact s1.trans st
      · obtain ⟨⟨o, e1⟩, e3⟩ := ok.st.dom x z
        exact ⟨⟨o, kp x o e1⟩, e3⟩
  · cases h4
end
section
variable {X : Cx} {e o : Expr} {es : List Expr} {name : Str} {ty id : String} {apos cpos : Pos} {r : V → List V → Hp → VK → Prop} {op : T → List T → Option (T × T)} {dp : DP} {da : DA} {bs : List (Option Nat)}
theorem se_mutPB (pa : PlainAttrs ty) (slot : Slot ty name id) (hty : typeOf (.builtin id) = pure (.type "method_descriptor")) (hm : MtR X id r) (ho : OpM X.K X.mg r op) (hp : SP X o dp) (ha : SA X (e :: es) bs da)
    (hbase : attributeBase o name X.env (eval o X.env) = eval o X.env := by rfl)
    (hfew : ((backTo cpos (starEach (e :: es) X.env)).all (fun y => !y.1) && (backToKw cpos (keywordEach [] X.env)).all (fun y => y.1.isSome) && decide ((e :: es).length + ([] : List Keyword).length + (if ([] : List Keyword).isEmpty then 0 else 1) < 30)) = true := by rfl)
    (hline : (apos.endLine == cpos.line) = true := by rfl) (hs : starEach (e :: es) X.env = (false, eval e X.env) :: starEach es X.env := by rfl) (hplain : (backTo cpos (starEach es X.env)).any (·.1) = false := by rfl) :
    SE X (.Call (.Attribute o name apos) (e :: es) [] cpos) (dMutPB ty dp op da) := pew (pe_bm pa slot hty hm hp ha hbase hfew hline hs hplain) fun _ _ _ h => mutPB_imp ho h
end
end Tr


set_option Elab.async false
set_option linter.all false
set_option maxRecDepth 100000
set_option maxHeartbeats 4000000
/-! D22: a dict walked by its keys, locked meanwhile. -/
namespace Tr
open PySem PySem.Spec PyProof.Rows L2

def itemsK : T → Option (List T)
  | .nd false (.dL ks) _ => some (ks.map fun k => .lf (kV k))
  | _ => none
theorem sc_kV (k : Key) : sc (kV k) = true := by cases k <;> rfl
theorem si_keys {X : Cx} {tg l : Expr} {d : DE} (hl : SE X l d) : SI X tg l (dIt itemsK d) := piw (pi_keys hl) fun σ H Rk ⟨F, env, S, its, e, ok, hd, q⟩ => by
  obtain ⟨t, h1, h2⟩ := dIt_some hd
  unfold itemsK at h2
  split at h2
  · rename_i ks xs
    cases h2
    refine ⟨F, env, S, _, e, ok, h1, fun v F1 H1 S1 R1 st ok1 r dj => ?_⟩
    cases r with
    | @frz a _ o vs _ _ hF hc rp =>
      obtain ⟨hl, od, rfl⟩ := hc
      refine ⟨a, od, rfl, .inl ⟨_, ok1.le _ _ hF, q _ F1 H1 S1 (st.weak fun _ z => .inl z) ok1 fun i F2 H2 S2 st2 le => ⟨fun t h => ?_, fun h => ?_⟩⟩⟩
      · rw [List.getElem?_map] at h
        obtain ⟨k, h3, rfl⟩ := Option.map_eq_some_iff.mp h
        have hi : i < ks.length := (List.getElem?_eq_some_iff.mp h3).1
        refine ⟨⟨le _ _ (st2.ff _ _ hF), by rw [List.length_zip]; omega⟩, fun x H3 y => ?_⟩
        obtain ⟨e1, k', v', e2, e3⟩ := y
        subst e1 e3
        have h4 := List.getElem?_zip_eq_some.mp e2
        have : k = k' := by have := h3.symm.trans h4.1; exact Option.some.inj this
        subst this
        exact ⟨F2, .refl, le, .lf (sc_kV k) fun _ z => z⟩
      · refine ⟨le _ _ (st2.ff _ _ hF), ?_⟩
        have : ks.length ≤ i := by simpa using h
        rw [List.length_zip]; omega
  · cases h2
/-- the dict in slot i is locked, all else frozen; the answer is wholly one's own -/
def lkK (i : Nat) (d : DE) : DE := fun env => match env[i]? with
  | some (.nd true (.dK ks) xs) => match d ((frzs env).set i (.nd false (.dL ks) (frzs xs))) with
    | some (t, _) => if pureT t = true then some (t, env) else none
    | none => none
  | _ => none
section
variable {K : PySem.W.Frag} {mg : Mg} {F H : Hp} {σ : L2.St}
theorem frzs_set : ∀ (env : List T) (i : Nat) (t : T), (frzs env).set i (frz t) = frzs (env.set i t)
  | [], _, _ => by simp [frzs]
  | _ :: _, 0, _ => by simp [frzs]
  | x :: xs, i + 1, t => by rw [frzs, List.set_cons_succ, List.set_cons_succ, frzs, frzs_set xs i t]
theorem lkK_imp {i : Nat} {d : DE} {Q : VK} (h : tE K mg (lkK i d) σ H Q) : tLockE (tE K mg d) σ H Q := by
  obtain ⟨F, env, S, t, e, ok, hd, q⟩ := h
  unfold lkK at hd
  split at hd
  · rename_i ks xs he
    split at hd
    · rename_i t' e2 h2
      split at hd
      · rename_i hp
        cases hd
        obtain ⟨s, A, B, e1, r1, dAB, hS, rest⟩ := ok.st.split he
        cases s with
        | none => obtain ⟨z, _⟩ := r1; cases z
        | some v =>
          obtain ⟨a, o, vs, S0, rfl, ha, hf, ⟨hl, rfl⟩, rp, na, hA⟩ := Rep.own_inv r1
          have aS : S a := (hS a).mpr (.inl ((hA a).mpr (.inl rfl)))
          refine ⟨a, _, ha, trivial, fun od => ?_⟩
          -- all frozen, the dict locked
          let F' : Hp := fun x => if x = a then some (.frz od (.dK (ks.zip vs))) else frF F H S x
          let H' : Hp := upd H a (.frz od (.dK (ks.zip vs)))
          have Fa : F' a = some (.frz od (.dK (ks.zip vs))) := if_pos rfl
          have Fn : ∀ x, x ≠ a → F' x = frF F H S x := fun x z => if_neg z
          have Hn : ∀ x, x ≠ a → H' x = H x := fun x z => upd_ne z
          have leF : Le F F' := fun x o z => by
            have : x ≠ a := fun y => by rw [y, hf] at z; cases z
            rw [Fn x this]; exact (frF_le ok.le).1 x o z
          have le' : Le F' H' := fun x o z => by
            by_cases hx : x = a
            · subst hx; rw [Fa] at z; cases z; exact upd_same
            · rw [Fn x hx] at z; rw [Hn x hx]; exact (frF_le ok.le).2 x o z
          have inS : ∀ x, S x → x ≠ a → F' x = H' x := fun x z n => by rw [Fn x n, Hn x n]; exact frF_in z
          have nB : ∀ x, B x → x ≠ a := fun x z y => dAB a ((hA a).mpr (.inl rfl)) (y ▸ z)
          have n0 : ∀ x, S0 x → x ≠ a := fun x z y => na (y ▸ z)
          have rd : Rep K mg F' H' (.ref a) (.nd false (.dL ks) (frzs xs)) Emp := by
            refine .frz Fa ⟨hl, od, rfl⟩ (Reps.freeze (H := H) leF rp (fun x z => ?_) fun _ z => z)
            rw [inS x ((hS x).mpr (.inl ((hA x).mpr (.inr z)))) (n0 x z)]; exact Hn x (n0 x z)
          have ok' : Ok K mg F' H' σ ((frzs env).set i (.nd false (.dL ks) (frzs xs))) Emp := by
            refine ⟨le', ?_⟩
            -- the slot emptied, all else frozen, then the lock put in
            have st1 : StR K mg F H σ (env.set i .no) B := by
              have := rest F H (some (.ref a)) .no Emp (Le.refl _) (fun y z => ⟨rfl, (ok.st.dom y ((hS y).mpr (.inr z))).2⟩) (.no fun _ z => z) emp_dj
              rw [set_self' e1] at this
              exact this.iff fun x => ⟨.inr, fun z => z.elim (fun z => z.elim) id⟩
            have st2 : StR K mg F' H σ (frzs (env.set i .no)) Emp := st1.freeze leF fun x z => by rw [inS x ((hS x).mpr (.inr z)) (nB x z)]; exact Hn x (nB x z)
            have st3 : StR K mg F' H' σ (frzs (env.set i .no)) Emp := st2.frame (Le.refl _) fun x z => z.elim
            have hi : i < env.length := (List.getElem?_eq_some_iff.mp he).1
            have e3 : (frzs (env.set i .no))[i]? = some .no := by
              rw [frzs_map, List.getElem?_map, List.getElem?_set_self hi]; rfl
            obtain ⟨s2, A2, B2, k1, k2, k3, k4, rest2⟩ := st3.split e3
            rw [e1] at k1
            cases k1
            have := rest2 F' H' (some (.ref a)) (.nd false (.dL ks) (frzs xs)) Emp (Le.refl _) (fun y z => ((k4 y).mpr (.inr z)).elim) rd emp_dj
            rw [set_self' e1] at this
            have e4 : (frzs (env.set i .no)).set i (.nd false (.dL ks) (frzs xs)) = (frzs env).set i (.nd false (.dL ks) (frzs xs)) := by
              rw [← frzs_set, List.set_set]
            rw [e4] at this
            exact this.iff fun x => ⟨fun z => z.elim, fun z => z.elim id fun z => (k4 x).mpr (.inr z)⟩
          refine ⟨F', _, Emp, _, e2, ok', h2, fun w F2 H2 S2 R st2 ok2 r dj => ⟨st2.kp a _ upd_same fun z => z, ?_⟩⟩
          have kp : ∀ x o, x ≠ a → H x = some o → H2 x = some o := fun x o n z => st2.kp x o ((Hn x n).trans z) fun z => z
          have nw : ∀ x, R x → H x = none ∧ x ≠ a := fun x z => by
            have h0 : H' x = none := (st2.no x (.inr z)).elim (fun z => z.elim) id
            have : x ≠ a := fun y => by subst y; have : H' x = some _ := upd_same; rw [this] at h0; cases h0
            rw [Hn x this] at h0; exact ⟨h0, this⟩
          have kp3 : ∀ x o, H x = some o → upd H2 a (.dK (ks.zip vs)) x = some o := fun x o z => by
            by_cases hx : x = a
            · subst hx; rw [upd_same, ← ha]; exact z
            · rw [upd_ne hx]; exact kp x o hx z
          have r2 : Rep K mg F (upd H2 a (.dK (ks.zip vs))) w _ R := (r.unfreeze (leF.trans st2.ff) hp).frame (Le.refl _) fun x z => ⟨upd_ne (nw x z).2, by
            cases y : F x with
            | none => rfl
            | some o =>
              have h1 := ok.le x o y
              rw [(nw x z).1] at h1; cases h1⟩
          refine q w F _ S R ⟨Le.refl _, fun x o z _ => kp3 x o z, fun _ _ z => .inl z, fun x z => z.elim .inl fun z => .inr (nw x z).1⟩ ⟨fun x o z => kp3 x o (ok.le x o z), ok.st.frame (Le.refl _) fun x z => ?_⟩ r2 fun x z y => ?_
          · obtain ⟨⟨o, e1⟩, e3⟩ := ok.st.dom x z
            exact ⟨(kp3 x o e1).trans e1.symm, e3⟩
          · obtain ⟨⟨o, e1⟩, e3⟩ := ok.st.dom x z
            rw [(nw x y).1] at e1
            cases e1
      · cases hd
    · cases hd
  · cases hd
end
theorem SE.lkK {X : Cx} {e : Expr} {d : DE} (i : Nat) (h : SE X e d) : SE X e (Tr.lkK i d) := pew (pe_lock h) fun _ _ _ => lkK_imp
end Tr


set_option Elab.async false
set_option linter.all false
set_option maxRecDepth 100000
set_option maxHeartbeats 4000000
/-! D23: a thing of one's own lent to a statement: all of it frozen there, and as before behind it. -/
namespace Tr
open PySem PySem.Spec PyProof.Rows L2

def pz (t : T) : T := if pureT t = true then t else .no
def okFl : Fl → Bool
  | .rt t => pureT t
  | _ => true
/-- slot i is lent; behind the statement the others are known where they are wholly one's own -/
def ldS (i : Nat) (d : DS) : DS := fun env => match env[i]? with
  | some t => match d (env.set i (frz t)) with
    | some (r, e) => if okFl r = true then some (r, (e.map pz).set i t) else none
    | none => none
  | none => none
section
variable {K : PySem.W.Frag} {mg : Mg} {D : Ends} {σ σ' : L2.St} {H H' F F' : Hp} {S S' R : AS} {W : List Nat} {env env' : List T} {r : Fl}
theorem RepO.unf (ff : Le F F') {s : Option V} {t : T} (q : RepO K mg F' H s t S) : ∃ S2, RepO K mg F H s (pz t) S2 ∧ ∀ x, S2 x → S x := by
  unfold pz
  split
  · rename_i hp
    cases s with
    | none => exact ⟨S, q, fun _ z => z⟩
    | some v => exact ⟨S, Rep.unfreeze ff q hp, fun _ z => z⟩
  · cases s with
    | none => exact ⟨Emp, ⟨rfl, fun _ z => z⟩, fun _ z => z.elim⟩
    | some v => exact ⟨Emp, .no fun _ z => z, fun _ z => z.elim⟩
theorem StR.unf (ff : Le F F') (q : StR K mg F' H σ env S) : ∃ S2, StR K mg F H σ (env.map pz) S2 ∧ ∀ x, S2 x → S x := by
  induction q with
  | nil h => exact ⟨Emp, .nil fun _ z => z, fun _ z => z.elim⟩
  | cons q _ d hS ih =>
    obtain ⟨A, qa, ha⟩ := RepO.unf ff q
    obtain ⟨B, qb, hb⟩ := ih
    exact ⟨Cup A B, .cons qa qb (fun x a b => d x (ha x a) (hb x b)) fun _ => Iff.rfl, fun x z => (hS x).mpr (z.imp (ha x) (hb x))⟩
theorem ldS_imp {i : Nat} {d : DS} (hi : i ∉ W) (h : tS K mg W (ldS i d) D σ H) : tS K mg W d D σ H := by
  obtain ⟨F, env, S, r, env', ok, hd, c⟩ := h
  unfold ldS at hd
  split at hd
  · rename_i t ht
    split at hd
    · rename_i r' e h2
      split at hd
      · rename_i hp
        cases hd
        obtain ⟨s, A, B, e1, e2, e3, e4, rest⟩ := ok.st.split ht
        have ff := frF_le (A := A) ok.le
        have hA : ∀ y, A y → (∃ o, H y = some o) ∧ F y = none := e2.dom
        have hB : ∀ y, B y → (∃ o, H y = some o) ∧ F y = none := fun y z => ok.st.dom y ((e4 y).mpr (.inr z))
        have kB : ∀ y, B y → H y = H y ∧ frF F H A y = none := fun y z => ⟨rfl, by rw [frF_out fun a => e3 y a z]; exact (hB y z).2⟩
        have r1 : RepO K mg (frF F H A) H s (frz t) Emp := by
          cases s with
          | none =>
            obtain ⟨rfl, _⟩ := e2
            exact ⟨by rw [frz], fun _ z => z⟩
          | some v => exact Rep.freeze ff.1 e2 (fun y z => frF_in z) fun _ z => z
        have s1 := rest (frF F H A) H s (frz t) Emp ff.1 kB r1 emp_dj
        rw [set_self' e1] at s1
        refine ⟨frF F H A, env.set i (frz t), Cup Emp B, r, e, ⟨ff.2, s1⟩, h2, fun F' H' S' R σ' st okk of dj => ?_⟩
        have leF : Le F F' := ff.1.trans st.ff
        have nb : ∀ y, A y → ¬ (Cup Emp B) y := fun y a z => z.elim (fun z => z.elim) fun b => e3 y a b
        have kA : ∀ y, A y → H' y = H y := fun y a => by
          obtain ⟨⟨o, h⟩, _⟩ := hA y a
          exact (st.kp y o h (nb y a)).trans h.symm
        have fA : ∀ y, A y → ∃ o, F' y = some o := fun y a => by
          obtain ⟨⟨o, h⟩, _⟩ := hA y a
          exact ⟨o, st.ff y o (by rw [frF_in a]; exact h)⟩
        obtain ⟨S2, q2, sub⟩ := StR.unf leF okk.st
        have e' : σ'[i]? = some s := (of.at_ i hi).trans e1
        have li : i < σ'.length := (List.getElem?_eq_some_iff.mp e').1
        have le2 : i < (e.map pz).length := by rw [← q2.length]; exact li
        obtain ⟨s3, A3, B3, k1, k2, k3, k4, rest3⟩ := q2.split (List.getElem?_eq_getElem le2)
        have dA : ∀ y, A y → ¬ S' y := fun y a z => by
          obtain ⟨o, h⟩ := fA y a
          have := (okk.st.dom y z).2
          rw [h] at this
          cases this
        have e2' : RepO K mg F H' s t A := e2.frame (Le.refl _) fun y a => ⟨kA y a, (hA y a).2⟩
        have hn := rest3 F H' s t A (Le.refl _) (fun y z => ⟨rfl, (q2.dom y ((k4 y).mpr (.inr z))).2⟩) e2' fun y a b => dA y a (sub y ((k4 y).mpr (.inr b)))
        rw [set_self' e'] at hn
        have leH : Le F H' := fun a o z => okk.le a o (leF a o z)
        have stp : Stp F H S F H' (Cup (Cup A B3) R) := ⟨Le.refl _, fun a o z n => st.kp a o z fun z => n ((e4 a).mpr (.inr (z.elim (fun z => z.elim) id))), fun _ _ z => .inl z, fun a z => by
          rcases z with (z | z) | z
          · exact .inl ((e4 a).mpr (.inl z))
          · exact (st.no a (.inl (sub a ((k4 a).mpr (.inr z))))).imp (fun z => (e4 a).mpr (.inr (z.elim (fun z => z.elim) id))) id
          · exact (st.no a (.inr z)).imp (fun z => (e4 a).mpr (.inr (z.elim (fun z => z.elim) id))) id⟩
        have dj2 : Dj (Cup A B3) R := fun y z w => z.elim (fun a => (st.no y (.inr w)).elim (nb y a) fun z => by
          obtain ⟨⟨o, h⟩, _⟩ := hA y a
          rw [h] at z
          cases z) fun b => dj y (sub y ((k4 y).mpr (.inr b))) w
        have fn := c F H' (Cup A B3) R σ' stp ⟨leH, hn⟩ of dj2
        cases r with
        | nx => exact fn
        | bk => exact fn
        | ct => exact fn
        | rt t2 => exact fun v rv => fn v (rv.unfreeze leF hp)
      · cases hd
    · cases hd
  · cases hd
end
theorem SS.ldS {X : Cx} {st : Stmt} {W : List Nat} {d : DS} {i : Nat} (hi : i ∉ W) (h : SS X st W d) : SS X st W (Tr.ldS i d) := psw h fun _ _ _ => ldS_imp hi
end Tr


set_option Elab.async false
set_option linter.all false
set_option maxRecDepth 100000
set_option maxHeartbeats 4000000
/-! D24: sorted of a list of texts. -/
namespace Tr
open PySem PySem.Spec PyProof.Rows L2

abbrev cpl (x : Str) : List Nat := x.cps.toList
def insS (x : Str) : List Str → List Str
  | [] => [x]
  | y :: ys => if ltCps (cpl y) (cpl x) = false then x :: y :: ys else y :: insS x ys
def ssort : List Str → List Str
  | [] => []
  | x :: xs => insS x (ssort xs)
theorem ltc (a b : List Nat) : ltCps a b = false ↔ b ≤ a := by
  rw [ltCps_eq, decide_eq_false_iff_not]
  exact List.not_lt
theorem insS_perm (x : Str) : ∀ ys : List Str, (insS x ys).Perm (x :: ys)
  | [] => .refl _
  | y :: ys => by
    unfold insS
    split
    · exact .refl _
    · exact (List.Perm.cons y (insS_perm x ys)).trans (List.Perm.swap x y ys)
theorem ssort_perm : ∀ xs : List Str, (ssort xs).Perm xs
  | [] => .refl _
  | x :: xs => (insS_perm x (ssort xs)).trans (List.Perm.cons x (ssort_perm xs))
def SrtS (l : List Str) : Prop := l.Pairwise fun a b => ltCps (cpl b) (cpl a) = false
theorem insS_sorted (x : Str) : ∀ ys : List Str, SrtS ys → SrtS (insS x ys)
  | [], _ => by simp [insS, SrtS]
  | y :: ys, h => by
    unfold insS
    split
    · rename_i c
      refine List.pairwise_cons.mpr ⟨fun z hz => ?_, h⟩
      rcases List.mem_cons.mp hz with rfl | hz
      · exact c
      · have := (List.pairwise_cons.mp h).1 z hz
        rw [ltc] at *
        exact List.le_trans c this
    · rename_i c
      refine List.pairwise_cons.mpr ⟨fun z hz => ?_, insS_sorted x ys (List.pairwise_cons.mp h).2⟩
      rcases List.mem_cons.mp ((insS_perm x ys).mem_iff.mp hz) with rfl | hz
      · rw [ltc] at *
        exact (List.le_total _ _).resolve_left c
      · exact (List.pairwise_cons.mp h).1 z hz
theorem ssort_sorted : ∀ xs : List Str, SrtS (ssort xs)
  | [] => .nil
  | x :: xs => insS_sorted x _ (ssort_sorted xs)
theorem srt_of_rising : ∀ (l : List Str) (p : Str), risingS p l = true → SrtS (p :: l)
  | [], p, _ => List.pairwise_singleton _ _
  | x :: r, p, h => by
    rw [risingS, Bool.and_eq_true, Bool.not_eq_true'] at h
    have ih := srt_of_rising r x h.2
    refine List.pairwise_cons.mpr ⟨fun z hz => ?_, ih⟩
    rcases List.mem_cons.mp hz with rfl | hz
    · exact h.1
    · have a := (List.pairwise_cons.mp ih).1 z hz
      have b := h.1
      rw [ltc] at *
      exact List.le_trans b a
theorem srt_of : ∀ l : List Str, sortedS l = true → SrtS l
  | [], _ => .nil
  | x :: r, h => srt_of_rising r x h
theorem cpl_inj {x y : Str} (h : cpl x = cpl y) : x = y := by
  cases x
  cases y
  simp [cpl] at h
  rw [h]
theorem srt_uniq : ∀ {a b : List Str}, a.Perm b → SrtS a → SrtS b → a = b
  | [], b, p, _, _ => (List.Perm.nil_eq p)
  | x :: xs, [], p, _, _ => by simp at p
  | x :: xs, y :: ys, p, h1, h2 => by
    have e : x = y := by
      have m1 : x ∈ y :: ys := p.mem_iff.mp (List.mem_cons_self ..)
      have m2 : y ∈ x :: xs := p.mem_iff.mpr (List.mem_cons_self ..)
      rcases List.mem_cons.mp m1 with e | m1
      · exact e
      · rcases List.mem_cons.mp m2 with e | m2
        · exact e.symm
        · have a1 := (List.pairwise_cons.mp h2).1 x m1
          have a2 := (List.pairwise_cons.mp h1).1 y m2
          rw [ltc] at a1 a2
          exact cpl_inj (List.le_antisymm a2 a1)
    subst e
    rw [srt_uniq (List.Perm.cons_inv p) (List.pairwise_cons.mp h1).2 (List.pairwise_cons.mp h2).2]
def lfS (x : Str) : T := .lf (.str x)
def oSortS : T → Option T
  | .nd _ .lst xs => (strsOf xs).bind fun ss => if ss.length < 64 then some (.nd true .lst ((ssort ss).map lfS)) else none
  | _ => none
section
variable {K : PySem.W.Frag} {mg : Mg} {F H : Hp}
theorem strs_reps : ∀ (is : List Str), Reps K mg F H (is.map V.str) (is.map lfS) Emp
  | [] => .nil fun _ z => z
  | i :: is => .cons (S1 := Emp) (S2 := Emp) (.lf rfl fun _ z => z) (strs_reps is) dj_emp fun x => ⟨fun z => z.elim, fun z => z.elim id id⟩
theorem e_sortS : Op1E K mg (fun x H Q => rSortedS K [x] H Q) oSortS := by
  intro F H x t R u Q le r h q
  unfold oSortS at h
  split at h
  · obtain ⟨is, e1, e2⟩ := Option.bind_eq_some_iff.mp h
    split at e2
    · rename_i c
      cases e2
      obtain ⟨a, vs, S0, rfl, p, _, hr⟩ := r.nd_inv le
      have e4 := reps_strs e1 p
      subst e4
      refine ⟨a, is, rfl, SqL.of hr, c, fun ys p h1 h2 hp => ?_⟩
      have e5 : ys = ssort is := srt_uniq (h1.trans (ssort_perm is).symm) (srt_of ys h2) (ssort_sorted is)
      subst e5
      obtain ⟨g1, g2, g3⟩ := new_one (K := K) (mg := mg) (k := .lst) (o := .lst ((ssort is).map V.str)) le hp rfl (strs_reps (ssort is))
      exact q _ _ _ _ g1 g2 g3
    · cases e2
  · cases h
end
end Tr


set_option Elab.async false
set_option linter.all false
set_option maxRecDepth 100000
set_option maxHeartbeats 4000000
/-! D25: a tuple in a list of tuples. -/
namespace Tr
open PySem PySem.Spec PyProof.Rows L2

def anyD (t s : T) : Option Bool := (toD t).bind fun d => match toD s with
  | some (.list ds) => if d.canLay0 = true ∧ d.depth ≤ 60 ∧ SeqAt.shaped (.list ds) = true then some (ds.any fun z => PyData.eqv z d) else none
  | _ => none
def oInD (t s : T) : Option T := (anyD t s).map fun b => .lf (.bl b)
def oNotInD (t s : T) : Option T := (anyD t s).map fun b => .lf (.bl (!b))
def rInE (K : PySem.W.Frag) (neg : Bool) : R2 := fun x y H Q => ∃ d ds, Dp K H x d ∧ Dp K H y (.list ds) ∧ d.canLay0 = true ∧ d.depth ≤ 60 ∧ SeqAt.shaped (.list ds) = true ∧ Q (.bl (if neg then !ds.any fun z => PyData.eqv z d else ds.any fun z => PyData.eqv z d)) H
theorem room_inE {A : Around} {xs : List PyData} {d : PyData} (hd : d.depth ≤ 60) (hu : A.units + 64 < cLine) : A.units + 1 + min (PyData.depthAll xs) d.depth < cLine := by
  have h2 : min (PyData.depthAll xs) d.depth ≤ d.depth := Nat.min_le_right _ _
  omega
theorem op_inE {X : Cx} (hu : X.A.units + 64 < cLine) : OpR X (compareOp .In) (rInE X.K false) := by
  intro pins s σ H x y v u Q I rx ry h
  obtain ⟨d, ds, hd, he, sd, dd, se, q⟩ := h
  obtain ⟨as, r1⟩ := Dp.reads I d x v hd rx
  obtain ⟨bs, r2⟩ := Dp.reads I (.list ds) y u he ry
  exact SeqAt.in_list_reads r2 r1 (SeqAt.canLay_of_shaped se) sd (room_inE dd hu) ⟨.bl _, H, I, rfl, q⟩
theorem op_notInE {X : Cx} (hu : X.A.units + 64 < cLine) : OpR X (compareOp .NotIn) (rInE X.K true) := by
  intro pins s σ H x y v u Q I rx ry h
  obtain ⟨d, ds, hd, he, sd, dd, se, q⟩ := h
  obtain ⟨as, r1⟩ := Dp.reads I d x v hd rx
  obtain ⟨bs, r2⟩ := Dp.reads I (.list ds) y u he ry
  exact SeqAt.notIn_list_reads r2 r1 (SeqAt.canLay_of_shaped se) sd (room_inE dd hu) ⟨.bl _, H, I, rfl, q⟩
section
variable {K : PySem.W.Frag} {mg : Mg} {F H : Hp}
theorem anyD_some {t s : T} {b : Bool} (h : anyD t s = some b) : ∃ d ds, toD t = some d ∧ toD s = some (.list ds) ∧ (d.canLay0 = true ∧ d.depth ≤ 60 ∧ SeqAt.shaped (.list ds) = true) ∧ b = ds.any fun z => PyData.eqv z d := by
  obtain ⟨d, e1, h⟩ := Option.bind_eq_some_iff.mp h
  split at h
  · rename_i ds e2
    split at h
    · rename_i c
      cases h
      exact ⟨d, ds, e1, e2, c, rfl⟩
    · cases h
  · cases h
theorem v_inD : Op2V K mg (rInE K false) oInD := by
  intro F H x y t s R R2 u Q le r1 r2 h q
  obtain ⟨b, h1, rfl⟩ := Option.map_eq_some_iff.mp h
  obtain ⟨d, ds, e1, e2, c, rfl⟩ := anyD_some h1
  exact ⟨d, ds, dp_of le r1 e1, dp_of le r2 e2, c.1, c.2.1, c.2.2, q _ Emp (.lf rfl fun _ z => z)⟩
theorem v_notInD : Op2V K mg (rInE K true) oNotInD := by
  intro F H x y t s R R2 u Q le r1 r2 h q
  obtain ⟨b, h1, rfl⟩ := Option.map_eq_some_iff.mp h
  obtain ⟨d, ds, e1, e2, c, rfl⟩ := anyD_some h1
  exact ⟨d, ds, dp_of le r1 e1, dp_of le r2 e2, c.1, c.2.1, c.2.2, q _ Emp (.lf rfl fun _ z => z)⟩
end
/-! ### an assigned comprehension that walks a dict -/
section
variable {X : Cx} {elt tg iter : Expr} {scope : Scope} {own : List (Str × Nat)} {pos : Pos} {W vs : List Nat} {di : DI} {dg : DG} {de : DE}
theorem ss_setLcK {i k : Nat} {y : Str} {py : Pos} {spos : Pos} (hc : X.calm = true) (hN : X.N.Nodup) (hy : X.N[i]? = some y) (hyl : X.env.scope.names.lookup y = some .local)
    (hsw : swapsWith (.ListComp elt [⟨tg, iter, [], 0⟩] scope pos) (some (.Name y py)) spos.line X.env = pure true) (hi : SI X tg iter di) (ok : BlkOk X.N X.env.scope scope own) (hvs : own.map (·.2) = vs) (nd : vs.Nodup) (hW : ∀ i ∈ W, i ∈ vs)
    (hg : ∀ (s : Shared) (H : Hp) (C : Addr) (cl : List (Str × Addr)) (fp : List Addr), SG (X.blk s H scope (compEnvC scope cl C X.env) fp) tg W dg)
    (he : ∀ (s : Shared) (H : Hp) (C : Addr) (cl : List (Str × Addr)) (fp : List Addr), SE (X.blk s H scope (compEnvC scope cl C X.env) fp) elt de) (hs : ∀ x, foldedSetIterable iter X.env x = pure x := by intro _; rfl) :
    SS X (.Assign [.Name y py] (.ListComp elt [⟨tg, iter, [], 0⟩] scope pos) spos) [i] (dSet i (lkK k (dLc di dg dYes de vs))) :=
  by
  subst hvs
  refine psw (ps_lock (ps_setLc (g := tG X.K X.mg W dg) (tt := tYes) (te := tE X.K X.mg de) hc hN hy hyl hsw hi ok hg (fun _ _ _ _ _ => pts_nil) he hs)) fun D σ H h => ?_
  obtain ⟨d, u, h1, h2, h3⟩ := lkK_imp (set_imp h)
  exact ⟨d, u, h1, h2, fun od => lc_imp nd hW yes_imp (h3 od)⟩
end
end Tr


set_option Elab.async false
set_option linter.all false
set_option maxRecDepth 100000
set_option maxHeartbeats 4000000
/-! D26: dicts by tuples. -/
namespace Tr
open PySem PySem.Spec PyProof.Rows L2

def keysOf : List T → Option (List Key)
  | [] => some []
  | .lf v :: ts => (keyOf v).bind fun k => (keysOf ts).map fun ks => k :: ks
  | _ => none
def keyTup : T → Option (List Key)
  | .nd _ .tup kt => keysOf kt
  | _ => none
def dDicT : DE := fun env => some (.nd true (.dT []) [], env)
def hasT (ks : List (List Key)) (k : List Key) : Bool := ks.any fun a => decide (a = k)
def inT : T → T → Option Bool
  | t, .nd _ (.dT ks) _ => (keyTup t).map fun k => hasT ks k
  | _, _ => none
def oInT (t s : T) : Option T := (inT t s).map fun b => .lf (.bl b)
def oNotInT (t s : T) : Option T := (inT t s).map fun b => .lf (.bl (!b))
def mSetT (k : List Key) : T → List T → Option (T × T)
  | .nd true (.dT ks) xs, [t] => if ks.length < sizeLine ∧ hasT ks k = false then some (.lf .non, .nd true (.dT (ks ++ [k])) (xs ++ [t])) else none
  | _, _ => none
/-- the value, then the key, then the store in slot i -/
def dPutT (i : Nat) (dv : DE) (dk : DV) : DS := fun env => (dv env).bind fun p => match gV i p.2, dk p.2 with
  | some t, some kt => (keyTup kt).bind fun k => (mSetT k t [p.1]).map fun q => (.nx, p.2.set i q.2)
  | _, _ => none
section
variable {K : PySem.W.Frag} {mg : Mg} {F H : Hp} {σ : L2.St}
theorem keysOf_rep : ∀ {ts : List T} {ks : List Key} {vs : List V} {S : AS}, keysOf ts = some ks → Reps K mg F H vs ts S → vs = ks.map kV
  | [], ks, vs, S, h, r => by cases h; exact r.nil_inv
  | t :: ts, ks, _, S, h, .cons (v := v) r q _ _ => by
    cases t with
    | no => cases h
    | nd _ _ _ => cases h
    | lf w =>
      obtain ⟨k, h1, h2⟩ := Option.bind_eq_some_iff.mp h
      obtain ⟨ks', h3, rfl⟩ := Option.map_eq_some_iff.mp h2
      rw [r.lf_inv.1, keysOf_rep h3 q, keyOf_some h1]; rfl
theorem keyTup_rep {t : T} {k : List Key} {w : V} {R : AS} (le : Le F H) (h : keyTup t = some k) (r : Rep K mg F H w t R) : ∃ b, w = .ref b ∧ H b = some (.tup (k.map kV)) := by
  cases t with
  | no => cases h
  | lf _ => cases h
  | nd o kd kt =>
    cases kd with
    | tup =>
      obtain ⟨a, vs, S0, rfl, p, _, hr⟩ := r.nd_inv le
      have e := keysOf_rep h p
      exact ⟨a, rfl, e ▸ hr⟩
    | _ => cases h
theorem valV_zipT (k : List Key) : ∀ (ks : List (List Key)) (vs : List V), ks.length = vs.length → (valV (ks.zip vs) k).isSome = hasT ks k
  | [], [], _ => rfl
  | [], _ :: _, h => by simp at h
  | _ :: _, [], h => by simp at h
  | a :: ks, v :: vs, h => by
    have ih := valV_zipT k ks vs (by simpa using h)
    by_cases e : a = k
    · rw [List.zip_cons_cons, valV_pos e]; simp [hasT, e]
    · rw [List.zip_cons_cons, valV_neg e, ih]
      simp [hasT, e]
theorem inT_ok {x y : V} {t s : T} {R R2 : AS} {b neg : Bool} {Q : VK} (le : Le F H) (r1 : Rep K mg F H x t R) (r2 : Rep K mg F H y s R2) (h : inT t s = some b) (q : Q (.bl (if neg then !b else b)) H) : rInA K neg x y H Q := by
  unfold inT at h
  split at h
  · rename_i o ks xs
    obtain ⟨k, h1, rfl⟩ := Option.map_eq_some_iff.mp h
    obtain ⟨c, rfl, hc⟩ := keyTup_rep le h1 r1
    obtain ⟨a, vs, S0, rfl, p, _, hl, hr⟩ := r2.nd_inv le
    refine .inr (.inl ⟨a, _, rfl, DGet.t hr hc, ?_⟩)
    rw [valV_zipT k ks vs hl]
    exact q
  · cases h
theorem v_inT : Op2V K mg (rInA K false) oInT := by
  intro F H x y t s R R2 u Q le r1 r2 h q
  obtain ⟨b, e, rfl⟩ := Option.map_eq_some_iff.mp h
  exact inT_ok le r1 r2 e (q _ Emp (.lf rfl fun _ z => z))
theorem v_notInT : Op2V K mg (rInA K true) oNotInT := by
  intro F H x y t s R R2 u Q le r1 r2 h q
  obtain ⟨b, e, rfl⟩ := Option.map_eq_some_iff.mp h
  exact inT_ok le r1 r2 e (q _ Emp (.lf rfl fun _ z => z))
theorem putK_new {k : List Key} {w : V} (ks : List (List Key)) (vs : List V) (hl : ks.length = vs.length) (h : hasT ks k = false) : putK (ks.zip vs) k w = (ks ++ [k]).zip (vs ++ [w]) := by
  have h0 : (ks.zip vs).any (fun kv => decide (kv.1 = k)) = false := by
    rw [List.any_eq_false]
    intro p hp hc
    have := (List.of_mem_zip (a := p.1) (b := p.2) hp).1
    have h2 : hasT ks k = true := List.any_eq_true.mpr ⟨p.1, this, hc⟩
    rw [h] at h2; cases h2
  rw [List.zip_append hl]
  unfold putK
  rw [h0]
  simp
theorem m_setT (k : List Key) (b : Addr) : OpM K mg (fun x vs H Q => H b = some (.tup (k.map kV)) → rSetDM (.ref b) x vs H Q) (mSetT k) := by
  intro F H x t A vs ts R res t' Q le rx rs dj h q hb
  unfold mSetT at h
  split at h
  · rename_i ks xs y
    split at h
    · rename_i hc
      cases h
      obtain ⟨a, o, ws, S0, rfl, h1, h2, ⟨hl, rfl⟩, r, na, hA⟩ := rx.own_inv
      cases rs with
      | @cons v _ vs _ _ R1 R2 ry rn dy hR =>
        cases rn with
        | nil hn =>
          have nRa : ¬ R1 a := fun z => dj a ((hA a).mpr (.inl rfl)) ((hR a).mpr (.inl z))
          have dS : Dj S0 R1 := fun x z y => dj x ((hA x).mpr (.inr z)) ((hR x).mpr (.inl y))
          have one : Reps K mg F H [v] [y] R1 := .cons (S1 := R1) (S2 := Emp) ry (.nil fun _ z => z) dj_emp fun x => ⟨.inl, fun z => z.elim id fun z => z.elim⟩
          have g3 := Reps.append one r dS
          refine ⟨v, a, _, rfl, rfl, DPut.t h1 hb (by rw [List.length_zip, ← hl, Nat.min_self]; exact hc.1), ?_⟩
          exact write_end (k := .dT (ks ++ [k])) (vs' := ws ++ [v]) (S' := Cup S0 R1) (R := R) le h2 hA na (fun z => nRa (((hR a).mp z).elim id fun z => (hn a z).elim)) g3 (fun x z => z.imp id fun z => (hR x).mpr (.inl z)) ⟨by rw [List.length_append, List.length_append, hl]; rfl, by rw [putK_new ks ws hl hc.2]⟩ rfl q
    · cases h
  · cases h
theorem putT_imp {D : Ends} {i : Nat} {dv : DE} {dk : DV} (h : tS K mg [] (dPutT i dv dk) D σ H) :
    tE K mg dv σ H fun v H1 => ∃ x, σ[i]? = some (some x) ∧ tV K mg dk σ H1 fun k H2 => rSetDM k x [v] H2 fun _ H3 => D.nx σ H3 := by
  obtain ⟨F, env, S, rr, env', ok, hd, q⟩ := h
  obtain ⟨⟨t, e⟩, h1, h2⟩ := Option.bind_eq_some_iff.mp hd
  split at h2
  · rename_i t0 kt h3 h4
    obtain ⟨k, hk, h2⟩ := Option.bind_eq_some_iff.mp h2
    obtain ⟨⟨res, t'⟩, h5, h6⟩ := Option.map_eq_some_iff.mp h2
    cases h6
    refine ⟨F, env, S, t, e, ok, h1, fun v F1 H1 S1 R1 st1 ok1 r1 dj1 => ?_⟩
    obtain ⟨g1, g2⟩ := gV_some h3
    obtain ⟨x, A, B, ev, rx, _⟩ := ok1.st.slot g1 g2
    refine ⟨x, ev, F1, e, S1, kt, ok1, h4, fun w R2 rw' => ?_⟩
    obtain ⟨b, rfl, hb⟩ := keyTup_rep ok1.le hk rw'
    have rs : Reps K mg F1 H1 [v] [t] R1 := .cons (S1 := R1) (S2 := Emp) r1 (.nil fun _ z => z) dj_emp fun x => ⟨.inl, fun z => z.elim id fun z => z.elim⟩
    exact mut_end (m_setT k b) st1 ok1 rs dj1 ev h3 h5 (fun v' F' H' S' R' st ok' _ _ => q.now (st.weak fun _ z => .inl z) ok' .refl) hb
  · cases h2
end
section
variable {X : Cx} {x : Str} {i : Nat} {k value : Expr} {px pos pos' : Pos} {dv : DE} {dk : DV}
theorem se_dicT : SE X (.Dict [] [] pos) dDicT := pew pe_dnewT fun σ H Q h p hp => by
  obtain ⟨F, env, S, t, e, ok, hd, q⟩ := h
  cases hd
  obtain ⟨g1, g2, g3⟩ := new_one (K := X.K) (mg := X.mg) (k := .dT []) (o := .dT []) (vs := []) (xs := []) ok.le hp ⟨rfl, rfl⟩ (.nil fun _ z => z)
  obtain ⟨a, b, c⟩ := fin_new Stp.refl ok g1 g2
  exact q _ _ _ _ _ a b g3 c
theorem ss_setT (hu : X.A.units + 1 < cLine) (hv : SE X value dv) (hk : SV X k dk) (hN : X.N[i]? = some x := by rfl) (hvis : Vis X.env.scope x := by first | exact Or.inl rfl | exact Or.inr (Or.inl rfl) | exact Or.inr (Or.inr rfl)) (hd : (x == ("__debug__" : Str)) = false := by decide) (hcd : (x == ("__classdict__" : Str)) = false := by decide)
    (hs : swapsWith value (some (.Subscript (.Name x px) k pos)) pos'.line X.env = pure false := by rfl) :
    SS X (.Assign [.Subscript (.Name x px) k pos] value pos') [] (dPutT i dv dk) :=
  psw (ps_dput hu (pe_var hN hvis hd hcd) hk hv hs) fun D σ H h => by
    obtain ⟨F, env, S, t, e, ok, hd, q⟩ := putT_imp h
    exact ⟨F, env, S, t, e, ok, hd, fun v F' H' S' R a b c d => by
      obtain ⟨x, e1, F2, en2, S2, t2, ok2, hd2, q2⟩ := q v F' H' S' R a b c d
      exact ⟨x, e1, F2, en2, S2, t2, ok2, hd2, fun w R' r' => by
        obtain ⟨v', a', H4, e3, e4, e5, q3⟩ := q2 w R' r'
        cases e3
        exact ⟨a', H4, e4, e5, q3⟩⟩⟩
end
end Tr


set_option Elab.async false
set_option linter.all false
set_option maxRecDepth 100000
set_option maxHeartbeats 4000000
/-! D27: a dict whose keys are tuples of numbers, nested: made, setdefault, len. -/
namespace Tr
open PySem PySem.Spec PyProof.Rows L2

/-! ### keys in the abstract heap -/
mutual
inductive NH (H : Hp) : NestedKey → V → Prop
  | bl {b : Bool} {i : Int} : i = (if b = true then 1 else 0) → NH H (.num i) (.bl b)
  | int (i : Int) : NH H (.num i) (.int i)
  | tup {a : Addr} {vs : List V} {ks : List NestedKey} : H a = some (.tup vs) → NHs H ks vs → NH H (.tup ks) (.ref a)
inductive NHs (H : Hp) : List NestedKey → List V → Prop
  | nil : NHs H [] []
  | cons {k : NestedKey} {v : V} {ks : List NestedKey} {vs : List V} : NH H k v → NHs H ks vs → NHs H (k :: ks) (v :: vs)
end
section
variable {X : Cx} {pins : List (Addr × Obj)} {σ : L2.St} {H : Hp} {s : Shared}
mutual
theorem NH.real (I : Inv X pins σ H s) : ∀ {k : NestedKey} {v : V} {u : Value}, NH H k v → RelV v u → NestedIs s.heap k u
  | _, _, u, .bl e, r => by
    have : u = Value.bool _ := r
    subst this; exact .bool e
  | _, _, u, .int i, r => by
    obtain ⟨t, rfl⟩ := r
    exact .int i t
  | _, _, u, .tup e h, r => by
    have : u = Value.ref _ := r
    subst this
    obtain ⟨_, its, hv, o, ho, hc, n, hd⟩ := (show ObjOk X.prog X.w H s.heap _ (.tup _) from I.hok _ _ e)
    exact .tup ho hc hd (by rw [List.toList_toArray]; exact NHs.real I h hv)
theorem NHs.real (I : Inv X pins σ H s) : ∀ {ks : List NestedKey} {vs : List V} {us : List Value}, NHs H ks vs → Vals vs us → NestedAll s.heap ks us
  | _, _, _, .nil, .nil => .nil
  | _, _, _, .cons h hs, .cons r rs => .cons (NH.real I h r) (NHs.real I hs rs)
end
end
/-! ### trees as keys -/
def nkV : V → Option NestedKey
  | .int i => some (.num i)
  | .bl b => some (.num (if b = true then 1 else 0))
  | _ => none
mutual
def toN : T → Option NestedKey
  | .lf v => nkV v
  | .nd _ .tup xs => (toNs xs).map .tup
  | _ => none
def toNs : List T → Option (List NestedKey)
  | [] => some []
  | t :: ts => (toN t).bind fun k => (toNs ts).map fun ks => k :: ks
end
section
variable {K : PySem.W.Frag} {mg : Mg} {F H : Hp}
mutual
theorem toN_rep (le : Le F H) : ∀ (t : T) {k : NestedKey} {v : V} {R : AS}, toN t = some k → Rep K mg F H v t R → NH H k v ∧ nOnly k = true
  | .no, k, v, R, h, r => by simp [toN] at h
  | .lf w, k, v, R, h, r => by
    rw [toN] at h
    rw [r.lf_inv.1]
    cases w with
    | int i => cases h; exact ⟨.int i, rfl⟩
    | bl b => cases h; exact ⟨.bl rfl, rfl⟩
    | _ => cases h
  | .nd o kd xs, k, v, R, h, r => by
    cases kd with
    | tup =>
      rw [toN] at h
      obtain ⟨ks, h1, rfl⟩ := Option.map_eq_some_iff.mp h
      obtain ⟨a, vs, S0, rfl, p, _, hr⟩ := r.nd_inv le
      obtain ⟨g1, g2⟩ := toNs_rep le xs h1 p
      exact ⟨.tup hr g1, by rw [nOnly]; exact g2⟩
    | _ => simp [toN] at h
theorem toNs_rep (le : Le F H) : ∀ (ts : List T) {ks : List NestedKey} {vs : List V} {R : AS}, toNs ts = some ks → Reps K mg F H vs ts R → NHs H ks vs ∧ nOnlys ks = true
  | [], ks, vs, R, h, r => by
    rw [toNs] at h; cases h
    rw [r.nil_inv]
    exact ⟨.nil, rfl⟩
  | t :: ts, ks, _, R, h, .cons r q _ _ => by
    rw [toNs] at h
    obtain ⟨k, h1, h2⟩ := Option.bind_eq_some_iff.mp h
    obtain ⟨ks', h3, rfl⟩ := Option.map_eq_some_iff.mp h2
    obtain ⟨g1, g2⟩ := toN_rep le t h1 r
    obtain ⟨g3, g4⟩ := toNs_rep le ts h3 q
    exact ⟨.cons g1 g3, by rw [nOnlys, g2, g4]; rfl⟩
end
end
/-! ### the dict in the real heap -/
theorem atKey_none {xs : List NEnt} {k : NestedKey} : atKey xs k = none ↔ k ∉ xs.map (·.1) := by
  unfold atKey
  rw [Option.map_eq_none_iff, List.find?_eq_none]
  constructor
  · intro h hk
    obtain ⟨x, hx, e⟩ := List.mem_map.mp hk
    exact h x hx (decide_eq_true e)
  · intro h x hx hc
    exact h (List.mem_map.mpr ⟨x, hx, of_decide_eq_true hc⟩)
/-- what the dict needs to be one of nested keys -/
structure KeyN (H : Hp) (xs : List NEnt) : Prop where
  is : ∀ x ∈ xs, NH H x.1 (.ref x.2.1)
  on : ∀ x ∈ xs, nOnly x.1 = true
  dp : ∀ x ∈ xs, x.1.depth ≤ 8
  nd : (xs.map (·.1)).Nodup
section
variable {X : Cx} {pins : List (Addr × Obj)} {σ : L2.St} {H : Hp} {s : Shared} {a a0 : Addr} {xs : List NEnt}
theorem dictN_real (I : Inv X pins σ H s) (e : H a = some (DictN a0 xs)) (k : KeyN H xs) : a0 = a ∧ (a == sysModules) = false ∧ s.heap.DictOfH (nestedKind X.prog X.w) a xs := by
  have ok := (show ObjOk X.prog X.w H s.heap a (DictN a0 xs) from I.hok a _ e)
  have ea := dictN_addr ok
  subst ea
  obtain ⟨⟨n0, o, es, ep, ho, hx, hd, he⟩, _⟩ := ok
  exact ⟨rfl, n0, o, es, ep, ho, hx, hd, he X.w, fun x hx => ⟨(k.is x hx).real I rfl, k.dp x hx⟩, k.nd⟩
theorem dictN_new {P : Program} {w : World} {H' : Hp} {h : Heap} (n0 : (a == sysModules) = false) (on : ∀ x ∈ xs, nOnly x.1 = true) (d : h.DictOfH (nestedKind P w) a xs) : ObjOk P w H' h a (DictN a xs) := by
  obtain ⟨o, es, ep, ho, hx, hd, he, _⟩ := d
  have hw : ∀ w' : World, es.toList = xs.map (entN w') := fun w' => by
    rw [he]
    refine List.map_congr_left fun x hx => ?_
    show (⟨x.1.hash w, _, _⟩ : DictEntry) = ⟨x.1.hash w', _, _⟩
    rw [hash_any w w' x.1 (on x hx)]
  exact ⟨⟨n0, o, es, ep, ho, hx, hd, hw⟩, ⟨o, ho⟩, fun h1 h2 ⟨n, o, es, ep, ho, r⟩ k => ⟨n, o, es, ep, k o ho, r⟩⟩
end
/-! ### {} -/
def dDicN : DE := fun env => some (.nd true (.dN [] []) [], env)
def tDNewN : TE := fun _ H Q => ∀ p, H p = none → Q (.ref p) (upd H p (DictN p []))
section
variable {X : Cx} {pos : Pos}
theorem pe_dnewN : PE X (.Dict [] [] pos) tDNewN := ⟨fun pins s σ H Q I h =>
  wpAny_Dict_empty ⟨.ref s.heap.objs.size, _, I.laid (a := s.heap.objs.size) (o := DictN s.heap.objs.size []) (t' := s.toks) (fun _ _ q => Heap.get?_push_of_some _ q) (Nat.le_refl _)
    (dictN_new (beq_eq_false_iff_ne.mpr (Ne.symm (Nat.ne_of_lt I.big))) (fun _ h => (List.not_mem_nil h).elim) ⟨_, #[], 0, Heap.get?_push_size _ rfl, ⟨rfl, rfl, rfl⟩, rfl, rfl, fun _ h => (List.not_mem_nil h).elim, List.nodup_nil⟩), rfl, h _ (I.hok.fresh (Nat.le_refl _))⟩⟩
theorem se_dicN : SE X (.Dict [] [] pos) dDicN := pew pe_dnewN fun σ H Q h p hp => by
  obtain ⟨F, env, S, t, e, ok, hd, q⟩ := h
  cases hd
  obtain ⟨g1, g2, g3⟩ := new_one (K := X.K) (mg := X.mg) (k := .dN [] []) (o := DictN p []) (vs := []) (xs := []) ok.le hp ⟨p, [], rfl, rfl, rfl, rfl⟩ (.nil fun _ z => z)
  obtain ⟨a, b, c⟩ := fin_new Stp.refl ok g1 g2
  exact q _ _ _ _ _ a b g3 c
end
/-! ### setdefault -/
def rSetdN : V → List V → Hp → VK → Prop := fun x vs H Q => ∃ (a a0 : Addr) (xs : List NEnt) (k : NestedKey) (b : Addr) (d : Int), x = .ref a ∧ vs = [.ref b, .int d] ∧ H a = some (DictN a0 xs) ∧ KeyN H xs ∧ NH H k (.ref b) ∧ nOnly k = true ∧ k.depth ≤ 8 ∧ xs.length < sizeLine ∧
  (∀ p, atKey xs k = some p → ∃ i, intV p.2 = some i ∧ Q (.int i) H) ∧ (atKey xs k = none → ∀ u, intV u = some d → Q (.int d) (upd H a (DictN a0 (xs ++ [(k, b, u)]))))
def tSetdN (to : TE) (t : TA) : TE := fun σ H Q => to σ H fun x H1 => (∃ a a0 xs, x = V.ref a ∧ H1 a = some (DictN a0 xs)) ∧ t σ H1 fun vs H2 => rSetdN x vs H2 Q
section
variable {X : Cx} {o e : Expr} {es : List Expr} {to : TE} {t : TA} {apos cpos : Pos}
theorem in1_room {A : Around} (hu : A.units + 64 < cLine) : A.in1.units + 8 < cLine := by
  have h : A.in1.units ≤ A.units + 1 := by
    first | exact Nat.le_refl _ | (unfold Around.units Around.in1; simp)
  omega
theorem mt_setdN (hu : X.A.units + 64 < cLine) : MtR X "dict.setdefault" rSetdN := by
  intro pins s σ H x xs v us Q I r rs h
  obtain ⟨a, a0, es, k, b, d, rfl, rfl, ea, kn, nh, on, dp, hl, h1, h2⟩ := h
  cases (show v = Value.ref a from r)
  cases rs with
  | cons rb rt =>
    cases rt with
    | cons rd rn =>
      cases rn
      cases (show _ = Value.ref b from rb)
      obtain ⟨t, rfl⟩ := rd
      obtain ⟨rfl, n0, dd⟩ := dictN_real I ea kn
      refine call_setdefault_heap (knd := nestedKind X.prog X.w) (in1_room hu) ⟨nh.real I rfl, dp⟩ n0 dd (fun p hp => ?_) (fun hn h' dd' hs => ?_) (by omega)
      · obtain ⟨i, hi, q⟩ := h1 p hp
        exact ⟨.int i, H, I.tok _, intV_rel hi, q⟩
      · rw [storedH_new hn] at dd'
        have he : ∃ q, h'.get? a0 = some q := let ⟨q, _, _, hq, _⟩ := dd'; ⟨q, hq⟩
        have on' : ∀ x ∈ es ++ [(k, b, Value.int d t)], nOnly x.1 = true := fun x hx => by
          rcases List.mem_append.mp hx with hx | hx
          · exact kn.on x hx
          · rw [List.mem_singleton.mp hx]; exact on
        exact ⟨.int d, _, d_write (t' := s.toks + (nestedKind X.prog X.w).draws k) I (by rw [ea]; trivial) hs he (dictN_new n0 on' dd'), ⟨t, rfl⟩, h2 hn _ rfl⟩
theorem pe_setdN (hu : X.A.units + 64 < cLine) (ho : PE X o to) (ha : PA X (e :: es) t)
    (hbase : attributeBase o "setdefault" X.env (eval o X.env) = eval o X.env := by rfl)
    (hfew : ((backTo cpos (starEach (e :: es) X.env)).all (fun x => !x.1) && (backToKw cpos (keywordEach [] X.env)).all (fun x => x.1.isSome)
      && decide ((e :: es).length + ([] : List Keyword).length + (if ([] : List Keyword).isEmpty then 0 else 1) < 30)) = true := by rfl)
    (hline : (apos.endLine == cpos.line) = true := by rfl) (hs : starEach (e :: es) X.env = (false, eval e X.env) :: starEach es X.env := by rfl) (hplain : (backTo cpos (starEach es X.env)).any (·.1) = false := by rfl) :
    PE X (.Call (.Attribute o "setdefault" apos) (e :: es) [] cpos) (tSetdN to t) := by
  refine ⟨fun pins s σ H Q I h => ?_⟩
  refine wpAny_Call_method_late hbase hfew hline rfl (thn (ho.run pins s σ H _ I h) fun v s1 ⟨x, H1, I1, r1, ty, q1⟩ => ?_)
  obtain ⟨a, a0, xs, rfl, ea⟩ := ty
  have ok := (show ObjOk X.prog X.w H1 s1.heap a (DictN a0 xs) from I1.hok a _ ea)
  have e0 := dictN_addr ok
  subst e0
  obtain ⟨⟨_, ob, es', ep, eo, ex, _⟩, _⟩ := ok
  cases (show v = Value.ref a0 from r1)
  refine ⟨"dict", "dict.setdefault", F.plainAttrs_dict, F.slot_dict_setdefault, F.type_dict_setdefault, ⟨ob, eo, ex.1⟩, (fun c ec => by cases ec; exact ⟨ob, eo, ex.2.1⟩), ?_⟩
  have hA := ha.run cpos pins s1 σ H1 _ I1 q1
  rw [hs] at hA ⊢
  refine Calls.callWith_builtin (by show (false || (backTo cpos (starEach es X.env)).any (·.1)) = false; rw [hplain] <;> rfl) (Calls.evalArgs_plain ?_)
  exact thn hA fun us s2 ⟨vs, H2, I2, r2, q2⟩ => mt_setdN hu pins s2 σ H2 (.ref a0) vs (.ref a0) us Q I2 rfl r2 q2
end
/-- what stands at a key -/
def lkN : List NestedKey → List Int → NestedKey → Option Int
  | a :: ks, d :: ds, k => if a = k then some d else lkN ks ds k
  | _, _, _ => none
def nodupN : List NestedKey → Bool
  | [] => true
  | k :: ks => !decide (k ∈ ks) && nodupN ks
theorem nodupN_ok : ∀ {ks : List NestedKey}, nodupN ks = true → ks.Nodup
  | [], _ => .nil
  | k :: ks, h => by
    simp only [nodupN, Bool.and_eq_true, Bool.not_eq_true', decide_eq_false_iff_not] at h
    exact List.nodup_cons.mpr ⟨h.1, nodupN_ok h.2⟩
theorem lkN_at {k : NestedKey} : ∀ {xs : List NEnt} {ks : List NestedKey} {ds : List Int}, xs.map (·.1) = ks → xs.map (fun x => intV x.2.2) = ds.map some → ∀ p, atKey xs k = some p → ∃ i, intV p.2 = some i ∧ lkN ks ds k = some i
  | [], ks, ds, e1, e2, p, h => by simp [atKey] at h
  | x :: xs, ks, [], e1, e2, p, h => by simp at e2
  | x :: xs, _, d :: ds, rfl, e2, p, h => by
    simp only [List.map_cons, List.cons.injEq] at e2
    rw [List.map_cons]
    unfold lkN
    by_cases ex : x.1 = k
    · have : p = x.2 := by
        unfold atKey at h
        rw [List.find?_cons, decide_eq_true ex] at h
        exact (Option.some.inj h).symm
      rw [if_pos ex, this]
      exact ⟨d, e2.1, rfl⟩
    · rw [if_neg ex]
      refine lkN_at rfl e2.2 p ?_
      unfold atKey at h ⊢
      rw [List.find?_cons, decide_eq_false ex] at h
      exact h
def mSetdN : T → List T → Option (T × T)
  | .nd true (.dN ks ds) xs, [kt, .lf (.int d)] => match kt with
    | .nd o .tup zs => (toN (.nd o .tup zs)).bind fun k => if cln (.nd o .tup zs) = true ∧ clns xs = true ∧ k.depth ≤ 8 ∧ toNs xs = some ks ∧ ks.all (fun k => decide (k.depth ≤ 8)) = true ∧ nodupN ks = true ∧ ks.length < sizeLine then
        if k ∈ ks then (lkN ks ds k).map fun i => (.lf (.int i), .nd true (.dN ks ds) xs)
        else some (.lf (.int d), .nd true (.dN (ks ++ [k]) (ds ++ [d])) (xs ++ [.nd o .tup zs]))
      else none
    | _ => none
  | _, _ => none
def isDN : T → Bool
  | .nd _ (.dN _ _) _ => true
  | _ => false
/-- x.setdefault(..): the name in slot i is changed -/
def dMutN (i : Nat) (da : DA) : DE := fun env => match gV i env with
  | some t0 => if isDN t0 = true then (da env).bind fun p => match gV i p.2 with
    | some t => (mSetdN t p.1).map fun q => (q.1, p.2.set i q.2)
    | none => none
    else none
  | none => none
section
variable {K : PySem.W.Frag} {mg : Mg} {F H : Hp} {σ : L2.St}
theorem entKeys (le : Le F H) : ∀ {xs : List NEnt} {ts : List T} {ks : List NestedKey} {S : AS}, xs.map (·.1) = ks → toNs ts = some ks → Reps K mg F H (xs.map fun x => V.ref x.2.1) ts S → ∀ x ∈ xs, NH H x.1 (.ref x.2.1) ∧ nOnly x.1 = true
  | [], _, _, _, _, _, _, x, h => (List.not_mem_nil h).elim
  | y :: xs, ts0, ks, S, e, h, r0, x, hx => by
    rw [List.map_cons] at r0
    cases r0 with
    | @cons _ t _ ts _ _ _ r q _ _ =>
      rw [toNs] at h
      obtain ⟨k, h1, h2⟩ := Option.bind_eq_some_iff.mp h
      obtain ⟨ks', h3, rfl⟩ := Option.map_eq_some_iff.mp h2
      simp only [List.map_cons, List.cons.injEq] at e
      rcases List.mem_cons.mp hx with rfl | hx
      · have := toN_rep le t h1 r
        rw [e.1]; exact this
      · exact entKeys le e.2 h3 q x hx
theorem m_setdN : OpM K mg rSetdN mSetdN := by
  intro F H x t A vs ts R res t' Q le rx rs dj h q
  unfold mSetdN at h
  split at h
  · rename_i ks ds xs kt d
    split at h
    · rename_i o zs
      obtain ⟨k, hk, h⟩ := Option.bind_eq_some_iff.mp h
      split at h
      · rename_i hc
        obtain ⟨c1, c2, c3, c4, c5, c6, c7⟩ := hc
        obtain ⟨a, ob, ws, S0, rfl, g1, g2, ⟨a0, es, rfl, rfl, rfl, e3⟩, r, na, hA⟩ := rx.own_inv
        cases rs with
        | @cons v _ vs _ _ R1 R2 ry rn dy hR =>
          cases rn with
          | @cons v2 _ vs2 _ _ R3 R4 ry2 rn2 dy2 hR2 =>
            cases rn2 with
            | nil hn =>
              obtain ⟨rfl, _, n2⟩ := ry2.lf_inv
              obtain ⟨nh, on⟩ := toN_rep le _ hk ry
              obtain ⟨b, us, S1, eb, p, _, hr⟩ := ry.nd_inv le
              subst eb
              have ek := entKeys (ks := es.map (·.1)) le rfl c4 r
              have kn : KeyN H es := ⟨fun x hx => (ek x hx).1, fun x hx => (ek x hx).2, fun x hx => of_decide_eq_true (List.all_eq_true.mp c5 _ (List.mem_map.mpr ⟨x, hx, rfl⟩)), nodupN_ok c6⟩
              have nRa : ¬ R a := fun z => dj a ((hA a).mpr (.inl rfl)) z
              refine ⟨a, a0, es, k, b, d, rfl, rfl, g1, kn, nh, on, c3, by rw [List.length_map] at c7; exact c7, fun p hp => ?_, fun hn u hu => ?_⟩
              · have hm : k ∈ es.map (·.1) := Classical.byContradiction fun z => by rw [atKey_none.mpr z] at hp; cases hp
                rw [if_pos hm] at h
                obtain ⟨i, hi, hl⟩ := lkN_at (k := k) rfl e3 p hp
                rw [hl] at h
                cases h
                refine ⟨i, hi, q (.int i) H A Emp ?_ le rx (.lf rfl fun _ z => z) dj_emp⟩
                exact Stp.refl.weak fun z y => y.elim .inl fun y => y.elim
              · have hm : ¬ k ∈ es.map (·.1) := atKey_none.mp hn
                rw [if_neg hm] at h
                cases h
                have one : Reps K mg F H [V.ref b] [.nd o .tup zs] Emp := .cons (S1 := Emp) (S2 := Emp) (ry.clean0 c1) (.nil fun _ z => z) dj_emp fun x => ⟨.inl, fun z => z.elim id id⟩
                have r' := r.clean0 c2
                have g3 := Reps.append one r' dj_emp
                have g4 : Reps K mg F H (es.map (fun x => V.ref x.2.1) ++ [V.ref b]) (xs ++ [.nd o .tup zs]) Emp := g3.iff fun x => ⟨.inl, fun z => z.elim id id⟩
                have sub : Stp F H (Cup A R) F (upd H a (DictN a0 (es ++ [(k, b, u)]))) (Cup (fun x => x = a) Emp) := by
                  refine ⟨Le.refl _, fun x o e n => by rw [upd_ne fun z => n (.inl ((hA x).mpr (.inl z)))]; exact e, fun _ _ e => .inl e, fun x z => .inl ?_⟩
                  rcases z with z | z
                  · exact .inl ((hA x).mpr (.inl z))
                  · exact z.elim
                have le' : Le F (upd H a (DictN a0 (es ++ [(k, b, u)]))) := fun x o e => by rw [upd_ne fun z => by rw [z, g2] at e; cases e]; exact le x o e
                refine q (.int d) _ (fun x => x = a) Emp sub le' (.own upd_same g2 ⟨a0, es ++ [(k, b, u)], rfl, by rw [List.map_append]; rfl, by rw [List.map_append]; rfl, by rw [List.map_append, List.map_append, e3]; show _ ++ [intV u] = _; rw [hu]; rfl⟩ (g4.frame (Le.refl _) fun _ z => z.elim) (fun z => z) fun x => ⟨.inl, fun z => z.elim id fun z => z.elim⟩) (.lf rfl fun _ z => z) dj_emp
      · cases h
    · cases h
  · cases h
theorem setdN_imp {i : Nat} {da : DA} {bs : List (Option Nat)} {Q : VK} (h : tE K mg (dMutN i da) σ H Q) : tSetdN (tVar i) (tA K mg bs da) σ H Q := by
  obtain ⟨F, env, S, res, e, ok, hd, q⟩ := h
  unfold dMutN at hd
  split at hd
  · rename_i t0 h0
    split at hd
    · rename_i hi
      obtain ⟨⟨ts, e1⟩, h1, hd⟩ := Option.bind_eq_some_iff.mp hd
      split at hd
      · rename_i t h2
        obtain ⟨⟨r1, t'⟩, h3, h4⟩ := Option.map_eq_some_iff.mp hd
        cases h4
        obtain ⟨g1, g2⟩ := gV_some h0
        obtain ⟨x, A, B, ev, rx, _⟩ := ok.st.slot g1 g2
        have tyx : ∃ a a0 xs, x = V.ref a ∧ H a = some (DictN a0 xs) := by
          cases t0 with
          | no => cases hi
          | lf _ => cases hi
          | nd o k xs =>
            cases k with
            | dN ks ds =>
              obtain ⟨a, vs, S0, rfl, p, _, a0, es, hr, _⟩ := rx.nd_inv ok.le
              exact ⟨a, a0, es, rfl, hr⟩
            | _ => cases hi
        exact ⟨x, ev, tyx, F, env, S, ts, e1, ok, h1, fun vs F1 H1 S1 R st ok1 rs dj bo => mut_end m_setdN st ok1 rs dj ev h2 h3 q⟩
      · cases hd
    · cases hd
  · cases hd
end
section
variable {X : Cx} {x : Str} {i : Nat} {e : Expr} {es : List Expr} {px apos cpos : Pos} {da : DA} {bs : List (Option Nat)}
theorem se_setdN (hu : X.A.units + 64 < cLine) (ha : SA X (e :: es) bs da)
    (hN : X.N[i]? = some x := by rfl) (hv : Vis X.env.scope x := by first | exact Or.inl rfl | exact Or.inr (Or.inl rfl) | exact Or.inr (Or.inr rfl)) (hd : (x == ("__debug__" : Str)) = false := by decide) (hcd : (x == ("__classdict__" : Str)) = false := by decide)
    (hbase : attributeBase (.Name x px) "setdefault" X.env (eval (.Name x px) X.env) = eval (.Name x px) X.env := by rfl)
    (hfew : ((backTo cpos (starEach (e :: es) X.env)).all (fun x => !x.1) && (backToKw cpos (keywordEach [] X.env)).all (fun x => x.1.isSome)
      && decide ((e :: es).length + ([] : List Keyword).length + (if ([] : List Keyword).isEmpty then 0 else 1) < 30)) = true := by rfl)
    (hline : (apos.endLine == cpos.line) = true := by rfl) (hs : starEach (e :: es) X.env = (false, eval e X.env) :: starEach es X.env := by rfl) (hplain : (backTo cpos (starEach es X.env)).any (·.1) = false := by rfl) :
    SE X (.Call (.Attribute (.Name x px) "setdefault" apos) (e :: es) [] cpos) (dMutN i da) := pew (pe_setdN hu (pe_var hN hv hd hcd) ha hbase hfew hline hs hplain) fun _ _ _ h => setdN_imp h
end
/-! ### len -/
def oLenN : T → Option T
  | .nd _ (.dN ks ds) xs => if toNs xs = some ks ∧ ks.all (fun k => decide (k.depth ≤ 8)) = true ∧ nodupN ks = true ∧ ks.length < sizeLine then some (.lf (.int ks.length)) else none
  | _ => none
def rLenN : List V → Hp → VK → Prop := fun vs H Q => ∃ a a0 xs, vs = [.ref a] ∧ H a = some (DictN a0 xs) ∧ KeyN H xs ∧ xs.length < sizeLine ∧ Q (.int xs.length) H
theorem call_lenN {X : Cx} : CallR X (.builtin "len") rLenN := by
  intro pins s σ H xs us Q I r h
  obtain ⟨a, a0, es, rfl, ea, kn, hl, q⟩ := h
  cases r with
  | cons ra rn =>
    cases rn
    cases (show _ = Value.ref a from ra)
    obtain ⟨rfl, n0, dd⟩ := dictN_real I ea kn
    exact call_len_dictH n0 dd (by rw [sizeLine_eq] at hl; omega) ⟨.int es.length, H, I.tok _, ⟨_, rfl⟩, q⟩
theorem v_lenN {K : PySem.W.Frag} {mg : Mg} : Op1V K mg (fun x H Q => rLenN [x] H Q) oLenN := fun F H x t R u Q le r1 h q => by
  unfold oLenN at h
  split at h
  · rename_i o ks ds xs
    split at h
    · rename_i hc
      cases h
      obtain ⟨a, vs, S0, rfl, p, _, a0, es, hr, rfl, rfl, e3⟩ := r1.nd_inv le
      have ek := entKeys (ks := es.map (·.1)) le rfl hc.1 p
      rw [List.length_map] at q hc
      exact ⟨a, a0, es, rfl, hr, ⟨fun x hx => (ek x hx).1, fun x hx => (ek x hx).2, fun x hx => of_decide_eq_true (List.all_eq_true.mp hc.2.1 _ (List.mem_map.mpr ⟨x, hx, rfl⟩)), nodupN_ok hc.2.2.1⟩, hc.2.2.2, q _ Emp (.lf rfl fun _ z => z)⟩
    · cases h
  · cases h
end Tr


set_option Elab.async false
set_option linter.all false
set_option maxRecDepth 100000
set_option maxHeartbeats 4000000
/-! D28: sorted(set(a list of ints)), tuple(a list). -/
namespace Tr
open PySem PySem.Spec PyProof.Rows L2

/-- the object that set() lays -/
abbrev setOb (w : World) : Obj := { cls := .type "set", dict := none, data := .set #[] 0 (.fresh 0 0 (!w.params.followText "set-order")) }
section
variable {P : Program} {w : World} {A : Around} {E : Value → Shared → Prop} {s : Shared}
/-- the elements of a list, laid into a set that is new -/
theorem fill_ints {l : Addr} {items : Array Value} (ns : List Int) (hh : A.handled = none) (hl : s.heap.IsList l items) (hit : IntsAre items.toList ns) (hb : ns.length + 1 < scanBound) :
    codeAny (model P w) A (.call (.builtin "set.__init__") ⟨[.ref s.heap.objs.size] ++ [.ref l], []⟩) (wants (fun r s2 => r = .none ∧ ∃ h' tk c, s2 = { s with heap := h', toks := tk } ∧ SetR w h' s.heap.objs.size (fun j => decide (j ∈ ns)) c ∧ c ≤ ns.length ∧ (∀ b o, s.heap.get? b = some o → h'.get? b = some o)) E)
      { s with heap := s.heap.push (setOb w) } := by
  have isz : items.size = ns.length := by have q := IntsAre.length hit; rwa [Array.length_toList] at q
  have at0 : (s.heap.push (setOb w)).get? s.heap.objs.size = some (setOb w) := Heap.get?_push_size _ rfl
  have ty0 : Shared.TypeIs { s with heap := s.heap.push (setOb w) } (.ref s.heap.objs.size) "set" := ⟨_, at0, rfl⟩
  obtain ⟨ol, e1, e2, nl, e3⟩ := hl
  obtain ⟨ocls, odict, odata, oslots⟩ := ol
  simp only at e2 e3
  subst e2; subst e3
  have e1' := Heap.get?_push_of_some (setOb w) e1
  have u1 := F.sub_list_set
  have u2 := F.sub_list_frozenset
  have u3 : (Value.type "list" == Value.type "dict") = false := by decide
  have hl1 : (s.heap.push (setOb w)).IsList l items := ⟨_, e1', rfl, nl, rfl⟩
  have ll : l < s.heap.objs.size := Heap.lt_size e1
  refine codeAny_call_builtin F.called_set.init.plain F.entry_set_init (check_set_init_1 ty0 ?_)
  unfold Builtin.«set.__init__» noKeywords Builtin.Frozenset.updateFrom
  generalize hPI : pyIter = PI
  wp_walk
  subst hPI
  refine wpAny_pyIter_list hl1 (wpAny_bind (wpAny_runValue ?_))
  have h3 : A.in1.in1.handled = none := by simp [hh]
  have nI : l ≠ (s.heap.push (setOb w)).objs.size := by rw [Heap.size_push]; exact Nat.ne_of_lt (Nat.lt_succ_of_lt ll)
  have nS : s.heap.objs.size ∉ [(s.heap.push (setOb w)).objs.size, l] := by
    rw [Heap.size_push]
    intro z
    rcases List.mem_cons.mp z with z | z
    · exact Nat.ne_of_lt (Nat.lt_succ_self _) z
    · exact Nat.ne_of_gt ll (List.mem_singleton.mp z)
  have vals : ∀ (i : Nat) (v : Value), items[i]? = some v → ∃ k t, ns[i]? = some k ∧ v = .int k t := fun i v hv => by
    have hi : i < ns.length := by rw [← isz]; exact (Array.getElem?_eq_some_iff.mp hv).1
    obtain ⟨t, e⟩ := IntsAre.int_at hit i v (by rw [Array.getElem?_toList]; exact hv)
    exact ⟨ns[i], t, List.getElem?_eq_getElem hi, by rw [e, List.getD_eq_getElem?_getD, List.getElem?_eq_getElem hi]; rfl⟩
  refine set_update_ints ((Walks.list h3 _ l nI items).toS) s.heap.objs.size nS ns isz hb vals (items.size - 0) 0 _ (by omega) (Nat.zero_le _) ?_ ?_ ?_
  · exact ⟨⟨_, Heap.get?_push_size _ rfl, rfl, rfl⟩, hl1.push _⟩
  · exact ⟨0, Nat.le_refl 0, setR_new_at (Heap.get?_push_of_some _ at0)⟩
  intro s' c' hm hc' hS'
  obtain ⟨h', g2, d', tk', os'⟩ := s'
  have q1 : g2 = s.gens := hm.gens
  have q2 : d' = s.drawn := hm.drawn
  have q3 : os' = s.os := hm.os
  subst q1; subst q2; subst q3
  rw [isz] at hc'
  refine wpAny_pure (wpAny_pure ⟨rfl, h', tk', c', rfl, hS', hc', fun b o e => ?_⟩)
  have b0 : b < s.heap.objs.size := Heap.lt_size e
  refine hm.heap b o (fun z => ?_) (Heap.get?_push_of_some _ (Heap.get?_push_of_some _ e))
  rcases List.mem_cons.mp z with z | z
  · exact Nat.ne_of_lt b0 z
  · have := List.mem_singleton.mp z
    rw [Heap.size_push] at this
    exact Nat.ne_of_lt (Nat.lt_succ_of_lt b0) this
theorem set_ints {l : Addr} {items : Array Value} (ns : List Int) {Q : Value → Shared → Prop} (hh : A.handled = none) (hl : s.heap.IsList l items) (hit : IntsAre items.toList ns) (hb : ns.length + 1 < scanBound)
    (h : ∀ (h' : Heap) (tk c : Nat), SetR w h' s.heap.objs.size (fun j => decide (j ∈ ns)) c → c ≤ ns.length → (∀ b o, s.heap.get? b = some o → h'.get? b = some o) → Q (.ref s.heap.objs.size) { s with heap := h', toks := tk }) :
    wpAny (model P w) A (call (.type "set") [.ref l]) Q E s := by
  obtain ⟨c, tl, hmro⟩ := F.called_set.mro
  have hmade := F.called_set.made
  have hsub := F.called_set.sub
  have h1 := F.called_set.notType
  have h2 := F.called_set.canCreate
  have hct := F.typeCall_set_1 (.ref l)
  refine wpAny_call (codeAny_of_tree ?_)
  show wpAny _ _ (callAny (.type "set") _) _ _ _
  refine wpAny_pure ⟨Code.quiet_builtin _ (by decide +kernel), codeAny_builtin F.entry_type_call ?_⟩
  rw [Around.under_plain (weight_type_call_type "set" [.ref l] []) rfl]
  repeat (any_goals (first | assumption | wp_step))
  refine codeAny_mono (code_set_led1 (.ref l) (E := E) (Q₁ := fun obj s1 => obj = .ref s.heap.objs.size ∧ s1 = { s with heap := s.heap.push (setOb w) }) ⟨rfl, rfl⟩) fun r s1 hr => ?_
  cases r with
  | error e => exact hr
  | ok fl =>
    cases fl with
    | ret obj =>
      obtain ⟨rfl, rfl⟩ := hr
      have ty0 : Shared.TypeIs { s with heap := s.heap.push (setOb w) } (.ref s.heap.objs.size) "set" := ⟨_, Heap.get?_push_size _ rfl, rfl⟩
      have hli := F.called_set.init.lookup
      have hbi := F.called_set.init.bind (.ref s.heap.objs.size)
      repeat (any_goals (first | assumption | wp_step))
      refine codeAny_mono (fill_ints (A := A.in1) (E := E) ns (by simpa using hh) hl hit hb) fun r2 s2 hr2 => ?_
      cases r2 with
      | error e => exact hr2
      | ok fl2 =>
        cases fl2 with
        | ret r =>
          obtain ⟨rfl, h', tk, c', rfl, hS', hc', hk'⟩ := hr2
          repeat (any_goals (first | assumption | wp_step))
          exact h _ _ _ hS' hc' hk'
        | _ => exact hr2.elim
    | _ => exact hr.elim
end
/-! ### sorted(set(..)) -/
def dd : List Int → List Int
  | [] => []
  | x :: xs => if x ∈ xs then dd xs else x :: dd xs
theorem mem_dd {x : Int} : ∀ {xs : List Int}, x ∈ dd xs ↔ x ∈ xs
  | [] => Iff.rfl
  | y :: ys => by
    unfold dd
    split
    · rename_i h
      rw [mem_dd, List.mem_cons]
      exact ⟨.inr, fun z => z.elim (fun e => e ▸ h) id⟩
    · rw [List.mem_cons, List.mem_cons, mem_dd]
theorem nd_dd : ∀ xs : List Int, (dd xs).Nodup
  | [] => .nil
  | y :: ys => by
    unfold dd
    split
    · exact nd_dd ys
    · rename_i h
      exact List.nodup_cons.mpr ⟨fun z => h (mem_dd.mp z), nd_dd ys⟩
/-- the members, each once, rising -/
def setS (xs : List Int) : List Int := isort (dd xs)
theorem mem_setS {x : Int} {xs : List Int} : x ∈ setS xs ↔ x ∈ xs := (isort_perm (dd xs)).mem_iff.trans mem_dd
theorem setS_lt (xs : List Int) : (setS xs).Pairwise (· < ·) := by
  have s := isort_sorted (dd xs)
  have nd := (isort_perm (dd xs)).nodup_iff.mpr (nd_dd xs)
  exact (s.and nd).imp fun ⟨a, b⟩ => by omega
theorem lt_uniq : ∀ {a b : List Int}, a.Pairwise (· < ·) → b.Pairwise (· < ·) → (∀ x, x ∈ a ↔ x ∈ b) → a = b
  | [], [], _, _, _ => rfl
  | [], y :: ys, _, _, h => by have := (h y).mpr (List.mem_cons_self ..); cases this
  | x :: xs, [], _, _, h => by have := (h x).mp (List.mem_cons_self ..); cases this
  | x :: xs, y :: ys, h1, h2, h => by
    have p1 := List.pairwise_cons.mp h1
    have p2 := List.pairwise_cons.mp h2
    have e : x = y := by
      rcases List.mem_cons.mp ((h x).mp (List.mem_cons_self ..)) with e | m
      · exact e
      · rcases List.mem_cons.mp ((h y).mpr (List.mem_cons_self ..)) with e | m2
        · exact e.symm
        · have := p2.1 x m; have := p1.1 y m2; omega
    subst e
    rw [lt_uniq p1.2 p2.2 fun z => ?_]
    constructor
    · intro hz
      rcases List.mem_cons.mp ((h z).mp (List.mem_cons_of_mem _ hz)) with e | m
      · subst e; have := p1.1 z hz; omega
      · exact m
    · intro hz
      rcases List.mem_cons.mp ((h z).mpr (List.mem_cons_of_mem _ hz)) with e | m
      · subst e; have := p2.1 z hz; omega
      · exact m
def oSortSet : T → Option T
  | .nd _ .lst xs => (intsOf xs).bind fun is => if is.length < 63 then some (.nd true .lst ((setS is).map lfI)) else none
  | _ => none
def oTupL : T → Option T
  | .nd _ .lst xs => if clns xs = true then some (.nd false .tup xs) else none
  | _ => none
def rSetInts (K : PySem.W.Frag) (w : World) : List V → Hp → VK → Prop := fun vs H Q => ∃ (l : Addr) (ns : List Int), vs = [V.ref l] ∧ SqL K H l (ns.map V.int) ∧ ns.length < 63 ∧ ∀ p c, H p = none → c ≤ ns.length → Q (.ref p) (upd H p (SetO w p (fun j => decide (j ∈ ns)) c))
theorem cr_setInts {X : Cx} (hc : X.calm = true) : CallR X (.type "set") (rSetInts X.K X.w) := by
  intro pins s σ H vs us Q I r h
  obtain ⟨l, ns, rfl, hs, hl, q⟩ := h
  rw [Vals.ref1 r]
  obtain ⟨its, rv, pl, hz⟩ := I.list hs
  refine set_ints (P := X.prog) (w := X.w) ns (I.ok.hd hc) pl.isList (by simpa using Vals.ints rv) (by unfold scanBound; omega) fun h' tk c R hcn k => ?_
  have J : Inv X pins σ (upd H s.heap.objs.size (SetO X.w s.heap.objs.size (fun j => decide (j ∈ ns)) c)) { s with heap := h', toks := tk } := I.laid k (Nat.le_refl _) (setO_new R)
  exact ⟨.ref _, _, J, rfl, q _ c (I.hok.fresh (Nat.le_refl _)) hcn⟩
def rSortSet (K : PySem.W.Frag) (w : World) : V → Hp → VK → Prop := fun x H Q => rSetInts K w [x] H fun y H2 => rSortedSet w [y] H2 Q
section
variable {K : PySem.W.Frag} {mg : Mg} {w : World}
theorem e_sortSet : Op1E K mg (rSortSet K w) oSortSet := by
  intro F H x t R u Q le r h q
  unfold oSortSet at h
  split at h
  · obtain ⟨is, e1, e2⟩ := Option.bind_eq_some_iff.mp h
    split at e2
    · rename_i hl
      cases e2
      obtain ⟨a, vs, S0, rfl, p, _, hr⟩ := r.nd_inv le
      have e0 := intsOf_some e1
      subst e0
      have e4 := reps_ints p
      subst e4
      refine ⟨a, is, rfl, SqL.of hr, hl, fun b c hb hc => ?_⟩
      have le1 : Le F (upd H b (SetO w b (fun j => decide (j ∈ is)) c)) := fun a' o e => by rw [upd_ne (ne_of_none (le _ _ e) hb)]; exact le _ _ e
      have st1 : Stp F H Emp F (upd H b (SetO w b (fun j => decide (j ∈ is)) c)) Emp := ⟨Le.refl _, fun a' o e _ => by rw [upd_ne (ne_of_none e hb)]; exact e, fun _ _ e => .inl e, fun _ z => z.elim⟩
      refine ⟨b, _, c, rfl, upd_same, by omega, fun ns p2 hp hm _ hn => ?_⟩
      have e5 : ns = setS is := lt_uniq hp (setS_lt is) fun k => by rw [hm k, decide_eq_true_iff, mem_setS]
      subst e5
      obtain ⟨g1, g2, g3⟩ := new_one (K := K) (mg := mg) (k := .lst) (o := .lst ((setS is).map V.int)) le1 hn rfl (ints_reps (setS is))
      exact q _ _ _ _ (st1.trans g1) g2 g3
    · cases e2
  · cases h
theorem e_tupL : Op1E K mg (fun x H Q => kTup K x H Q) oTupL := by
  intro F H x t R u Q le r h q
  unfold oTupL at h
  split at h
  · split at h
    · rename_i hc
      cases h
      obtain ⟨a, vs, S0, rfl, p, _, hr⟩ := r.nd_inv le
      refine .inl ⟨a, vs, rfl, SqL.of hr, fun b hb => ?_⟩
      obtain ⟨g1, g2, g3⟩ := new_tup (K := K) (mg := mg) le hb (p.clean0 hc)
      exact q _ _ _ _ g1 g2 g3
    · cases h
  · cases h
end
section
variable {X : Cx} {e : Expr} {p p2 pos pos2 : Pos} {de : DE}
theorem se_sortSet (hc : X.calm = true) (hg : Gl X "sorted") (hm : X.mg "sorted" = none) (hg2 : Gl X "set") (hm2 : X.mg "set" = none) (ha : SR X e de)
    (hs : starEach (e :: []) X.env = (false, eval e X.env) :: starEach [] X.env := by rfl) (hs2 : starEach ((.Call (.Name "set" p2) [e] [] pos2) :: []) X.env = (false, eval (.Call (.Name "set" p2) [e] [] pos2) X.env) :: starEach [] X.env := by rfl) :
    SE X (.Call (.Name "sorted" p) [.Call (.Name "set" p2) [e] [] pos2] [] pos) (o1 oSortSet de) :=
  pew (pe_callB (cr_sortedSet hc) hg hm (by decide +kernel) (pa_cons (pe_callTy (cr_setInts hc) hg2 hm2 (by decide +kernel) (pa_cons ha pa_nil hs) (by decide) (by decide) (he := hs)) pa_nil hs2) (by decide) (by decide) (he := hs2)) fun σ H Q h => by
    obtain ⟨F, env, S, t, e2, ok, hd, q⟩ := i1E (r1 := rSortSet X.K X.w) e_sortSet h
    exact ⟨F, env, S, t, e2, ok, hd, q⟩
theorem se_tupL (hg : Gl X "tuple") (hm : X.mg "tuple" = none) (ha : SR X e de) (na : starEach [e] X.env = (false, eval e X.env) :: starEach [] X.env := by rfl) : SE X (.Call (.Name "tuple" p) [e] [] pos) (o1 oTupL de) :=
  pew (pe_tupleOf hg hm ha na) fun σ H Q h => i1E (r1 := fun x H Q => kTup X.K x H Q) e_tupL h
end
end Tr


set_option Elab.async false
set_option linter.all false
set_option maxRecDepth 100000
set_option maxHeartbeats 4000000
/-! D29: a thing of one's own lent to a statement; slots that it does not write, and in which nothing is owned, stay known. -/
namespace Tr
open PySem PySem.Spec PyProof.Rows L2

def mixW (j : Nat) (W : List Nat) : List T → List T → List T
  | t0 :: ts0, t :: ts => (if j ∉ W ∧ cln t0 = true then t0 else pz t) :: mixW (j + 1) W ts0 ts
  | _, ts => ts.map pz
def ldW (i : Nat) (W : List Nat) (d : DS) : DS := fun env => match env[i]? with
  | some t => match d (env.set i (frz t)) with
    | some (r, e) => if okFl r = true then some (r, (mixW 0 W env e).set i t) else none
    | none => none
  | none => none
section
variable {K : PySem.W.Frag} {mg : Mg} {D : Ends} {σ σ' : L2.St} {H H0 H' F F' : Hp} {S S' R : AS} {W : List Nat} {env env' : List T} {r : Fl}
theorem StR.mix (ff : Le F F') : ∀ {σ' : L2.St} {e : List T} {S : AS}, StR K mg F' H' σ' e S → ∀ (j : Nat) {σ : L2.St} {env : List T} {S0 : AS}, StR K mg F H0 σ env S0 → (∀ i, j + i ∉ W → σ'[i]? = σ[i]?) →
    ∃ S2, StR K mg F H' σ' (mixW j W env e) S2 ∧ ∀ x, S2 x → S x := by
  intro σ' e S q
  induction q with
  | nil h =>
    intro j σ env S0 q0 hw
    cases env <;> exact ⟨Emp, .nil fun _ z => z, fun _ z => z.elim⟩
  | @cons s t σ1 e1 S S1 S2 q qs d hS ih =>
    intro j σ env S0 q0 hw
    cases q0 with
    | nil h =>
      obtain ⟨S3, q3, sub⟩ := StR.unf ff (.cons q qs d hS)
      exact ⟨S3, q3, sub⟩
    | @cons s0 t0 σ0 env0 _ A B p ps dp hp =>
      obtain ⟨B2, qb, hb⟩ := ih (j + 1) ps fun i n => by
        have := hw (i + 1) (by rwa [show j + (i + 1) = j + 1 + i by omega])
        simpa using this
      by_cases hc : j ∉ W ∧ cln t0 = true
      · have es : s = s0 := by
          have := hw 0 (by simpa using hc.1)
          simpa using this
        subst es
        have r0 : RepO K mg F H' s t0 Emp := by
          cases s with
          | none => exact ⟨p.1, fun _ z => z⟩
          | some v => exact Rep.stay (Le.refl _) p hc.2
        refine ⟨Cup Emp B2, ?_, fun x z => z.elim (fun z => z.elim) fun z => (hS x).mpr (.inr (hb x z))⟩
        show StR K mg F H' (s :: σ1) ((if j ∉ W ∧ cln t0 = true then t0 else pz t) :: mixW (j + 1) W env0 e1) _
        rw [if_pos hc]
        exact .cons r0 qb (fun x a _ => a.elim) fun _ => Iff.rfl
      · obtain ⟨A2, qa, ha⟩ := RepO.unf ff q
        refine ⟨Cup A2 B2, ?_, fun x z => (hS x).mpr (z.imp (ha x) (hb x))⟩
        show StR K mg F H' (s :: σ1) ((if j ∉ W ∧ cln t0 = true then t0 else pz t) :: mixW (j + 1) W env0 e1) _
        rw [if_neg hc]
        exact .cons qa qb (fun x a b => d x (ha x a) (hb x b)) fun _ => Iff.rfl
theorem ldW_imp {i : Nat} {d : DS} (hi : i ∉ W) (h : tS K mg W (ldW i W d) D σ H) : tS K mg W d D σ H := by
  obtain ⟨F, env, S, r, env', ok, hd, c⟩ := h
  unfold ldW at hd
  split at hd
  · rename_i t ht
    split at hd
    · rename_i r' e h2
      split at hd
      · rename_i hp
        cases hd
        obtain ⟨s, A, B, e1, e2, e3, e4, rest⟩ := ok.st.split ht
        have ff := frF_le (A := A) ok.le
        have hA : ∀ y, A y → (∃ o, H y = some o) ∧ F y = none := e2.dom
        have hB : ∀ y, B y → (∃ o, H y = some o) ∧ F y = none := fun y z => ok.st.dom y ((e4 y).mpr (.inr z))
        have kB : ∀ y, B y → H y = H y ∧ frF F H A y = none := fun y z => ⟨rfl, by rw [frF_out fun a => e3 y a z]; exact (hB y z).2⟩
        have r1 : RepO K mg (frF F H A) H s (frz t) Emp := by
          cases s with
          | none =>
            obtain ⟨rfl, _⟩ := e2
            exact ⟨by rw [frz], fun _ z => z⟩
          | some v => exact Rep.freeze ff.1 e2 (fun y z => frF_in z) fun _ z => z
        have s1 := rest (frF F H A) H s (frz t) Emp ff.1 kB r1 emp_dj
        rw [set_self' e1] at s1
        refine ⟨frF F H A, env.set i (frz t), Cup Emp B, r, e, ⟨ff.2, s1⟩, h2, fun F' H' S' R σ' st okk of dj => ?_⟩
        have leF : Le F F' := ff.1.trans st.ff
        have nb : ∀ y, A y → ¬ (Cup Emp B) y := fun y a z => z.elim (fun z => z.elim) fun b => e3 y a b
        have kA : ∀ y, A y → H' y = H y := fun y a => by
          obtain ⟨⟨o, h⟩, _⟩ := hA y a
          exact (st.kp y o h (nb y a)).trans h.symm
        have fA : ∀ y, A y → ∃ o, F' y = some o := fun y a => by
          obtain ⟨⟨o, h⟩, _⟩ := hA y a
          exact ⟨o, st.ff y o (by rw [frF_in a]; exact h)⟩
        obtain ⟨S2, q2, sub⟩ := StR.mix leF okk.st 0 ok.st fun i n => of.at_ i (by rwa [Nat.zero_add] at n)
        have e' : σ'[i]? = some s := (of.at_ i hi).trans e1
        have li : i < σ'.length := (List.getElem?_eq_some_iff.mp e').1
        have le2 : i < (mixW 0 W env e).length := by rw [← q2.length]; exact li
        obtain ⟨s3, A3, B3, k1, k2, k3, k4, rest3⟩ := q2.split (List.getElem?_eq_getElem le2)
        have dA : ∀ y, A y → ¬ S' y := fun y a z => by
          obtain ⟨o, h⟩ := fA y a
          have := (okk.st.dom y z).2
          rw [h] at this
          cases this
        have e2' : RepO K mg F H' s t A := e2.frame (Le.refl _) fun y a => ⟨kA y a, (hA y a).2⟩
        have hn := rest3 F H' s t A (Le.refl _) (fun y z => ⟨rfl, (q2.dom y ((k4 y).mpr (.inr z))).2⟩) e2' fun y a b => dA y a (sub y ((k4 y).mpr (.inr b)))
        rw [set_self' e'] at hn
        have leH : Le F H' := fun a o z => okk.le a o (leF a o z)
        have stp : Stp F H S F H' (Cup (Cup A B3) R) := ⟨Le.refl _, fun a o z n => st.kp a o z fun z => n ((e4 a).mpr (.inr (z.elim (fun z => z.elim) id))), fun _ _ z => .inl z, fun a z => by
          rcases z with (z | z) | z
          · exact .inl ((e4 a).mpr (.inl z))
          · exact (st.no a (.inl (sub a ((k4 a).mpr (.inr z))))).imp (fun z => (e4 a).mpr (.inr (z.elim (fun z => z.elim) id))) id
          · exact (st.no a (.inr z)).imp (fun z => (e4 a).mpr (.inr (z.elim (fun z => z.elim) id))) id⟩
        have dj2 : Dj (Cup A B3) R := fun y z w => z.elim (fun a => (st.no y (.inr w)).elim (nb y a) fun z => by
          obtain ⟨⟨o, h⟩, _⟩ := hA y a
          rw [h] at z
          cases z) fun b => dj y (sub y ((k4 y).mpr (.inr b))) w
        have fn := c F H' (Cup A B3) R σ' stp ⟨leH, hn⟩ of dj2
        cases r with
        | nx => exact fn
        | bk => exact fn
        | ct => exact fn
        | rt t2 => exact fun v rv => fn v (rv.unfreeze leF hp)
      · cases hd
    · cases hd
  · cases hd
end
theorem SS.ldW {X : Cx} {st : Stmt} {W : List Nat} {d : DS} {i : Nat} (hi : i ∉ W) (h : SS X st W d) : SS X st W (Tr.ldW i W d) := psw h fun _ _ _ => ldW_imp hi
end Tr


set_option Elab.async false
set_option linter.all false
set_option maxRecDepth 100000
set_option maxHeartbeats 4000000
/-! D30: what an expression hands out is changed, and dropped. -/
namespace Tr
open PySem PySem.Spec PyProof.Rows L2

def dMutT (ty : String) (d : DE) (op : T → List T → Option (T × T)) (da : DV) : DE := fun env => (d env).bind fun p => (da p.2).bind fun u => if isTy ty p.1 = true ∧ cln u = true then (op p.1 [u]).map fun q => (q.1, p.2) else none
section
variable {K : PySem.W.Frag} {mg : Mg} {σ : L2.St} {H : Hp}
theorem mutT_imp {ty : String} {d : DE} {da : DV} {r : V → List V → Hp → VK → Prop} {op : T → List T → Option (T × T)} {Q : VK} (ho : OpM K mg r op) (h : tE K mg (dMutT ty d op da) σ H Q) : tBM K ty r (tE K mg d) (tCons (tV K mg da) tNil) σ H Q := by
  obtain ⟨F, env, S, res, e, ok, hd, q⟩ := h
  obtain ⟨⟨t, e1⟩, h1, h2⟩ := Option.bind_eq_some_iff.mp hd
  obtain ⟨u, h3, h4⟩ := Option.bind_eq_some_iff.mp h2
  split at h4
  · rename_i hi
    obtain ⟨⟨r', t'⟩, h5, h6⟩ := Option.map_eq_some_iff.mp h4
    cases h6
    refine ⟨F, env, S, t, e1, ok, h1, fun v F1 H1 S1 R st ok1 rv dj => ⟨isTy_ok ok1.le rv hi.1, F1, e1, S1, u, ok1, h3, fun w Rw rw' => ?_⟩⟩
    refine ho F1 H1 v t R [w] [u] Emp r' t' Q ok1.le rv (.cons (S1 := Emp) (S2 := Emp) (rw'.clean0 hi.2) (.nil fun _ z => z) (fun _ z => z.elim) fun _ => ⟨.inl, fun z => z.elim id id⟩) (fun _ _ z => z.elim) h5 fun w' H' A' Rv stm le' rx' rw2 dj' => ?_
    have djB : Dj (Cup R Emp) S1 := fun y a b => a.elim (fun a => dj y b a) fun a => a.elim
    have kB := stm.keeps (R := S1) (fun y z => ok1.st.dom y z) djB
    have djB' : Dj (Cup A' Rv) S1 := stm.dj (fun y z => (ok1.st.dom y z).1) djB
    have hn := ok1.st.frame (Le.refl _) kB
    refine q w' F1 H' S1 Rv ?_ ⟨le', hn⟩ rw2 fun y a b => djB' y (.inr b) a
    have b1 := stm.frame S1
    have b2 : Stp F1 H1 (Cup S1 R) F1 H' (Cup (Cup A' Rv) S1) := b1.big fun y z => z.elim (fun z => z.elim .inr fun z => z.elim) .inl
    exact (st.trans b2).weak fun y z => z.elim .inr fun z => .inl (.inr z)
  · cases h4
end
section
variable {X : Cx} {e o : Expr} {name : Str} {ty id : String} {apos cpos : Pos} {r : V → List V → Hp → VK → Prop} {op : T → List T → Option (T × T)} {d : DE} {dv : DV}
theorem se_mutT (pa : PlainAttrs ty) (slot : Slot ty name id) (hty : typeOf (.builtin id) = pure (.type "method_descriptor")) (hm : MtR X id r) (ho : OpM X.K X.mg r op) (hp : SE X o d) (ha : SV X e dv)
    (hbase : attributeBase o name X.env (eval o X.env) = eval o X.env := by rfl)
    (hfew : ((backTo cpos (starEach (e :: []) X.env)).all (fun y => !y.1) && (backToKw cpos (keywordEach [] X.env)).all (fun y => y.1.isSome) && decide ((e :: []).length + ([] : List Keyword).length + (if ([] : List Keyword).isEmpty then 0 else 1) < 30)) = true := by rfl)
    (hline : (apos.endLine == cpos.line) = true := by rfl) (hs : starEach (e :: []) X.env = (false, eval e X.env) :: starEach [] X.env := by rfl) (hplain : (backTo cpos (starEach [] X.env)).any (·.1) = false := by rfl) :
    SE X (.Call (.Attribute o name apos) [e] [] cpos) (dMutT ty d op dv) := pew (pe_bm pa slot hty hm hp (pa_cons ha pa_nil hs) hbase hfew hline hs hplain) fun _ _ _ h => mutT_imp ho h
end
end Tr


set_option Elab.async false
set_option linter.all false
set_option maxRecDepth 100000
set_option maxHeartbeats 4000000
/-! D31: a text split at a text. -/
namespace Tr
open PySem PySem.Spec PyProof.Rows L2

def oSplit (a b : Str) : Option T := if (b.length == 0) = false ∧ a.length + 2 ≤ sizeLine then some (.nd true .lst ((Txt.split a b).map fun z => T.lf (.str z))) else none
def dSplit (vo ve : DV) : DE := fun env => match vo env, ve env with
  | some (.lf (.str a)), some (.lf (.str b)) => (oSplit a b).map fun u => (u, env)
  | _, _ => none
theorem se_split {X : Cx} {o e : Expr} {apos pos : Pos} {vo ve : DV} (ho : SV X o vo) (he : SV X e ve) (hs : starEach [e] X.env = [(false, eval e X.env)] := by rfl) (hbase : attributeBase o "split" X.env (eval o X.env) = eval o X.env := by rfl) (hline : (apos.endLine == pos.line) = true := by rfl) :
    SE X (.Call (.Attribute o "split" apos) [e] [] pos) (dSplit vo ve) := pew (pe_split ho he hs hbase hline) fun σ H Q h => by
  obtain ⟨F, env, S, t, env', ok, hd, q⟩ := h
  unfold dSplit at hd
  split at hd
  · rename_i a b hv hw
    obtain ⟨u, h3, h4⟩ := Option.map_eq_some_iff.mp hd
    cases h4
    unfold oSplit at h3
    split at h3
    · rename_i c
      cases h3
      refine ⟨F, env, S, _, ok, hv, fun v R r => ⟨⟨a, r.lf_inv.1⟩, F, env, S, _, ok, hw, fun w R' r' => ⟨a, b, r.lf_inv.1, by rw [r'.lf_inv.1], c.1, c.2, fun p hp => ?_⟩⟩⟩
      obtain ⟨g1, g2, g3⟩ := new_one (K := X.K) (mg := X.mg) (k := .lst) (o := .lst ((Txt.split a b).map V.str)) ok.le hp rfl (strs_reps (Txt.split a b))
      have kB := g1.keeps (R := S) (fun y z => ok.st.dom y z) (fun _ z => z.elim)
      have djB := g1.dj (R := S) (fun y z => (ok.st.dom y z).1) (fun _ z => z.elim)
      have hn := ok.st.frame (Le.refl _) kB
      refine q _ _ _ S _ ?_ ⟨g2, hn⟩ g3 (fun y a b => djB y b a)
      exact ((g1.frame S).big fun y z => z.elim (fun z => z.elim) id).weak fun y z => z.elim .inr .inl
    · cases h3
  · cases hd
end Tr


set_option Elab.async false
set_option linter.all false
set_option maxRecDepth 100000
set_option maxHeartbeats 4000000
/-! D32: what is raised: statements and defs that end so; a try that catches. -/
namespace Tr
open PySem PySem.Spec PyProof.Rows L2

/-- the class of what is raised, the slots behind -/
abbrev DX := List T → Option (Str × List T)
/-- a def's -/
abbrev FX := List T → Option Str
section
variable (K : PySem.W.Frag) (mg : Mg)
def tSX (Wr : List Nat) (W : WX) (d : DX) : TS := fun _ σ H => ∃ F env S c C env', Ok K mg F H σ env S ∧ d env = some (c, env') ∧ mg c = some (.ref C) ∧
  ∀ F' H' S' σ', Stp F H S F' H' S' → Ok K mg F' H' σ' env' S' → Off Wr σ σ' → W (.ref C) none σ' H'
def tEX (W : WX) (d : DX) : TE := fun σ H _ => ∃ F env S c C env', Ok K mg F H σ env S ∧ d env = some (c, env') ∧ mg c = some (.ref C) ∧
  ∀ F' H' S', Stp F H S F' H' S' → Ok K mg F' H' σ env' S' → W (.ref C) none σ H'
def tAX (W : WX) (d : DX) : TA := fun σ H _ => ∃ F env S c C env', Ok K mg F H σ env S ∧ d env = some (c, env') ∧ mg c = some (.ref C) ∧
  ∀ F' H' S', Stp F H S F' H' S' → Ok K mg F' H' σ env' S' → W (.ref C) none σ H'
def spX (n : Nat) (f : FX) : Sp := fun vs H _ E => vs.length = n ∧ ∃ F S ts c C, Le F H ∧ Reps K mg F H vs ts S ∧ f ts = some c ∧ mg c = some (.ref C) ∧
  ∀ F' H', Stp F H S F' H' Emp → Le F' H' → E (.ref C) none H'
end
def SX (X : Cx) (st : Stmt) (Wr : List Nat) (W : WX) (d : DX) : Prop := PS X st (tSX X.K X.mg Wr W d)
def SXs (X : Cx) (st : List Stmt) (Wr : List Nat) (W : WX) (d : DX) : Prop := PSs X st (tSX X.K X.mg Wr W d)
def EX (X : Cx) (e : Expr) (W : WX) (d : DX) : Prop := PE X e (tEX X.K X.mg W d)
def AX (X : Cx) (es : List Expr) (W : WX) (d : DX) : Prop := PA X es (tAX X.K X.mg W d)

def xRz (c : Str) : DX := fun env => some (c, env)
def xNo : DX := fun _ => none
def xSeq (a : DS) (ax bx : DX) : DX := fun env => match a env with
  | some (.nx, e) => bx e
  | some _ => none
  | none => ax env
def xIf (c : DE) (a b : DX) : DX := fun env => match c env with
  | some (.lf (.bl true), e) => a e
  | some (.lf (.bl false), e) => b e
  | _ => none
def xCall (g : FX) (dv : List V) (da : DA) : DX := fun env => (da env).bind fun p => (g (p.1 ++ dv.map .lf)).map fun c => (c, p.2)
/-- the first one raises, or a later one -/
def xHd (d : DX) : DX := d
def xTl (d : DE) (dx : DX) : DX := fun env => (d env).bind fun p => dx p.2
def dFrX (dg : DG) (d : DS) (dx : DX) : List T → DX
  | [], _ => none
  | t :: ts, env => match dg t env with
    | some e => match d e with
      | some (.nx, e2) => dFrX dg d dx ts e2
      | some (.ct, e2) => dFrX dg d dx ts e2
      | some _ => none
      | none => dx e
    | none => none
def xFor (di : DI) (dg : DG) (d : DS) (dx : DX) : DX := fun env => (di env).bind fun p => dFrX dg d dx p.1 p.2
def dFunX (keep : List Bool) (n : Nat) (d : DX) : FX := fun ts => if ts.length = keep.length then (d (ts ++ List.replicate (n - keep.length) .no)).map (·.1) else none
def XLen (f : FX) (n : Nat) : Prop := ∀ ts c, f ts = some c → ts.length = n
theorem dFunX_len {keep : List Bool} {n : Nat} {d : DX} {m : Nat} (h : keep.length = m) : XLen (dFunX keep n d) m := fun ts c e => by
  unfold dFunX at e
  split at e
  · rw [← h]; assumption
  · cases e
section
variable {X : Cx} {W : WX} {st : Stmt} {sts xs ys : List Stmt} {Wr W1 W2 : List Nat} {a : DS} {ax bx dx : DX} {e c : Expr} {d : DE} {pos pos' : Pos} {x : Str}
theorem xs_no : SX X st Wr W xNo := psw ps_never fun D σ H ⟨F, env, S, c, C, e, ok, h, _⟩ => by cases h
theorem xss_no : SXs X sts Wr W xNo := ⟨fun pins s σ H D I ⟨F, env, S, c, C, e, ok, h, _⟩ => by cases h⟩
theorem ex_no : EX X e W xNo := ⟨fun pins s σ H Q I ⟨F, env, S, c, C, e, ok, h, _⟩ => by cases h⟩
theorem xs_mono (h : SX X st W1 W dx) (k : ∀ i, i ∈ W1 → i ∈ W2) : SX X st W2 W dx := psw h fun D σ H ⟨F, env, S, c, C, e, ok, h, m, q⟩ =>
  ⟨F, env, S, c, C, e, ok, h, m, fun F' H' S' σ' st ok of => q F' H' S' σ' st ok (of.mono k)⟩
theorem xss_one (h : SX X st Wr W dx) : SXs X [st] Wr W dx := pss_one h
theorem xss_cons (h1 : SS X st W1 a) (h1x : SX X st W1 W ax) (h2 : SXs X sts W2 W bx) : SXs X (st :: sts) (W1 ++ W2) W (xSeq a ax bx) := ⟨fun pins s σ H D I ⟨F, env, S, c, C, env', ok, h, m, q⟩ => by
  unfold xSeq at h
  split at h
  · rename_i e1 h3
    refine (pss_cons h1 h2).run pins s σ H D I ⟨F, env, S, .nx, e1, ok, h3, fun F1 H1 S1 R1 σ1 st1 ok1 of1 dj1 => ?_⟩
    exact ⟨F1, e1, S1, c, C, env', ok1, h, m, fun F' H' S' σ' st' ok' of' => q F' H' S' σ' ((st1.weak fun _ z => .inl z).trans st') ok' ((of1.mono fun i z => List.mem_append_left _ z).trans (of'.mono fun i z => List.mem_append_right _ z))⟩
  · cases h
  · refine (pss_cons h1x h2).run pins s σ H D I ⟨F, env, S, c, C, env', ok, h, m, fun F' H' S' σ' st' ok' of' => q F' H' S' σ' st' ok' (of'.mono fun i z => List.mem_append_left _ z)⟩⟩
theorem xs_if {b b2 : DX} (hc : ST X c d) (h1 : SXs X xs W1 W b) (h2 : SXs X ys W2 W b2) : SX X (.If c xs ys pos) (W1 ++ W2) W (xIf d b b2) := psw (ps_if hc h1 h2) fun D σ H ⟨F, env, S, c, C, env', ok, h, m, q⟩ => by
  unfold xIf at h
  split at h
  · rename_i e1 h3
    refine ⟨F, env, S, _, e1, ok, h3, fun v F1 H1 S1 R1 st1 ok1 r1 => ⟨true, r1.lf_inv.1, ?_⟩⟩
    refine iteT ?_
    exact ⟨F1, e1, S1, c, C, env', ok1, h, m, fun F' H' S' σ' st' ok' of' => q F' H' S' σ' (st1.trans st') ok' (of'.mono fun i z => List.mem_append_left _ z)⟩
  · rename_i e1 h3
    refine ⟨F, env, S, _, e1, ok, h3, fun v F1 H1 S1 R1 st1 ok1 r1 => ⟨false, r1.lf_inv.1, ?_⟩⟩
    refine iteF ?_
    exact ⟨F1, e1, S1, c, C, env', ok1, h, m, fun F' H' S' σ' st' ok' of' => q F' H' S' σ' (st1.trans st') ok' (of'.mono fun i z => List.mem_append_right _ z)⟩
  · cases h
theorem ex_s {K : PySem.W.Frag} {mg : Mg} {σ : L2.St} {H : Hp} {D : Ends} {Q : VK} (h : tSX K mg Wr W dx D σ H) : tEX K mg W dx σ H Q := by
  obtain ⟨F, env, S, c, C, env', ok, h, m, q⟩ := h
  exact ⟨F, env, S, c, C, env', ok, h, m, fun F' H' S' st ok' => q F' H' S' σ st ok' .refl⟩
theorem xs_ret (he : EX X e W dx) : SX X (.Return (some e) pos) Wr W dx := psw (ps_ret he) fun _ _ _ => ex_s
theorem xs_ex (he : EX X e W dx) (hs : swapsWith e none pos.line X.env = pure false := by rfl) : SX X (.Expr e pos) Wr W dx := psw (ps_expr he hs) fun _ _ _ => ex_s
theorem xs_set {i : Nat} (hN : X.N.Nodup) (hi : X.N[i]? = some x) (hx : Loc X.env.scope x) (he : EX X e W dx) (hs : swapsWith e (some (.Name x pos')) pos.line X.env = pure false := by rfl) (hf : X.fn x = true ∨ X.env.scope.names.lookup x = some .local := by first | exact .inl rfl | exact .inr rfl | assumption) :
    SX X (.Assign [.Name x pos'] e pos) Wr W dx := psw (ps_set hN hi hx he hs hf) fun _ _ _ => ex_s
theorem xs_asg {tg : Expr} {dg : DG} (he : EX X e W dx) (hg : SG X tg W1 dg) (hs : swapsWithSole [tg] e pos.line X.env = pure false := by rfl) (hw : swappedStores [tg] e X.env = pure none := by rfl)
    (h1 : (assignEach [tg] X.env).map (·.2) = [assign tg X.env] := by rfl) : SX X (.Assign [tg] e pos) Wr W dx := psw (ps_asg he hg hs hw h1) fun _ _ _ => ex_s
/-- raise c('..') -/
theorem xs_raise {C : Addr} {bmB : List Value} {B newId initId : String} {m : Str} {j : Nat} {p p2 pos2 : Pos} (hc : X.calm = true) (tk : Takes X W) (F : ExcBaseFacts B newId initId bmB) (q : PySem.W.excIn X.K C bmB newId = true) (gC : X.mg x = some (.ref C)) (kC : PySem.W.keepIn X.K (.ref C) = true) (r : Raises X (.ref C)) (hg : Gl X x)
    (hdb : (x == ("__debug__" : Str)) = false := by decide) : SX X (.Raise (some (.Call (.Name x p) [.Constant (.str m) j p2] [] pos)) none pos2) Wr W (xRz x) :=
  psw (ps_raise hc tk (pmk_own F q gC kC r hg hdb)) fun D σ H ⟨F, env, S, c, C', env', ok, h, m, q⟩ => by
    cases h
    rw [gC] at m
    cases m
    exact q F H S σ .refl ok .refl
/-- a call that raises -/
theorem ex_call {f : Addr} {fd : FuncData} {ps : List Str} {k n : Nat} {g : FX} {es : List Expr} {bs : List (Option Nat)} {da : DA} {p : Pos} (tk : Takes X W) (F : FnOk X.prog X.w X.K X.mg X.base (L2.CX X.prog X.w) k f fd ps (spX X.K X.mg n g)) (hn : XLen g n) (hr : Room k X.A) (hg : Gl X x) (hm : X.mg x = some (.ref f)) (hk : PySem.W.keepIn X.K (.ref f) = true) (hb : Binds X.K fd ps []) (ha : SA X (e :: es) bs da)
    (hdb : (x == ("__debug__" : Str)) = false := by decide) (he : starEach (e :: es) X.env = (false, eval e X.env) :: starEach es X.env := by rfl) (hpl : (backTo pos (starEach es X.env)).any (·.1) = false := by rfl) :
    EX X (.Call (.Name x p) (e :: es) [] pos) W (xCall g [] da) := pew (pe_callS F hr hg hm hk hb (fun σ => passAt tk σ) ha hdb he hpl) fun σ H Q ⟨F, env, S, c, C, env', ok, h, m, q⟩ => by
  obtain ⟨⟨ts, e1⟩, h1, h2⟩ := Option.bind_eq_some_iff.mp h
  obtain ⟨c', h3, h4⟩ := Option.map_eq_some_iff.mp h2
  cases h4
  rw [List.map_nil, List.append_nil] at h3
  refine ⟨F, env, S, ts, e1, ok, h1, fun vs F1 H1 S1 R st ok1 r dj bo => ⟨(r.length (S := Emp)).trans (hn _ _ h3), F1, R, ts, _, C, ok1.le, r, h3, m, fun F' H' st2 le2 => ?_⟩⟩
  exact q F' H' S1 ((st.trans (st2.frameL S1)).weak fun x z => .inl z) (ok1.keep st2 dj.symm le2)
/-- arguments that raise -/
theorem ax_hd {es : List Expr} {t : TA} (ha : EX X e W dx) (hr : PA X es t) (hs : starEach (e :: es) X.env = (false, eval e X.env) :: starEach es X.env := by rfl) : AX X (e :: es) W dx :=
  paw (pa_cons ha hr hs) fun σ H Q h => h
theorem ax_tl {es : List Expr} (ha : SE X e d) (hr : AX X es W dx) (hs : starEach (e :: es) X.env = (false, eval e X.env) :: starEach es X.env := by rfl) : AX X (e :: es) W (xTl d dx) :=
  paw (pa_cons ha hr hs) fun σ H Q ⟨F, env, S, c, C, env', ok, h, m, q⟩ => by
    obtain ⟨⟨t, e1⟩, h1, h2⟩ := Option.bind_eq_some_iff.mp h
    exact ⟨F, env, S, t, e1, ok, h1, fun v F1 H1 S1 R1 st ok1 r dj => ⟨F1, e1, S1, c, C, env', ok1, h2, m, fun F' H' S' st' ok' => q F' H' S' ((st.weak fun _ z => .inl z).trans st') ok'⟩⟩
theorem ex_tup {es : List Expr} {k : Nat} (h : AX X es W dx) : EX X (.Tuple es k pos) W dx := pew (pe_tup h) fun σ H Q h => h
theorem ex_lst {es : List Expr} (h : AX X es W dx) : EX X (.List es pos) W dx := pew (pe_lst h) fun σ H Q h => h
end
section
variable {K : PySem.W.Frag} {mg : Mg} {D : Ends} {σ σ' : L2.St} {H H' F F' : Hp} {S S' R : AS} {W : WX} {W1 W2 : List Nat} {env env' : List T} {c : Str} {C : Addr}
def tOrX (K : PySem.W.Frag) (mg : Mg) (Wr : List Nat) (W : WX) (d : DS) (dx : DX) : TS := fun D σ H => tS K mg Wr d D σ H ∨ tSX K mg Wr W dx D σ H
theorem forX_core {dg : DG} {d : DS} {dx : DX} {its : List T} {J : It} {F0 H0 : Hp} {S0 : AS} {σ0 : L2.St} {e0 : List T} (hG : Good K mg its J F0 H0 S0) (ok0 : Ok K mg F0 H0 σ0 e0 S0) (hd0 : dFrX dg d dx its e0 = some (c, env')) (m0 : mg c = some (.ref C))
    (c0 : ∀ F' H' S' σ', Stp F0 H0 S0 F' H' S' → Ok K mg F' H' σ' env' S' → Off (W1 ++ W2) σ0 σ' → W (.ref C) none σ' H') :
    ∃ Wi : Nat → Nat → L2.St → Hp → Prop, (∃ m, Wi 0 m σ0 H0) ∧ ∀ i m σ H, Wi i m σ H →
      (J.stop i H ∧ D.nx σ H) ∨ (J.go i H ∧ ∃ N : L2.St → Hp → Prop, (∀ σ' H', N σ' H' → ∃ m', m' < m ∧ Wi (i + 1) m' σ' H') ∧ ∀ x H', J.yld i H x H' → tG K mg W1 dg x σ H' fun σ2 H2 => tOrX K mg W2 W d dx { D with nx := N, ct := N, bk := D.nx } σ2 H2) := by
  refine ⟨fun i m σ H => m = its.length - i ∧ i ≤ its.length ∧ ∃ F env S, Stp F0 H0 S0 F H S ∧ Ok K mg F H σ env S ∧ dFrX dg d dx (its.drop i) env = some (c, env') ∧ Off (W1 ++ W2) σ0 σ, ⟨its.length, rfl, Nat.zero_le _, F0, e0, S0, .refl, ok0, hd0, .refl⟩, ?_⟩
  rintro i m σ H ⟨rfl, hi, F, env, S, st, ok, hd, of⟩
  obtain ⟨g1, g2⟩ := hG i F H S st ok.le
  by_cases hlt : i < its.length
  · obtain ⟨go, yl⟩ := g1 _ (List.getElem?_eq_getElem hlt)
    rw [List.drop_eq_getElem_cons hlt, dFrX] at hd
    refine .inr ⟨go, fun σ' H' => ∃ F env S, Stp F0 H0 S0 F H' S ∧ Ok K mg F H' σ' env S ∧ dFrX dg d dx (its.drop (i + 1)) env = some (c, env') ∧ Off (W1 ++ W2) σ0 σ', fun σ' H' z => ⟨its.length - (i + 1), by omega, rfl, hlt, z⟩, fun x H3 y => ?_⟩
    obtain ⟨F3, st3, le3, r3⟩ := yl x H3 y
    have ok3 := ok.keep st3 emp_dj le3
    have a0 : Stp F H (Cup Emp S) F3 H3 (Cup Emp S) := st3.frame S
    have st3' : Stp F H S F3 H3 S := (a0.big (R := S) fun z u => Or.elim u (fun u => False.elim u) id).weak fun z u => Or.inr u
    split at hd
    · rename_i e h1
      refine ⟨F3, env, S, Emp, its[i], e, ok3, r3, dj_emp, h1, fun σ1 S1 ok1 sub1 of1 => ?_⟩
      have st4 : Stp F H S F3 H3 (Cup S1 Emp) := st3'.weak fun z u => u.elim (fun u => (sub1 z u).elim id fun u => u.elim) fun u => u.elim
      have st5 : Stp F0 H0 S0 F3 H3 S1 := st.trans (st4.weak fun _ z => .inl z)
      have of5 := of.trans (of1.mono fun i z => List.mem_append_left W2 z)
      split at hd
      · rename_i e2 h2
        refine .inl ⟨F3, e, S1, .nx, e2, ok1, h2, fun F2 H2 S2 R2 σ2 st2 ok2 of2 dj2 => ?_⟩
        exact ⟨F2, e2, S2, st5.trans (st2.weak fun _ z => .inl z), ok2, hd, of5.trans (of2.mono fun i z => List.mem_append_right _ z)⟩
      · rename_i e2 h2
        refine .inl ⟨F3, e, S1, .ct, e2, ok1, h2, fun F2 H2 S2 R2 σ2 st2 ok2 of2 dj2 => ?_⟩
        exact ⟨F2, e2, S2, st5.trans (st2.weak fun _ z => .inl z), ok2, hd, of5.trans (of2.mono fun i z => List.mem_append_right _ z)⟩
      · cases hd
      · refine .inr ⟨F3, e, S1, c, C, env', ok1, hd, m0, fun F' H' S' σ' st' ok' of' => c0 F' H' S' σ' (st5.trans st') ok' (of5.trans (of'.mono fun i z => List.mem_append_right _ z))⟩
    · cases hd
  · have e : i = its.length := by omega
    subst e
    rw [List.drop_length] at hd
    cases hd
theorem orx {X : Cx} {sts : List Stmt} {Wr : List Nat} {d : DS} {dx : DX} (h : SSs X sts Wr d) (k : SXs X sts Wr W dx) : PSs X sts (tOrX X.K X.mg Wr W d dx) := ⟨fun pins s σ H D I q => q.elim (h.run pins s σ H D I) (k.run pins s σ H D I)⟩
theorem xs_for {X : Cx} {tg iter : Expr} {body : List Stmt} {di : DI} {dg : DG} {d : DS} {dx : DX} {pos : Pos} (hp : PassesOwn (model X.prog X.w) X.A X.env X.xe) (hc : X.calm = true) (hi : SI X tg iter di) (hg : SG X tg W1 dg) (hb : SSs X body W2 d) (hx : SXs X body W2 W dx)
    (hs : ∀ x, foldedSetIterable iter X.env x = pure x := by intro _; rfl) : SX X (.For tg iter body [] pos) (W1 ++ W2) W (xFor di dg d dx) := psw (ps_for hp hc hi hg (orx hb hx) hs) fun D σ H ⟨F, env, S, c, C, env', ok, h, m, q⟩ => by
  obtain ⟨⟨its, e⟩, h1, h2⟩ := Option.bind_eq_some_iff.mp h
  exact ⟨F, env, S, its, e, ok, h1, fun J F1 H1 S1 st1 ok1 g1 => forX_core g1 ok1 h2 m fun F' H' S' σ' st' ok' of' => q F' H' S' σ' (st1.trans st') ok' of'⟩
end
section
variable {P : Program} {w : World} {K : PySem.W.Frag} {mg : Mg} {base : Heap}
theorem xdef_end {n : Nat} {N ps : List Str} {Wr : List Nat} {d : DX} {keep : List Bool} {vs : List V} {H : Hp} {Q : VK} {E : XK} {D : Ends} (hk : keep.length = ps.length) (hN : N.length = n) (h : spX K mg ps.length (dFunX keep n d) vs H Q E) :
    tSX K mg Wr (fun cls d _ H => E cls d H) d D (L2.start N vs) H := by
  obtain ⟨hl, F0, S0, ts, c, C, le, rp, hf, m, q⟩ := h
  have hln : N.length - vs.length = n - keep.length := by rw [hN, hl, hk]
  have hst : StR K mg F0 H (L2.start N vs) (ts ++ List.replicate (n - keep.length) .no) S0 := by
    unfold L2.start
    rw [hln]
    exact start_rep rp
  unfold dFunX at hf
  split at hf
  · obtain ⟨⟨c', e⟩, h1, h2⟩ := Option.map_eq_some_iff.mp hf
    cases h2
    exact ⟨F0, _, S0, _, C, e, ⟨le, hst⟩, h1, m, fun F' H' S' σ' st ok of => q F' H' (st.weak fun _ z => z.elim) ok.le⟩
  · cases hf
theorem okx_def {n : Nat} {x qual : Str} {st : Stmt} {f : Addr} {fd : FuncData} {N ps : List Str} {k : Nat} {Wr : List Nat} {d : DX} {keep : List Bool} (F : Fun K x qual st f fd) (S : FnScope N ps (defScope st)) (hk : keep.length = ps.length) (hN : N.length = n)
    (hb : ∀ (cdv : Value) (A : Around) (outer : List Env) (s : Shared) (H : Hp) (E : XK), Room k (A.deeper (envOfC qual (defScope st) s.heap.objs.size f cdv)) →
      SXs (cxOf (L2.CX P w) P w K mg base N qual (defScope st) f cdv A outer s H E) (defBody st) Wr (fun cls d _ H => E cls d H) d) : FnOk P w K mg base (L2.CX P w) (k + 1) f fd ps (spX K mg ps.length (dFunX keep n d)) := by
  refine F.okX S (fun vs H Q E h => h.1) (fun cdv A outer s H vs Q E hr h => ?_)
  exact ⟨_, hb cdv A outer s H E hr, xdef_end hk hN h⟩
end

/-! ### try: .. except C as e: a suite that answers by e's class alone -/
/-- the suite answers v -/
def tRt (i : Nat) (a : Addr) (v : V) : TS := fun D σ H => σ[i]? = some (some (.ref a)) ∧ ∀ H', (∀ b o, H b = some o → H' b = some o) → D.rt v H'
def dTry (i : Nat) (sx : Str → Option V) (d : DS) (dx : DX) : DS := fun env => match d env with
  | some (r, e) => some (r, e)
  | none => match dx env with
    | some (c, e) => match sx c with
      | some v => if i < e.length ∧ sc v = true then some (.rt (.lf v), e.set i .no) else none
      | none => none
    | none => none
theorem ss_try {X : Cx} {x n : Str} {cs : Value} {i : Nat} {body suite : List Stmt} {b₀ : Stmt} {np pos pos' : Pos} {Wr : List Nat} {sx : Str → Option V} {d : DS} {dx : DX} (hs : X.stack = X.env :: X.outer) (hf : X.env.frame = some X.env.locals) (hN : X.N.Nodup) (hi : X.N[i]? = some n) (hln : X.env.kindOf n = some .local) (hc : Names X x cs)
    (hb : ∀ (pn : List (Addr × Obj)) (xe : Value → Shared → Prop), PassesOwn (model X.prog X.w) X.A X.env xe → SSs (X.tr pn xe) body Wr d)
    (hx : ∀ (W : WX) (pn : List (Addr × Obj)) (xe : Value → Shared → Prop), Takes (X.tr pn xe) W → PassesOwn (model X.prog X.w) X.A X.env xe → SXs (X.tr pn xe) body Wr W dx)
    (hsu : ∀ (c : Str) (v : V), sx c = some v → ∃ C : Addr, X.mg c = some (.ref C) ∧ PySem.W.exmOne X.K (.ref C) cs = some true ∧
      ∀ (a : Addr) (oe : Obj) (pn : List (Addr × Obj)), Zc (.ref C) none oe → (∃ vs, oe.data = .fields vs) → PSs (X.suite a ((a, oe) :: pn)) (b₀ :: suite) (tRt i a v)) :
    SS X (.Try body [.ExceptHandler (some (.Name x np)) (some n) (b₀ :: suite) pos'] [] [] pos) (i :: Wr) (dTry i sx d dx) := by
  refine psw (ps_try_as (tb := fun W => tOrX X.K X.mg Wr W d dx) (ts := fun a cls dd => fun D σ H => ∃ c C v, cls = .ref C ∧ dd = none ∧ X.mg c = some (.ref C) ∧ sx c = some v ∧ tRt i a v D σ H) (Wout := fun _ _ _ _ => False) hs hf hN hi hln hc takes0 (fun W pn xe tk hp => orx (hb pn xe hp) (hx W pn xe tk hp)) fun a oe cls dd pn hz hv => ?_) fun D σ H h => ?_
  · refine ⟨fun pins s σ H D I ⟨c, C, v, e1, e2, m, hv', q⟩ => ?_⟩
    subst e1 e2
    obtain ⟨C', m', _, k⟩ := hsu c v hv'
    rw [m] at m'
    cases m'
    exact (k a oe pn hz hv).run pins s σ H D I q
  · obtain ⟨F, env, S, r, env', ok, hd, q⟩ := h
    unfold dTry at hd
    split at hd
    · rename_i r' e' h1
      cases hd
      exact .inl ⟨F, env, S, _, _, ok, h1, q.sub fun i z => List.mem_cons_of_mem _ z⟩
    · split at hd
      · rename_i c e h1
        split at hd
        · rename_i v h2
          split at hd
          · rename_i h3
            cases hd
            obtain ⟨C, m, ex, _⟩ := hsu c v h2
            refine .inr ⟨F, env, S, c, C, e, ok, h1, m, fun F1 H1 S1 σ1 st1 ok1 of1 => ⟨true, ex, fun _ a na => ⟨c, C, v, rfl, rfl, m, h2, ?_, fun H' kp => ?_⟩, fun z => by cases z⟩⟩
            · rw [List.getElem?_set_self (by rw [ok1.st.length]; exact h3.1)]
            · obtain ⟨s, A, B, e1, e2, e3, e4, rest⟩ := ok1.st.split (List.getElem?_eq_getElem h3.1)
              have fd := fun y z => (ok1.st.dom y ((e4 y).mpr (.inr z))).2
              have hB : ∀ y, B y → H' y = H1 y ∧ F1 y = none := fun y z => by
                obtain ⟨⟨o, eo⟩, en⟩ := ok1.st.dom y ((e4 y).mpr (.inr z))
                exact ⟨(kp y o eo).trans eo.symm, en⟩
              have ok2 : Ok X.K X.mg F1 H' (σ1.set i (some (.ref a))) (e.set i .no) (Cup Emp B) := ⟨fun y o z => kp y o (ok1.le y o z), rest F1 H' (some (.ref a)) .no Emp (Le.refl _) hB (.no fun _ z => z) emp_dj⟩
              have st2 : Stp F1 H1 S1 F1 H' (Cup Emp B) := ⟨Le.refl _, fun b o z _ => kp b o z, fun _ _ z => .inl z, fun y z => .inl ((e4 y).mpr (.inr (z.elim (fun z => z.elim) id)))⟩
              have of2 : Off (i :: Wr) σ1 (σ1.set i (some (.ref a))) := (Off.set (σ := σ1) (i := i) (v := some (.ref a))).mono fun j z => by
                rw [List.mem_singleton.mp z]
                exact List.mem_cons_self ..
              exact q F1 H' (Cup Emp B) Emp _ ((st1.trans st2).weak fun y z => z.elim id fun z => z.elim) ok2 ((of1.mono fun j z => List.mem_cons_of_mem _ z).trans of2) dj_emp v (.lf h3.2 fun _ z => z)
          · cases hd
        · cases hd
      · cases hd
end Tr


set_option Elab.async false
set_option linter.all false
set_option maxRecDepth 100000
set_option maxHeartbeats 4000000
/-! D33: suites that ask for the class of what was caught. -/
namespace Tr
open PySem PySem.Spec PyProof.Rows L2

/-- isinstance(e, (c1, c2, ..)), e the exception that the suite holds -/
def rIsET (K : PySem.W.Frag) (D a : Addr) : List V → Hp → VK → Prop := fun xs H Q => ∃ (tp : Addr) (cs : List V) (us : List Value) (b : Bool), xs = [.ref a, .ref tp] ∧ H tp = some (.tup cs) ∧ Paired ClsV cs us ∧ PySem.W.kitAny K (.ref D) us = some b ∧ Q (.bl b) H
theorem call_isET {X : Cx} {a D : Addr} {oe : Obj} {pn : List (Addr × Obj)} (C : ExcC X.K D) (hz : Zc (.ref D) none oe) (hf : ∃ vs, oe.data = .fields vs) : CallR (X.suite a ((a, oe) :: pn)) (.builtin "isinstance") (rIsET X.K D a) := by
  intro pins s σ H xs us Q I r h
  obtain ⟨tp, cs, ws, b, rfl, et, pc, e, q⟩ := h
  obtain ⟨u1, u2, rfl, r1, r2⟩ := vals2 r
  cases r1
  cases r2
  obtain ⟨hget, _⟩ := I.pin (a, oe) (List.mem_append.mpr (.inl List.mem_cons_self))
  obtain ⟨vs, hv⟩ := hf
  have J : PySem.W.InstAt s.heap a oe D none := by
    obtain ⟨oc, od, oda, osl⟩ := oe
    obtain ⟨h1, h2⟩ := hz
    dsimp only at h1 h2 hv
    subst h1 h2 hv
    exact ⟨hget, rfl, rfl, trivial⟩
  obtain ⟨_, us2, rv, o2, g1, g2, n2, g3⟩ := (show ObjOk X.prog X.w H s.heap tp (.tup cs) from I.hok tp _ et)
  have eu := ClsV.all pc rv
  subst eu
  obtain ⟨oc, od, oda, osl⟩ := o2
  dsimp only at g2 g3
  subst g2 g3
  exact PySem.W.kia_tup (PySem.W.handS_kitx_exc C.hg C.hk C.hs C.hd C.ha C.hn C.ht C.hm) I.kIn J g1 e (fun z => nomatch z) fun tk => ⟨.bl b, H, I.kept (t' := tk) fun _ _ z => z, rfl, q⟩
/-- slot i holds it: then v, over a heap that has grown at most -/
def tKv (i : Nat) (a : Addr) (v : V) : TE := fun σ H Q => σ[i]? = some (some (.ref a)) ∧ ∀ H', (∀ b o, H b = some o → H' b = some o) → Q v H'
def tKt (i : Nat) (a : Addr) (b : Bool) : TT := fun σ H Q => σ[i]? = some (some (.ref a)) ∧ ∀ H', (∀ b o, H b = some o → H' b = some o) → Q b H'
def tCc (cs : List V) : TA := fun _ H Q => Q cs H
section
variable {X : Cx} {i : Nat} {a D : Addr} {b b1 b2 : Bool} {v : V} {e x y : Expr} {pos p p1 p2 : Pos} {n m : Str} {xs rest : List Stmt} {cs : List V} {c : V} {es : List Expr} {oe : Obj} {pn : List (Addr × Obj)}
theorem cs_nil : PA X [] (tCc []) := paw pa_nil fun _ _ _ h => h
theorem cs_own {C : Addr} (hg : Gl X n) (hm : X.mg n = some (.ref C)) (hr : PA X es (tCc cs)) (hd : (n == ("__debug__" : Str)) = false := by decide) (hs : starEach (.Name n p :: es) X.env = (false, eval (.Name n p) X.env) :: starEach es X.env := by rfl) : PA X (.Name n p :: es) (tCc (.ref C :: cs)) :=
  paw (pa_cons (pe_glob hg hm (show RelV (.ref C) (.ref C) from rfl) hd) hr hs) fun _ _ _ h => h
theorem cs_ty {t : String} (hg : Gl X n) (hm : X.mg n = none) (hv : bootBuiltins n = some (.type t)) (hr : PA X es (tCc cs)) (hn : n ≠ "__name__" := by decide) (hd : (n == ("__debug__" : Str)) = false := by decide) (hs : starEach (.Name n p :: es) X.env = (false, eval (.Name n p) X.env) :: starEach es X.env := by rfl) : PA X (.Name n p :: es) (tCc (.ty t :: cs)) :=
  paw (pa_cons (pe_bltn hg hm hv (show RelV (.ty t) (.type t) from rfl) hn hd) hr hs) fun _ _ _ h => h
/-- isinstance(e, c) -/
theorem kv_is1 {u : Value} (C : ExcC X.K D) (hz : Zc (.ref D) none oe) (hf : ∃ vs, oe.data = .fields vs) (hgi : Gl X "isinstance") (hmi : X.mg "isinstance" = none) (hN : X.N[i]? = some n) (hv : Vis X.env.scope n) (hc : PA (X.suite a ((a, oe) :: pn)) [y] (tCc [c])) (k : ClsV c u) (kt : PySem.W.kitOne X.K (.ref D) u = some b)
    (hdn : (n == ("__debug__" : Str)) = false := by decide) (hcn : (n == ("__classdict__" : Str)) = false := by decide)
    (hs : starEach (.Name n p1 :: [y]) (X.suite a ((a, oe) :: pn)).env = (false, eval (.Name n p1) (X.suite a ((a, oe) :: pn)).env) :: starEach [y] (X.suite a ((a, oe) :: pn)).env := by rfl) (hpl : (backTo pos (starEach [y] (X.suite a ((a, oe) :: pn)).env)).any (·.1) = false := by rfl) :
    PE (X.suite a ((a, oe) :: pn)) (.Call (.Name "isinstance" p) [.Name n p1, y] [] pos) (tKv i a (.bl b)) :=
  pew (pe_callB (call_isE C hz hf) (X := X.suite a ((a, oe) :: pn)) hgi hmi (by decide +kernel) (pa_cons (pe_var (X := X.suite a ((a, oe) :: pn)) hN hv hdn hcn) hc hs) (he := hs) (hpl := hpl)) fun σ H Q ⟨h1, h2⟩ =>
    ⟨.ref a, h1, c, u, b, rfl, fun w r => k.eq r, kt, h2 H fun _ _ z => z⟩
/-- isinstance(e, (c1, ..)) -/
theorem kv_isT {us : List Value} {k0 : Nat} (C : ExcC X.K D) (hz : Zc (.ref D) none oe) (hf : ∃ vs, oe.data = .fields vs) (hgi : Gl X "isinstance") (hmi : X.mg "isinstance" = none) (hN : X.N[i]? = some n) (hv : Vis X.env.scope n) (hc : PA (X.suite a ((a, oe) :: pn)) es (tCc cs)) (k : Paired ClsV cs us) (kt : PySem.W.kitAny X.K (.ref D) us = some b) (hl : cs.length ≤ sizeLine)
    (hdn : (n == ("__debug__" : Str)) = false := by decide) (hcn : (n == ("__classdict__" : Str)) = false := by decide)
    (hs2 : starEach [.Tuple es k0 p2] (X.suite a ((a, oe) :: pn)).env = (false, eval (.Tuple es k0 p2) (X.suite a ((a, oe) :: pn)).env) :: starEach [] (X.suite a ((a, oe) :: pn)).env := by rfl)
    (hs : starEach (.Name n p1 :: [.Tuple es k0 p2]) (X.suite a ((a, oe) :: pn)).env = (false, eval (.Name n p1) (X.suite a ((a, oe) :: pn)).env) :: starEach [.Tuple es k0 p2] (X.suite a ((a, oe) :: pn)).env := by rfl) (hpl : (backTo pos (starEach [.Tuple es k0 p2] (X.suite a ((a, oe) :: pn)).env)).any (·.1) = false := by rfl) :
    PE (X.suite a ((a, oe) :: pn)) (.Call (.Name "isinstance" p) [.Name n p1, .Tuple es k0 p2] [] pos) (tKv i a (.bl b)) :=
  pew (pe_callB (call_isET C hz hf) (X := X.suite a ((a, oe) :: pn)) hgi hmi (by decide +kernel) (pa_cons (pe_var (X := X.suite a ((a, oe) :: pn)) hN hv hdn hcn) (pa_cons (pe_tup hc) pa_nil hs2) hs) (he := hs) (hpl := hpl)) fun σ H Q ⟨h1, h2⟩ =>
    ⟨.ref a, h1, hl, fun q hq => ⟨q, cs, us, b, rfl, upd_same, k, kt, h2 _ fun x o z => by rw [upd_ne (ne_of_none z hq)]; exact z⟩⟩
theorem kt_v (h : PE X e (tKv i a (.bl b))) (he : ∀ whole, isTrue e X.env whole = (do let v ← whole; standAt e.pos; holding [v] (truthy v)) := by intro _; rfl) : PT X e (tKt i a b) := ptw (pt_val h he) fun σ H Q ⟨h1, h2⟩ => ⟨h1, fun H' k => ⟨b, rfl, h2 H' k⟩⟩
theorem kt_not (h : PT X e (tKt i a b)) : PT X (.UnaryOp .Not e pos) (tKt i a (!b)) := ptw (pt_not h) fun σ H Q ⟨h1, h2⟩ => ⟨h1, h2⟩
theorem kt_or1 (h : PT X x (tKt i a b)) : PW X (.BoolOp .Or [x] pos) (tKt i a b) := pw_or1 h
theorem kt_or {r : List Expr} (h : PT X x (tKt i a b1)) (k : PW X (.BoolOp .Or (y :: r) pos) (tKt i a b2)) : PW X (.BoolOp .Or (x :: y :: r) pos) (tKt i a (b1 || b2)) := pww (pw_or h k) fun σ H Q ⟨h1, h2⟩ => ⟨h1, fun H' k => by
  cases b1 with
  | true => exact h2 H' k
  | false => exact ⟨h1, fun H2 k2 => h2 H2 fun x o z => k2 x o (k x o z)⟩⟩
theorem kt_and1 (h : PT X x (tKt i a b)) : PW X (.BoolOp .And [x] pos) (tKt i a b) := pw_and1 h
theorem kt_and {r : List Expr} (h : PT X x (tKt i a b1)) (k : PW X (.BoolOp .And (y :: r) pos) (tKt i a b2)) : PW X (.BoolOp .And (x :: y :: r) pos) (tKt i a (b1 && b2)) := pww (pw_and h k) fun σ H Q ⟨h1, h2⟩ => ⟨h1, fun H' k => by
  cases b1 with
  | false => exact h2 H' k
  | true => exact ⟨h1, fun H2 k2 => h2 H2 fun x o z => k2 x o (k x o z)⟩⟩
theorem rt_ret (h : PE X e (tKv i a v)) : PSs X (.Return (some e) pos :: xs) (tRt i a v) := pssw (pss_cons (u := fun _ _ _ => False) (ps_ret h) ⟨fun _ _ _ _ _ _ z => z.elim⟩) fun D σ H ⟨h1, h2⟩ => ⟨h1, h2⟩
theorem kv_bl {k : Nat} : PE X (.Constant (.bool b) k pos) (tKv i a (.bl b)) := pew pe_bl fun σ H Q ⟨h1, h2⟩ => h2 H fun _ _ z => z
theorem kv_str {s : Str} {k : Nat} : PE X (.Constant (.str s) k pos) (tKv i a (.str s)) := pew pe_str fun σ H Q ⟨h1, h2⟩ => h2 H fun _ _ z => z
theorem rt_if (h : PT X e (tKt i a b)) (h1 : b = true → PSs X xs (tRt i a v)) (h2 : b = false → PSs X rest (tRt i a v)) : PSs X (.If e xs [] pos :: rest) (tRt i a v) := by
  cases b with
  | true =>
    refine pssw (pss_cons (u := fun _ _ _ => False) (ps_if h (h1 rfl) pss_nil) ⟨fun _ _ _ _ _ _ z => z.elim⟩) fun D σ H ⟨g1, g2⟩ => ⟨g1, fun H' k => ?_⟩
    exact iteT ⟨g1, fun H2 k2 => g2 H2 fun x o z => k2 x o (k x o z)⟩
  | false =>
    refine pssw (pss_cons (ps_if (a := xs) (t := fun _ _ _ => False) h ⟨fun _ _ _ _ _ _ z => z.elim⟩ pss_nil) (h2 rfl)) fun D σ H ⟨g1, g2⟩ => ⟨g1, fun H' k => ?_⟩
    exact iteF ⟨g1, fun H2 k2 => g2 H2 fun x o z => k2 x o (k x o z)⟩
end
/-- an own exception's class, as the raising and the asking want it -/
structure ExcF (K : PySem.W.Frag) (C : Addr) (bmB : List Value) (newId : String) : Prop where
  q : PySem.W.excIn K C bmB newId = true
  kC : PySem.W.keepIn K (.ref C) = true
  sub : PySem.W.subIn K (.ref C) (.type "BaseException") = some true
  ty : PySem.W.typeIn K (.ref C) = some (.type "type")
  c : ExcC K C
theorem ExcF.raises {X : Cx} {C : Addr} {bmB : List Value} {newId : String} (h : ExcF X.K C bmB newId) : Raises X (.ref C) := raises_own h.sub h.ty
/-! ### an answer of one's own, frozen at once -/
def fre (d : DE) : DE := fun env => (d env).map fun p => (frz p.1, p.2)
theorem SE.fre {X : Cx} {e : Expr} {d : DE} (h : SE X e d) : SE X e (Tr.fre d) := pew h fun σ H Q ⟨F, env, S, t, e', ok, hd, q⟩ => by
  obtain ⟨⟨t0, e0⟩, h1, h2⟩ := Option.map_eq_some_iff.mp hd
  cases h2
  refine ⟨F, env, S, t0, _, ok, h1, fun v F1 H1 S1 R st ok1 r dj => ?_⟩
  have ff := frF_le (A := R) ok1.le
  have stF : Stp F1 H1 (Cup S1 R) (frF F1 H1 R) H1 (Cup S1 Emp) := frF_stp ok1.le (fun _ z => .inr z) fun _ z => z.elim .inl fun z => z.elim
  have stR : Stp F1 H1 R (frF F1 H1 R) H1 Emp := frF_stp ok1.le (fun _ z => z) fun _ z => z.elim
  exact q v (frF F1 H1 R) H1 S1 Emp (st.trans stF) (ok1.keep stR dj.symm ff.2) (r.freeze ff.1 (fun x z => frF_in z) fun _ z => z) dj_emp
def dRecX (keep : List Bool) (n : Nat) (b : FT → FX → DX) (m : Nat → FT) : Nat → FX
  | 0 => fun _ => none
  | k + 1 => dFunX keep n (b (m k) (dRecX keep n b m k))
theorem dRecX_len {keep : List Bool} {n : Nat} {b : FT → FX → DX} {m : Nat → FT} {j : Nat} (h : keep.length = j) : ∀ k, XLen (dRecX keep n b m k) j
  | 0 => fun ts c e => by cases e
  | k + 1 => dFunX_len h
end Tr


set_option Elab.async false
set_option linter.all false
set_option maxRecDepth 100000
set_option maxHeartbeats 4000000
/-! D34: str(n), int(text). -/
namespace Tr
open PySem PySem.Spec PyProof.Rows L2

def oStrI : T → Option T
  | .lf (.int i) => if i.natAbs.log2 < 1920 then some (.lf (.str (toString i))) else none
  | _ => none
def oIntS : T → Option T
  | .lf (.str a) => match PySem.intText? a with
    | some n => if a.length ≤ 640 then some (.lf (.int n)) else none
    | none => none
  | _ => none
theorem v_strI {K : PySem.W.Frag} {mg : Mg} : Op1V K mg (fun x H Q => ∃ i, [x] = [V.int i] ∧ i.natAbs.log2 < 1920 ∧ Q (.str (toString i)) H) oStrI := fun F H x t R u Q le r1 h q => by
  unfold oStrI at h
  split at h
  · split at h
    · rename_i hl
      cases h
      exact ⟨_, by rw [r1.lf_inv.1], hl, q _ Emp (.lf rfl fun _ z => z)⟩
    · cases h
  · cases h
theorem v_intS {K : PySem.W.Frag} {mg : Mg} : Op1V K mg (fun x H Q => ∃ a n, [x] = [V.str a] ∧ PySem.intText? a = some n ∧ a.length ≤ 640 ∧ Q (.int n) H) oIntS := fun F H x t R u Q le r1 h q => by
  unfold oIntS at h
  split at h
  · split at h
    · rename_i n hn
      split at h
      · rename_i hl
        cases h
        exact ⟨_, _, by rw [r1.lf_inv.1], hn, hl, q _ Emp (.lf rfl fun _ z => z)⟩
      · cases h
    · cases h
  · cases h
end Tr


set_option Elab.async false
set_option linter.all false
set_option maxRecDepth 100000
set_option maxHeartbeats 4000000
/-! D35: things that are owned are moved into a new list: a + b, [p[1] for p in m]; a loop over such a list. -/
namespace Tr
open PySem PySem.Spec PyProof.Rows L2

/-- for .. in e: the things of e's answer are handed on -/
def dForE (de : DE) (dg : DG) (d : DS) : DS := fun env => match de env with
  | some (.nd true .lst its, e) => dFr dg d its e
  | _ => none
section
variable {K : PySem.W.Frag} {mg : Mg} {D : Ends} {σ σ' : L2.St} {H H' F F' : Hp} {S S' R : AS} {W1 W2 : List Nat} {env env' : List T} {r : Fl}
theorem forE_imp {de : DE} {dg : DG} {d : DS} (h : tS K mg (W1 ++ W2) (dForE de dg d) D σ H) : tFor (iList K (tE K mg de)) (tG K mg W1 dg) (tS K mg W2 d) D σ H := by
  obtain ⟨F, env, S, r, env', ok, hd, q⟩ := h
  unfold dForE at hd
  split at hd
  · rename_i its e h0
    refine ⟨F, env, S, _, e, ok, h0, fun v F1 H1 S1 R1 st1 ok1 r1 dj1 => ?_⟩
    obtain ⟨a, o, vs, S0, rfl, ha, hf, hc, rp, na, hA⟩ := r1.own_inv
    cases (show o = .lst vs from hc)
    refine ⟨a, rfl, ⟨vs, SqL.of ha⟩, ?_⟩
    have dQ : Dj S1 S0 := fun z s u => dj1 z s ((hA z).mpr (.inr u))
    refine forM_core ha rp dQ (fun s => dj1 a s ((hA a).mpr (.inl rfl))) na ok1 hd (q.step (R := R1) st1 .refl |> fun c => ?_)
    intro F2 H2 S2 R2 σ2 st2 ok2 of2 dj2
    exact q F2 H2 S2 R2 σ2 ((st1.weak fun z u => u.elim .inl fun u => .inr ((hA z).mpr (.inr u))).trans st2) ok2 of2 dj2
  · cases hd
theorem ss_forE {X : Cx} {tg e : Expr} {body : List Stmt} {de : DE} {dg : DG} {d : DS} {pos : Pos} (hp : PassesOwn (model X.prog X.w) X.A X.env X.xe) (hc : X.calm = true) (he : SE X e de) (hg : SG X tg W1 dg) (hb : SSs X body W2 d)
    (hs : ∀ y, foldedSetIterable e X.env y = pure y := by intro _; rfl) : SS X (.For tg e body [] pos) (W1 ++ W2) (dForE de dg d) :=
  psw (ps_for hp hc (pi_list he) hg hb hs) fun _ _ _ => forE_imp
end
/-- a name's things moved behind an answer's, or ahead of them -/
def dCatL (i : Nat) (de : DE) : DE := fun env => match gV i env with
  | some _ => match de env with
    | some (.nd true .lst ys, e) => match gV i e with
      | some (.nd true .lst xs) => if xs.length + ys.length ≤ sizeLine then some (.nd true .lst (xs ++ ys), e.set i (.nd true .lst (nos xs))) else none
      | _ => none
    | _ => none
  | none => none
def dCatR (de : DE) (i : Nat) : DE := fun env => match de env with
  | some (.nd true .lst ys, e) => match gV i e with
    | some (.nd true .lst xs) => if ys.length + xs.length ≤ sizeLine then some (.nd true .lst (ys ++ xs), e.set i (.nd true .lst (nos xs))) else none
    | _ => none
  | _ => none
section
variable {K : PySem.W.Frag} {mg : Mg} {σ : L2.St} {H F : Hp} {S R : AS} {env : List T} {Q : VK} {i : Nat}
theorem mv_core {v w : V} {xs ys : List T} (ok : Ok K mg F H σ env S) (hx : gV i env = some (.nd true .lst xs)) (ev : σ[i]? = some (some v)) (rw' : Rep K mg F H w (.nd true .lst ys) R) (dj : Dj S R) :
    ∃ a b vs ws, v = .ref a ∧ w = .ref b ∧ H a = some (.lst vs) ∧ H b = some (.lst ws) ∧ vs.length = xs.length ∧ ws.length = ys.length ∧
      ∀ (p : Addr) (sw : Bool), H p = none → ∃ H' S' R', H' = upd H p (.lst (if sw = true then ws ++ vs else vs ++ ws)) ∧ Stp F H (Cup S R) F H' (Cup S' R') ∧ Ok K mg F H' σ (env.set i (.nd true .lst (nos xs))) S' ∧ Rep K mg F H' (.ref p) (.nd true .lst (if sw = true then ys ++ xs else xs ++ ys)) R' ∧ Dj S' R' := by
  obtain ⟨g1, g2⟩ := gV_some hx
  obtain ⟨v', A, B, ev', rv, dAB, hS, rest⟩ := ok.st.slot g1 g2
  rw [ev] at ev'
  cases ev'
  obtain ⟨a, o, vs, S0, rfl, ha, hf, hc, rp, na, hA⟩ := rv.own_inv
  cases (show o = .lst vs from hc)
  obtain ⟨b, o2, ws, S1, rfl, hb, hf2, hc2, rp2, nb, hB⟩ := rw'.own_inv
  cases (show o2 = .lst ws from hc2)
  refine ⟨a, b, vs, ws, rfl, rfl, ha, hb, rp.length (S := Emp), rp2.length (S := Emp), fun p sw hp => ?_⟩
  have fp : F p = none := ok.le.nn hp
  have inS : ∀ x, A x ∨ B x → S x := fun x z => (hS x).mpr z
  have s0S : ∀ x, S0 x → S x := fun x z => inS x (.inl ((hA x).mpr (.inr z)))
  have s1R : ∀ x, S1 x → R x := fun x z => (hB x).mpr (.inr z)
  have djS : Dj S0 S1 := fun x z u => dj x (s0S x z) (s1R x u)
  have nS : ∀ x, S x → x ≠ p := fun x z e => by
    obtain ⟨⟨o, e1⟩, _⟩ := ok.st.dom x z
    rw [e, hp] at e1; cases e1
  have nR : ∀ x, R x → x ≠ p := fun x z e => by
    obtain ⟨⟨o, e1⟩, _⟩ := rw'.dom x z
    rw [e, hp] at e1; cases e1
  have up : ∀ {o : HO} (x : Addr), x ≠ p → upd H p o x = H x := fun x e => upd_ne e
  have leH : ∀ o, Le F (upd H p o) := fun o x u e => by rw [upd_ne (ne_of_none (ok.le _ _ e) hp)]; exact ok.le _ _ e
  have reps : ∀ o : HO, Reps K mg F (upd H p o) (if sw = true then ws ++ vs else vs ++ ws) (if sw = true then ys ++ xs else xs ++ ys) (Cup S0 S1) := fun o => by
    have r1 : Reps K mg F (upd H p o) vs xs S0 := rp.frame (Le.refl _) fun x z => ⟨upd_ne (nS x (s0S x z)), (rp.dom x z).2⟩
    have r2 : Reps K mg F (upd H p o) ws ys S1 := rp2.frame (Le.refl _) fun x z => ⟨upd_ne (nR x (s1R x z)), (rp2.dom x z).2⟩
    cases sw with
    | true =>
      rw [if_pos rfl, if_pos rfl]
      exact (Reps.append r1 r2 djS.symm).iff fun x => ⟨fun z => z.elim .inr .inl, fun z => z.elim .inr .inl⟩
    | false =>
      rw [if_neg Bool.false_ne_true, if_neg Bool.false_ne_true]
      exact Reps.append r2 r1 djS
  refine ⟨_, Cup (fun x => x = a) B, fun x => x = p ∨ Cup S0 S1 x, rfl, ⟨Le.refl _, fun x o e _ => by rw [upd_ne (ne_of_none e hp)]; exact e, fun _ _ e => .inl e, fun x z => ?_⟩, ⟨leH _, ?_⟩, ?_, fun x z u => ?_⟩
  · rcases z with (z | z) | z
    · exact .inl (.inl (inS x (.inl ((hA x).mpr (.inl z)))))
    · exact .inl (.inl (inS x (.inr z)))
    · rcases z with z | z | z
      · exact .inr (by rw [z]; exact hp)
      · exact .inl (.inl (s0S x z))
      · exact .inl (.inr (s1R x z))
  · have rN : Rep K mg F (upd H p (.lst (if sw = true then ws ++ vs else vs ++ ws))) (.ref a) (.nd true .lst (nos xs)) (fun x => x = a) :=
      .own (by rw [upd_ne (nS a (inS a (.inl ((hA a).mpr (.inl rfl)))))]; exact ha) hf rfl (rp.nos.frame (Le.refl _) fun _ z => z.elim) (fun z => z) fun x => ⟨.inl, fun z => z.elim id fun z => z.elim⟩
    have := rest F (upd H p (.lst (if sw = true then ws ++ vs else vs ++ ws))) (some (.ref a)) (.nd true .lst (nos xs)) (fun x => x = a) (Le.refl _) (fun y z => ⟨upd_ne (nS y (inS y (.inr z))), (ok.st.dom y (inS y (.inr z))).2⟩) rN fun y z u => by
      have hya : y = a := z
      rw [hya] at u
      exact dAB a ((hA a).mpr (.inl rfl)) u
    rwa [set_self' ev] at this
  · exact .own upd_same fp rfl (reps _) (fun z => z.elim (fun z => nS p (s0S p z) rfl) fun z => nR p (s1R p z) rfl) fun x => Iff.rfl
  · rcases u with u | u | u
    · rw [u] at z
      rcases z with z | z
      · have hza : p = a := z
        rw [hza] at hp
        rw [hp] at ha
        cases ha
      · exact nS p (inS p (.inr z)) rfl
    · rcases z with z | z
      · have hza : x = a := z
        rw [hza] at u
        exact na u
      · exact dAB x ((hA x).mpr (.inr u)) z
    · rcases z with z | z
      · have hza : x = a := z
        exact dj x (inS x (.inl ((hA x).mpr (.inl hza)))) (s1R x u)
      · exact dj x (inS x (.inr z)) (s1R x u)
theorem catL_imp {de : DE} (h : tE K mg (dCatL i de) σ H Q) : tOp rCat (tVar i) (tE K mg de) σ H Q := by
  obtain ⟨F, env, S, t, env', ok, hd, q⟩ := h
  unfold dCatL at hd
  split at hd
  · rename_i t0 h0
    split at hd
    · rename_i ys e h1
      split at hd
      · rename_i xs h2
        split at hd
        · rename_i hz
          cases hd
          obtain ⟨g1, g2⟩ := gV_some h0
          obtain ⟨v, _, _, ev, _⟩ := ok.st.slot g1 g2
          refine ⟨v, ev, F, env, S, _, e, ok, h1, fun w F1 H1 S1 R1 st1 ok1 r1 dj1 => ?_⟩
          obtain ⟨a, b, vs, ws, rfl, rfl, ha, hb, l1, l2, bld⟩ := mv_core ok1 h2 ev r1 dj1
          refine ⟨a, b, vs, ws, rfl, rfl, ha, hb, by rw [l1, l2]; exact hz, fun p hp => ?_⟩
          obtain ⟨H', S', R', rfl, st', ok', r', dj'⟩ := bld p false hp
          exact q _ F1 _ S' R' (st1.trans st') ok' r' dj'
        · cases hd
      · cases hd
    · cases hd
  · cases hd
theorem catR_imp {de : DE} (h : tE K mg (dCatR de i) σ H Q) : tOp rCat (tE K mg de) (tVar i) σ H Q := by
  obtain ⟨F, env, S, t, env', ok, hd, q⟩ := h
  unfold dCatR at hd
  split at hd
  · rename_i ys e h1
    split at hd
    · rename_i xs h2
      split at hd
      · rename_i hz
        cases hd
        refine ⟨F, env, S, _, e, ok, h1, fun w F1 H1 S1 R1 st1 ok1 r1 dj1 => ?_⟩
        obtain ⟨g1, g2⟩ := gV_some h2
        obtain ⟨v, _, _, ev, _⟩ := ok1.st.slot g1 g2
        refine ⟨v, ev, ?_⟩
        obtain ⟨a, b, vs, ws, rfl, rfl, ha, hb, l1, l2, bld⟩ := mv_core ok1 h2 ev r1 dj1
        refine ⟨b, a, ws, vs, rfl, rfl, hb, ha, by rw [l1, l2]; exact hz, fun p hp => ?_⟩
        obtain ⟨H', S', R', rfl, st', ok', r', dj'⟩ := bld p true hp
        exact q _ F1 _ S' R' (st1.trans st') ok' r' dj'
      · cases hd
    · cases hd
  · cases hd
end
section
variable {X : Cx} {x : Str} {px pos : Pos} {e : Expr} {de : DE} {i : Nat}
theorem se_catL (he : SE X e de) (hN : X.N[i]? = some x := by rfl) (hvis : Vis X.env.scope x := by first | exact Or.inl rfl | exact Or.inr (Or.inl rfl) | exact Or.inr (Or.inr rfl)) (hd : (x == ("__debug__" : Str)) = false := by decide) (hcd : (x == ("__classdict__" : Str)) = false := by decide) :
    SE X (.BinOp (.Name x px) .Add e pos) (dCatL i de) := pew (pe_op op_cat (pe_var hN hvis hd hcd) he) fun _ _ _ => catL_imp
theorem se_catR (he : SE X e de) (hN : X.N[i]? = some x := by rfl) (hvis : Vis X.env.scope x := by first | exact Or.inl rfl | exact Or.inr (Or.inl rfl) | exact Or.inr (Or.inr rfl)) (hd : (x == ("__debug__" : Str)) = false := by decide) (hcd : (x == ("__classdict__" : Str)) = false := by decide) :
    SE X (.BinOp e .Add (.Name x px) pos) (dCatR de i) := pew (pe_op op_cat he (pe_var hN hvis hd hcd)) fun _ _ _ => catR_imp
end
/-! ### [p[1] for p in m] -/
def pk1 : T → Option T
  | .nd _ .tup [_, t] => some t
  | _ => none
def pks : List T → Option (List T)
  | [] => some []
  | t :: ts => (pk1 t).bind fun u => (pks ts).map fun us => u :: us
def dPick (j : Nat) : DE := fun env => match gV j env with
  | some (.nd true .lst ms) => match pks ms with
    | some ts => if ts.length < sizeLine then some (.nd true .lst ts, env.set j (.nd true .lst (nos ms))) else none
    | none => none
  | _ => none
section
variable {K : PySem.W.Frag} {mg : Mg} {F H : Hp}
theorem pks_reps (le : Le F H) : ∀ {vs : List V} {ms ts : List T} {S0 : AS}, Reps K mg F H vs ms S0 → pks ms = some ts → ∃ us S1, us.length = vs.length ∧ ts.length = ms.length ∧ Reps K mg F H us ts S1 ∧ (∀ x, S1 x → S0 x) ∧
    ∀ (i : Nat) (v : V), vs[i]? = some v → ∃ b ws u, v = .ref b ∧ SqT K H b ws ∧ ws[1]? = some u ∧ us[i]? = some u ∧ ws.length = 2
  | _, _, _, _, .nil h, e => by
    cases e
    exact ⟨[], Emp, rfl, rfl, .nil fun _ z => z, fun _ z => z.elim, fun i v h => by simp at h⟩
  | _, _, _, S0, .cons (v := v) (t := t) (vs := vs) (ts := ms) (S1 := A) (S2 := B) r q d hS, e => by
    obtain ⟨u, h1, h2⟩ := Option.bind_eq_some_iff.mp e
    obtain ⟨us', h3, h4⟩ := Option.map_eq_some_iff.mp h2
    cases h4
    obtain ⟨us, S1, l1, l2, rp, sub, at_⟩ := pks_reps le q h3
    unfold pk1 at h1
    split at h1
    · rename_i o t0 t1
      cases h1
      obtain ⟨b, ws, A0, rfl, p, hs, hr⟩ := r.nd_inv le
      cases p with
      | @cons v1 _ vs1 _ _ A1 B1 r1 p1 d1 hS1 =>
        cases p1 with
        | @cons v2 _ vs2 _ _ A2 B2 r2 p2 d2 hS2 =>
          cases p2 with
          | nil _ =>
            have inA : ∀ x, A2 x → A x := fun x z => hs x ((hS1 x).mpr (.inr ((hS2 x).mpr (.inl z))))
            refine ⟨v2 :: us, Cup A2 S1, by simp [l1], by simp [l2], .cons r2 rp (fun x a b => d x (inA x a) (sub x b)) fun _ => Iff.rfl, fun x z => (hS x).mpr (z.elim (fun z => .inl (inA x z)) fun z => .inr (sub x z)), fun i v h => ?_⟩
            cases i with
            | zero =>
              simp at h
              subst h
              exact ⟨b, [v1, v2], v2, rfl, SqT.of hr, rfl, rfl, rfl⟩
            | succ i => simpa using at_ i v (by simpa using h)
    · cases h1
theorem pick_imp {j p : Nat} {σ : L2.St} {Q : VK} (hp : p < σ.length) (h : tE K mg (dPick j) σ H Q) : tLc (iList K (tVar j)) (gName p) tYes (tOp (rIx K) (tVar p) (tC (.int 1))) [p] σ H Q := by
  obtain ⟨F, env, S, t, env', ok, hd, q⟩ := h
  unfold dPick at hd
  split at hd
  · rename_i ms h0
    split at hd
    · rename_i ts h1
      split at hd
      · rename_i hz
        cases hd
        obtain ⟨g1, g2⟩ := gV_some h0
        obtain ⟨v, A, B, ev, rv, dAB, hS, rest⟩ := ok.st.slot g1 g2
        obtain ⟨a, o, vs, S0, rfl, ha, hf, hc, rp, na, hA⟩ := rv.own_inv
        cases (show o = .lst vs from hc)
        obtain ⟨us, S1, l1, l2, rus, sub, at_⟩ := pks_reps ok.le rp h1
        have hlv : vs.length = ms.length := rp.length (S := Emp)
        refine ⟨.ref a, ev, a, rfl, ⟨vs, SqL.of ha⟩, fun D hD => ?_⟩
        have aD : a ≠ D := fun e => by rw [e, hD] at ha; cases ha
        have leD : ∀ o, Le H (upd H D o) := fun o x u e => by rw [upd_ne (ne_of_none e hD)]; exact e
        refine ⟨fun i m H' => m = vs.length - i ∧ i ≤ vs.length ∧ H' = upd H D (.lst (us.take i)), ⟨vs.length, rfl, Nat.zero_le _, by rw [List.take_zero]⟩, ?_⟩
        rintro i m H' ⟨rfl, hi, rfl⟩
        have sq : SqL K (upd H D (.lst (us.take i))) a vs := SqL.of (by rw [upd_ne aD]; exact ha)
        by_cases hlt : i < vs.length
        · refine .inr ⟨⟨vs, vs[i], sq, List.getElem?_eq_getElem hlt⟩, fun H' => H' = upd H D (.lst (us.take (i + 1))), fun H' e => ⟨vs.length - (i + 1), by omega, rfl, hlt, e⟩, fun x H3 y => ?_⟩
          obtain ⟨rfl, y⟩ := y
          have e5 := (y vs sq).symm.trans (List.getElem?_eq_getElem hlt)
          have ex : x = vs[i] := Option.some.inj e5
          obtain ⟨b, ws, u, eb, st, wu, uu, wl⟩ := at_ i vs[i] (List.getElem?_eq_getElem hlt)
          refine ⟨?_, ?_⟩
          · show wipe ((wipe σ [p]).set p (some x)) [p] = wipe σ [p]
            show (((σ.set p none)).set p (some x)).set p none = σ.set p none
            rw [List.set_set, List.set_set]
          · unfold tYes
            dsimp only
            rw [if_pos rfl]
            refine ⟨x, ?_, .inr (.inl ⟨b, ws, 1, u, by rw [ex, eb], rfl, (leD _).sqT st, ?_, us.take i, upd_same, ?_, ?_⟩)⟩
            · show ((σ.set p none).set p (some x))[p]? = some (some x)
              rw [List.getElem?_set_self (by rw [List.length_set]; exact hp)]
            · unfold L2.atI L2.ixN
              rw [if_pos (by omega), if_pos (by rw [wl]; omega)]
              exact wu
            · rw [List.length_take]
              have : ts.length = us.length := by rw [l2, l1, hlv]
              omega
            · rw [upd_upd]
              have ul : i < us.length := by omega
              have e1 : us[i] = u := by
                have := List.getElem?_eq_getElem ul
                rw [this] at uu
                exact Option.some.inj uu
              rw [List.take_succ_eq_append_getElem ul, e1]
        · have ei : i = vs.length := by omega
          subst ei
          refine .inl ⟨⟨vs, sq, Nat.le_refl _⟩, ?_⟩
          rw [← l1, List.take_length]
          have fD : F D = none := ok.le.nn hD
          have inS : ∀ x, A x ∨ B x → S x := fun x z => (hS x).mpr z
          have nS : ∀ x, S x → x ≠ D := fun x z e => by
            obtain ⟨⟨o, e1⟩, _⟩ := ok.st.dom x z
            rw [e, hD] at e1; cases e1
          have s1S : ∀ x, S1 x → S x := fun x z => inS x (.inl ((hA x).mpr (.inr (sub x z))))
          refine q (.ref D) F _ (Cup (fun x => x = a) B) (fun x => x = D ∨ S1 x) ⟨Le.refl _, fun x o e _ => by rw [upd_ne (ne_of_none e hD)]; exact e, fun _ _ e => .inl e, fun x z => ?_⟩ ⟨fun x o e => leD _ x o (ok.le x o e), ?_⟩ ?_ fun x z u => ?_
          · rcases z with (z | z) | z | z
            · exact .inl (inS x (.inl ((hA x).mpr (.inl z))))
            · exact .inl (inS x (.inr z))
            · exact .inr (by rw [z]; exact hD)
            · exact .inl (s1S x z)
          · have rN : Rep K mg F (upd H D (.lst us)) (.ref a) (.nd true .lst (nos ms)) (fun x => x = a) :=
              .own (by rw [upd_ne aD]; exact ha) hf rfl (rp.nos.frame (Le.refl _) fun _ z => z.elim) (fun z => z) fun x => ⟨.inl, fun z => z.elim id fun z => z.elim⟩
            have := rest F (upd H D (.lst us)) (some (.ref a)) (.nd true .lst (nos ms)) (fun x => x = a) (Le.refl _) (fun y z => ⟨upd_ne (nS y (inS y (.inr z))), (ok.st.dom y (inS y (.inr z))).2⟩) rN fun y z u => by
              have hya : y = a := z
              rw [hya] at u
              exact dAB a ((hA a).mpr (.inl rfl)) u
            rwa [set_self' ev] at this
          · exact .own upd_same fD rfl (rus.frame (Le.refl _) fun x z => ⟨upd_ne (nS x (s1S x z)), (rus.dom x z).2⟩) (fun z => nS D (s1S D z) rfl) fun x => Iff.rfl
          · rcases u with u | u
            · rw [u] at z
              rcases z with z | z
              · have hza : D = a := z
                exact aD hza.symm
              · exact nS D (inS D (.inr z)) rfl
            · rcases z with z | z
              · have hza : x = a := z
                rw [hza] at u
                exact na (sub a u)
              · exact dAB x ((hA x).mpr (.inr (sub x u))) z
      · cases hd
    · cases hd
  · cases hd
end
theorem se_pick {X : Cx} {m y : Str} {j p k : Nat} {scope : Scope} {own : List (Str × Nat)} {p1 p2 p3 p4 p5 pos : Pos} (hc : X.calm = true) (hN : X.N.Nodup) (hj : X.N[j]? = some m) (hvis : Vis X.env.scope m) (ok : BlkOk X.N X.env.scope scope own) (hvs : own.map (·.2) = [p]) (hp : X.N[p]? = some y)
    (hb : ∀ (s : Shared) (H : Hp) (C : Addr) (cl : List (Str × Addr)) (fp : List Addr), Loc (X.blk s H scope (compEnvC scope cl C X.env) fp).env.scope y ∧ ((X.blk s H scope (compEnvC scope cl C X.env) fp).fn y = true ∨ (X.blk s H scope (compEnvC scope cl C X.env) fp).env.scope.names.lookup y = some .local) ∧ Vis (X.blk s H scope (compEnvC scope cl C X.env) fp).env.scope y)
    (hd : (m == ("__debug__" : Str)) = false := by decide) (hcd : (m == ("__classdict__" : Str)) = false := by decide) (hd2 : (y == ("__debug__" : Str)) = false := by decide) (hcd2 : (y == ("__classdict__" : Str)) = false := by decide)
    (hs : ∀ x, foldedSetIterable (.Name m p1) X.env x = pure x := by intro _; rfl) (hpl : PlainIx (.Constant (.int 1) k p4) := by exact fun _ _ => rfl) :
    SE X (.ListComp (.Subscript (.Name y p2) (.Constant (.int 1) k p4) p5) [⟨.Name y p3, .Name m p1, [], 0⟩] scope pos) (dPick j) := by
  refine ⟨fun pins s σ H Q I h => ?_⟩
  have hl : p < σ.length := by
    have := I.len
    have h2 := (List.getElem?_eq_some_iff.mp hp).1
    omega
  refine (pe_lc (g := gName p) (tt := tYes) (te := tOp (rIx X.K) (tVar p) (tC (.int 1))) hc hN (pi_list (pe_var hj hvis hd hcd)) ok (fun s H C cl fp => pg_name hN hp (hb s H C cl fp).1 (hb s H C cl fp).2.1) (fun _ _ _ _ _ => pts_nil) (fun s H C cl fp => pe_ix ix_seq (pe_var hp (hb s H C cl fp).2.2 hd2 hcd2) pe_int hpl) hs).run pins s σ H Q I ?_
  rw [hvs]
  exact pick_imp hl h
end Tr


set_option Elab.async false
set_option linter.all false
set_option maxRecDepth 100000
set_option maxHeartbeats 4000000
/-! HD: the end of a law whose top is large: one kernel run of the top, the facts looked at in a part of the heap that is named address by address. -/
namespace Hf
open PySem PySem.Spec PyProof.Rows L2 Tr
abbrev FB : Type := PySem.W.Frag → Bool
def fo (f : He.Fa) : FB := fun K => f.ok K
def obsK (fs : List (List FB)) (fn : List He.DefD) (K : PySem.W.Frag) : He.AlD := ((fs.all fun l => l.all fun f => f K) && fn.all fun d => d.ok K, fn.map fun d => He.fnW K d.at_)
def Says (fs : List (List FB)) (fn : List He.DefD) (K : PySem.W.Frag) : Prop := obsK fs fn K = He.valD fn
def obsA (as : List Addr) (fs : List (List FB)) (fn : List He.DefD) (g : Addr → Option Obj) : He.AlD := obsK fs fn (He.frG g as)
def hook (as : List Addr) (fs : List (List FB)) (fn : List He.DefD) : PySem.W.Hook where
  α := He.AlD
  obs := fun s => obsA as fs fn s.heap.get?
  val := fun _ => He.valD fn
  says := fun _ h => ∃ K : PySem.W.Frag, K.In h ∧ Says fs fn K
  of := fun _ _ e => ⟨_, He.frG_in, e⟩
  keeps := fun _ _ _ ⟨K, hK, c⟩ k => ⟨K, PySem.W.Frag.In.keeps hK k, c⟩
theorem obsA_eq {as : List Addr} {fs : List (List FB)} {fn : List He.DefD} {g : Addr → Option Obj} {s : Shared} (h : ∀ a, g a = s.heap.get? a) : obsA as fs fn g = (hook as fs fn).obs s := by
  have e : g = s.heap.get? := funext h
  rw [e] <;> rfl
section
variable {fs : List (List FB)} {fn : List He.DefD} {K : PySem.W.Frag}
theorem Says.fact (c : Says fs fn K) (i j : Nat) {l : List FB} {f : FB} (h1 : fs[i]? = some l) (h2 : l[j]? = some f) : f K = true := by
  have c1 := (He.ba (show ((fs.all fun l => l.all fun f => f K) && fn.all fun d => d.ok K) = true from congrArg (fun z : He.AlD => z.1) c)).1
  exact List.all_eq_true.mp (List.all_eq_true.mp c1 l (List.mem_of_getElem? h1)) f (List.mem_of_getElem? h2)
theorem Says.def_ (c : Says fs fn K) (i : Nat) {d : He.DefD} (h : fn[i]? = some d) : ∃ fd, FunD K d.name d.qual d.params d.body d.scope (d.dvs K) (d.kws K) (He.fAd K d.at_) fd := by
  have c2 := (He.ba (show ((fs.all fun l => l.all fun f => f K) && fn.all fun d => d.ok K) = true from congrArg (fun z : He.AlD => z.1) c)).2
  have e : fn.map (fun d => He.fnW K d.at_) = fn.map He.DefD.val := congrArg (fun z : He.AlD => z.2) c
  have e2 : (fn.map fun d => He.fnW K d.at_)[i]? = (fn.map He.DefD.val)[i]? := by rw [e]
  rw [List.getElem?_map, List.getElem?_map, h] at e2
  exact He.DefD.funD (Option.some.inj e2) (List.all_eq_true.mp c2 d (List.mem_of_getElem? h))
end
theorem fun_of {K : PySem.W.Frag} {x qual : Str} {st : Stmt} {f : Addr} {fd : FuncData} (F : FunD K x qual (defArgs st) (defBody st) (defScope st) [] [] f fd) : Fun K x qual st f fd := by
  obtain ⟨⟨oc, od, dV, kV, doc, pm, an, cdv, ct, osl, h1, lk, hc, hd, _⟩, kp⟩ := F
  rcases hd with ⟨_, h2⟩ | ⟨h2, _⟩
  · cases h2
    exact ⟨⟨oc, od, kV, doc, pm, an, cdv, ct, osl, h1, lk, hc⟩, kp⟩
  · exact absurd rfl h2
/-- what a class finds under a name -/
def fin (x f : Str) (v : Value) : FB := fun K => He.eqO (PySem.W.findIn K (.ref (He.ga K x)) f) (some (some v))
theorem fin_ok {K : PySem.W.Frag} {x f : Str} {v : Value} (c : fin x f v K = true) : PySem.W.findIn K (.ref (He.ga K x)) f = some (some v) := He.eqO_ok c
def mk0 (x : Str) : FB := fun K => PySem.W.makesIn K (He.ga K x) && (He.eqO (PySem.W.findIn K (.ref (He.ga K x)) "__init__") (some (some (.builtin "object.__init__"))) && PySem.W.keepIn K (.ref (He.ga K x)))
theorem mk0_ok {K : PySem.W.Frag} {x : Str} (c : mk0 x K = true) : Mk0 K (He.ga K x) := by
  obtain ⟨c1, c⟩ := He.ba c
  obtain ⟨c2, c3⟩ := He.ba c
  exact ⟨c1, He.eqO_ok c2, c3⟩
def ins (x : Str) : FB := fun K => He.eqO (PySem.W.findIn K (.ref (He.ga K x)) "__class__") (some (some (.builtin "object.__class__"))) && (He.eqO (PySem.W.specialIn K (.builtin "object.__class__") "__get__") (some (some (.builtin "getset_descriptor.__get__"))) && (decide (PySem.W.takesIn K (.builtin "object.__class__") = some true) && decide (PySem.W.mroIn K (He.ga K x) (.type "object") = some true)))
theorem ins_ok {K : PySem.W.Frag} {x : Str} (k : Cls K (He.ga K x)) (c : ins x K = true) : Ins0 K (He.ga K x) := by
  obtain ⟨c1, c⟩ := He.ba c
  obtain ⟨c2, c⟩ := He.ba c
  obtain ⟨c3, c4⟩ := He.ba c
  exact ⟨k, He.eqO_ok c1, He.eqO_ok c2, of_decide_eq_true c3, of_decide_eq_true c4⟩
def kit1 (x y : Str) (b : Bool) : FB := fun K => decide (PySem.W.kitOne K (.ref (He.ga K x)) (.ref (He.ga K y)) = some b)
theorem kit1_ok {K : PySem.W.Frag} {x y : Str} {b : Bool} (c : kit1 x y b K = true) : PySem.W.kitOne K (.ref (He.ga K x)) (.ref (He.ga K y)) = some b := of_decide_eq_true c
def kitA (x : Str) (ys : List Str) (b : Bool) : FB := fun K => decide (PySem.W.kitAny K (.ref (He.ga K x)) (ys.map fun y => .ref (He.ga K y)) = some b)
theorem kitA_ok {K : PySem.W.Frag} {x : Str} {ys : List Str} {b : Bool} (c : kitA x ys b K = true) : PySem.W.kitAny K (.ref (He.ga K x)) (ys.map fun y => .ref (He.ga K y)) = some b := of_decide_eq_true c
/-- a method, wherever it is written (in the class B) -/
def metB (C m B : Str) : FB := fun K => He.eqO (PySem.W.findIn K (.ref (He.ga K C)) m) (some (some (.ref (He.ma K (He.ga K B) m)))) && (PySem.W.isFn K (.ref (He.ma K (He.ga K B) m)) && PySem.W.keepIn K (.ref (He.ma K (He.ga K B) m)))
theorem metB_ok {K : PySem.W.Frag} {C m B : Str} (c : metB C m B K = true) : Meth K (He.ga K C) m (He.ma K (He.ga K B) m) := by
  obtain ⟨c1, c⟩ := He.ba c
  obtain ⟨c2, c3⟩ := He.ba c
  exact ⟨He.eqO_ok c1, c2, c3⟩
def mkB (C B : Str) : FB := fun K => PySem.W.makesIn K (He.ga K C) && (He.eqO (PySem.W.findIn K (.ref (He.ga K C)) "__init__") (some (some (.ref (He.ma K (He.ga K B) "__init__")))) && (PySem.W.isFn K (.ref (He.ma K (He.ga K B) "__init__")) && PySem.W.keepIn K (.ref (He.ga K C))))
theorem mkB_ok {K : PySem.W.Frag} {C B : Str} (c : mkB C B K = true) : Mk K (He.ga K C) (He.ma K (He.ga K B) "__init__") := by
  obtain ⟨c1, c⟩ := He.ba c
  obtain ⟨c2, c⟩ := He.ba c
  obtain ⟨c3, c4⟩ := He.ba c
  exact ⟨c1, He.eqO_ok c2, c3, c4⟩
def tup (x : Str) (vs : List He.Dv) : FB := fun K => He.tupB K x vs
end Hf


set_option Elab.async false
set_option linter.all false
set_option maxRecDepth 100000
set_option maxHeartbeats 4000000
namespace Wk
open PySem PySem.Spec PyProof.Rows L2 Tr
/-! ### the text by places -/
def top (i : Nat) : Stmt := PySem.Challenge.pw_treesay_k01_machines_told.main.body.getD i (.Pass ⟨0, 0, 0, 0⟩)
abbrev s_law_cell_at : Stmt := top 16
abbrev s_law_mixed : Stmt := top 17
abbrev s_law_some : Stmt := top 18
abbrev s_law_steps : Stmt := top 19
abbrev s_law_name : Stmt := top 20
abbrev s_law_parts : Stmt := top 21
abbrev s_law_copy : Stmt := top 22
abbrev s_look_stands : Stmt := top 12
abbrev s_is_mark : Stmt := top 11
abbrev s_look_machine : Stmt := top 13
abbrev s_Machine_init : Stmt := inClass (top 14) 0
abbrev s_law_made : Stmt := top 23
abbrev s_Machine_many : Stmt := inClass (top 14) 1
abbrev s_law_set : Stmt := top 24
abbrev s_Machine_marked : Stmt := inClass (top 14) 4
abbrev s_Machine_next_of : Stmt := inClass (top 14) 2
abbrev s_Machine_fair_at : Stmt := inClass (top 14) 5
abbrev s_law_tells : Stmt := top 25
abbrev s_law : Stmt := top 26
def k_KEPT : T := .nd false .rot [.lf (.str "all"), .lf (.str "not"), .lf (.str "both"), .lf (.str "either"), .lf (.str "somenext"), .lf (.str "eachnext"), .lf (.str "sometill"), .lf (.str "eachtill"), .lf (.str "someever"), .lf (.str "eachever")]
def k_LETTERS : T := .lf (.str "abcdefghijklmnopqrstuvwxyz")
def k_LONGEST : T := .lf (.int 8)
def k_MOST_STANDS : T := .lf (.int 60)
/-! ### the mirrors -/
def b_law_cell_at : DS := (dSeq (dIf (vr (o2V oLt (gV 1) (o1V oLen (gV 0)))) (dRet (re (vr (o2V oIx (gV 0) (gV 1))))) dNx) (dRet (re (vr (gC (.int 0))))))
def m_law_cell_at : FT := dFun [true, true] 2 b_law_cell_at
theorem bn_law_cell_at : b_law_cell_at = (dSeq (dIf (vr (o2V oLt (gV 1) (o1V oLen (gV 0)))) (dRet (re (vr (o2V oIx (gV 0) (gV 1))))) dNx) (dRet (re (vr (gC (.int 0)))))) := rfl
abbrev e_law_cell_at (v0_script v1_k : T) : List T := [v0_script, v1_k]
def b_law_mixed : DS := (dRet (re (vr (o2V oAdd (o2V oMul (o2V oMod (gV 0) (o2V oPow (gC (.int 10)) (gC (.int 40)))) (o2V oAdd (o2V oMul (gC (.int 2)) (gV 1)) (gC (.int 3)))) (o2V oMul (o2V oMul (o2V oAdd (gV 1) (gC (.int 1))) (gC (.int 7046029254386353131))) (o2V oAdd (gC (.int 1)) (o2V oMod (gV 0) (gC (.int 97)))))))))
def m_law_mixed : FT := dFun [true, true] 2 b_law_mixed
theorem bn_law_mixed : b_law_mixed = (dRet (re (vr (o2V oAdd (o2V oMul (o2V oMod (gV 0) (o2V oPow (gC (.int 10)) (gC (.int 40)))) (o2V oAdd (o2V oMul (gC (.int 2)) (gV 1)) (gC (.int 3)))) (o2V oMul (o2V oMul (o2V oAdd (gV 1) (gC (.int 1))) (gC (.int 7046029254386353131))) (o2V oAdd (gC (.int 1)) (o2V oMod (gV 0) (gC (.int 97))))))))) := rfl
abbrev e_law_mixed (v0_cell v1_k : T) : List T := [v0_cell, v1_k]
def b_law_some : DS := (dSeq (dSet 2 (re (vr (o2V oDiv (gV 0) (gC (.int 4)))))) (dSeq (dSet 3 (re (vr (o2V oMod (gV 2) (gV 1))))) (dSeq (dSet 4 (dLst aNil)) (dSeq (dFor (dRng (vr (gV 1))) (gN 5) (dSeq (dIf (vr (o2V oEq (o2V oMod (gV 2) (gC (.int 2))) (gC (.int 1)))) (dEx (dMut "list" 4 mAppend (aCons (re (vr (o2V oMod (o2V oAdd (gV 3) (gV 5)) (gV 1)))) aNil))) dNx) (dSet 2 (re (vr (o2V oDiv (gV 2) (gC (.int 2)))))))) (dSeq (dIf (vr (o2V oEq (o2V oMod (gV 0) (gC (.int 4))) (gC (.int 1)))) (dEx (dMut "list" 4 mReverse aNil)) dNx) (dRet (gM 4)))))))
def m_law_some : FT := dFun [true, true] 6 b_law_some
def l_law_some_1 : DS := (dSeq (dIf (vr (o2V oEq (o2V oMod (gV 2) (gC (.int 2))) (gC (.int 1)))) (dEx (dMut "list" 4 mAppend (aCons (re (vr (o2V oMod (o2V oAdd (gV 3) (gV 5)) (gV 1)))) aNil))) dNx) (dSet 2 (re (vr (o2V oDiv (gV 2) (gC (.int 2)))))))
theorem bn_law_some : b_law_some = (dSeq (dSet 2 (re (vr (o2V oDiv (gV 0) (gC (.int 4)))))) (dSeq (dSet 3 (re (vr (o2V oMod (gV 2) (gV 1))))) (dSeq (dSet 4 (dLst aNil)) (dSeq (dFor (dRng (vr (gV 1))) (gN 5) l_law_some_1) (dSeq (dIf (vr (o2V oEq (o2V oMod (gV 0) (gC (.int 4))) (gC (.int 1)))) (dEx (dMut "list" 4 mReverse aNil)) dNx) (dRet (gM 4))))))) := rfl
abbrev e_law_some (v0_cell v1_many v2_rest v3_start v4_picks v5_k : T) : List T := [v0_cell, v1_many, v2_rest, v3_start, v4_picks, v5_k]
def b_law_steps : DS := (dSeq (dSet 2 (dLst aNil)) (dSeq (dFor (dRng (vr (gV 1))) (gN 3) (dSeq (dSet 4 (dCall m_law_mixed [none, none] [] (aCons (dCall m_law_cell_at [none, none] [] (aCons (gS 0) (aCons (re (vr (o2V oAdd (gC (.int 3)) (o2V oMod (gV 3) (gC (.int 40)))))) aNil))) (aCons (gM 3) aNil)))) (dSeq (dSet 5 (dCall m_law_some [none, none] [] (aCons (gS 4) (aCons (gS 1) aNil)))) (dSeq (dIf (o2n oEq 5 (dLst aNil)) (dSet 5 (dLst (aCons (re (vr (o2V oMod (gV 4) (gV 1)))) aNil))) dNx) (dEx (dMut "list" 2 mAppend (aCons (gM 5) aNil))))))) (dRet (gM 2))))
def m_law_steps : FT := dFun [true, true] 6 b_law_steps
def l_law_steps_1 : DS := (dSeq (dSet 4 (dCall m_law_mixed [none, none] [] (aCons (dCall m_law_cell_at [none, none] [] (aCons (gS 0) (aCons (re (vr (o2V oAdd (gC (.int 3)) (o2V oMod (gV 3) (gC (.int 40)))))) aNil))) (aCons (gM 3) aNil)))) (dSeq (dSet 5 (dCall m_law_some [none, none] [] (aCons (gS 4) (aCons (gS 1) aNil)))) (dSeq (dIf (o2n oEq 5 (dLst aNil)) (dSet 5 (dLst (aCons (re (vr (o2V oMod (gV 4) (gV 1)))) aNil))) dNx) (dEx (dMut "list" 2 mAppend (aCons (gM 5) aNil))))))
theorem bn_law_steps : b_law_steps = (dSeq (dSet 2 (dLst aNil)) (dSeq (dFor (dRng (vr (gV 1))) (gN 3) l_law_steps_1) (dRet (gM 2)))) := rfl
abbrev e_law_steps (v0_script v1_many v2_steps_here v3_k v4_cell v5_some_here : T) : List T := [v0_script, v1_many, v2_steps_here, v3_k, v4_cell, v5_some_here]
def b_law_name : DS := (dSeq (dSet 2 (re (vr (gC (.str "abcdefghijklmnopqrstuvwxyz"))))) (dSeq (dSet 3 (re (vr (o2V oAdd (gC (.int 1)) (o2V oMod (gV 1) (gC (.int 8))))))) (dSeq (dSet 4 (re (vr (o2V oMod (o2V oDiv (gV 1) (gC (.int 8))) (gV 3))))) (dSeq (dSet 5 (re (vr (o2V oIx (gV 2) (o2V oMod (o2V oDiv (gV 1) (gC (.int 1664))) (gC (.int 26))))))) (dSeq (dSet 6 (re (o2v oAdd (dJoin (gC (.str "")) (dLc (dRng (vr (gV 4))) (gN 7) dYes (gS 5) [7])) (o2V oIx (gV 2) (o2V oMod (o2V oAdd (o2V oDiv (gV 1) (gC (.int 64))) (gV 0)) (gC (.int 26))))))) (dRet (re (o2n oAdd 6 (dJoin (gC (.str "")) (dLc (dRng (vr (o2V oSub (o2V oSub (gV 3) (gV 4)) (gC (.int 1))))) (gN 7) dYes (gS 5) [7]))))))))))
def m_law_name : FT := dFun [true, true] 8 b_law_name
def x_law_name_1 : DE := (gS 5)
def x_law_name_2 : DE := (gS 5)
theorem bn_law_name : b_law_name = (dSeq (dSet 2 (re (vr (gC (.str "abcdefghijklmnopqrstuvwxyz"))))) (dSeq (dSet 3 (re (vr (o2V oAdd (gC (.int 1)) (o2V oMod (gV 1) (gC (.int 8))))))) (dSeq (dSet 4 (re (vr (o2V oMod (o2V oDiv (gV 1) (gC (.int 8))) (gV 3))))) (dSeq (dSet 5 (re (vr (o2V oIx (gV 2) (o2V oMod (o2V oDiv (gV 1) (gC (.int 1664))) (gC (.int 26))))))) (dSeq (dSet 6 (re (o2v oAdd (dJoin (gC (.str "")) (dLc (dRng (vr (gV 4))) (gN 7) dYes x_law_name_1 [7])) (o2V oIx (gV 2) (o2V oMod (o2V oAdd (o2V oDiv (gV 1) (gC (.int 64))) (gV 0)) (gC (.int 26))))))) (dRet (re (o2n oAdd 6 (dJoin (gC (.str "")) (dLc (dRng (vr (o2V oSub (o2V oSub (gV 3) (gV 4)) (gC (.int 1))))) (gN 7) dYes x_law_name_2 [7])))))))))) := rfl
abbrev e_law_name (v0_k v1_seed v2_letters v3_size v4_spot v5_base v6_text v7_j : T) : List T := [v0_k, v1_seed, v2_letters, v3_size, v4_spot, v5_base, v6_text, v7_j]
def b_law_parts : DS := (dSeq (dSet 1 (dCall m_law_cell_at [none, none] [] (aCons (gS 0) (aCons (re (vr (gC (.int 0)))) aNil)))) (dSeq (dSet 2 (re (o2c oAdd (vr (gC (.int 1))) (o2c oMod (vr (o2V oDiv (gV 1) (gC (.int 4)))) (o2v oIx (dLst (aCons (re (vr (gC (.int 8)))) (aCons (re (vr (gC (.int 8)))) (aCons (re (vr (gC (.int 8)))) (aCons (re (vr (gC (.int 60)))) aNil))))) (o2V oMod (gV 1) (gC (.int 4)))))))) (dSeq (dSet 3 (dCall m_law_cell_at [none, none] [] (aCons (gS 0) (aCons (re (vr (gC (.int 1)))) aNil)))) (dSeq (dSet 4 (dCall m_law_steps [none, none] [] (aCons (gS 0) (aCons (gS 2) aNil)))) (dSeq (dSet 5 (dLst aNil)) (dSeq (dFor (dRng (o2v oMod (dCall m_law_cell_at [none, none] [] (aCons (gS 0) (aCons (re (vr (gC (.int 2)))) aNil))) (gC (.int 13)))) (gN 6) (dSeq (dSet 8 (dCall m_law_name [none, none] [] (aCons (gS 6) (aCons (gS 3) aNil)))) (dSeq (dIf (vr (o2V oEq (gV 8) (gC (.str "all")))) (dSet 8 (re (vr (gC (.str "allall"))))) dNx) (dEx (dMut "list" 5 mAppend (aCons (dTup (aCons (gM 8) (aCons (dCall m_law_some [none, none] [] (aCons (dCall m_law_mixed [none, none] [] (aCons (dCall m_law_cell_at [none, none] [] (aCons (gS 0) (aCons (re (vr (o2V oAdd (gC (.int 11)) (gV 6)))) aNil))) (aCons (re (vr (o2V oAdd (gV 6) (gC (.int 70))))) aNil))) (aCons (gS 2) aNil))) aNil))) aNil)))))) (dSeq (dSet 7 (dLst aNil)) (dSeq (dFor (dRng (o2v oMod (o2v oDiv (dCall m_law_cell_at [none, none] [] (aCons (gS 0) (aCons (re (vr (gC (.int 2)))) aNil))) (gC (.int 13))) (gC (.int 7)))) (gN 6) (dEx (dMut "list" 7 mAppend (aCons (dCall m_law_some [none, none] [] (aCons (dCall m_law_mixed [none, none] [] (aCons (dCall m_law_cell_at [none, none] [] (aCons (gS 0) (aCons (re (vr (o2V oAdd (gC (.int 23)) (gV 6)))) aNil))) (aCons (re (vr (o2V oAdd (gV 6) (gC (.int 90))))) aNil))) (aCons (gS 2) aNil))) aNil)))) (dRet (dTup (aCons (gM 4) (aCons (gM 5) (aCons (gM 7) aNil)))))))))))))
def m_law_parts : FT := dFun [true] 9 b_law_parts
def l_law_parts_1 : DS := (dSeq (dSet 8 (dCall m_law_name [none, none] [] (aCons (gS 6) (aCons (gS 3) aNil)))) (dSeq (dIf (vr (o2V oEq (gV 8) (gC (.str "all")))) (dSet 8 (re (vr (gC (.str "allall"))))) dNx) (dEx (dMut "list" 5 mAppend (aCons (dTup (aCons (gM 8) (aCons (dCall m_law_some [none, none] [] (aCons (dCall m_law_mixed [none, none] [] (aCons (dCall m_law_cell_at [none, none] [] (aCons (gS 0) (aCons (re (vr (o2V oAdd (gC (.int 11)) (gV 6)))) aNil))) (aCons (re (vr (o2V oAdd (gV 6) (gC (.int 70))))) aNil))) (aCons (gS 2) aNil))) aNil))) aNil)))))
def l_law_parts_2 : DS := (dEx (dMut "list" 7 mAppend (aCons (dCall m_law_some [none, none] [] (aCons (dCall m_law_mixed [none, none] [] (aCons (dCall m_law_cell_at [none, none] [] (aCons (gS 0) (aCons (re (vr (o2V oAdd (gC (.int 23)) (gV 6)))) aNil))) (aCons (re (vr (o2V oAdd (gV 6) (gC (.int 90))))) aNil))) (aCons (gS 2) aNil))) aNil)))
theorem bn_law_parts : b_law_parts = (dSeq (dSet 1 (dCall m_law_cell_at [none, none] [] (aCons (gS 0) (aCons (re (vr (gC (.int 0)))) aNil)))) (dSeq (dSet 2 (re (o2c oAdd (vr (gC (.int 1))) (o2c oMod (vr (o2V oDiv (gV 1) (gC (.int 4)))) (o2v oIx (dLst (aCons (re (vr (gC (.int 8)))) (aCons (re (vr (gC (.int 8)))) (aCons (re (vr (gC (.int 8)))) (aCons (re (vr (gC (.int 60)))) aNil))))) (o2V oMod (gV 1) (gC (.int 4)))))))) (dSeq (dSet 3 (dCall m_law_cell_at [none, none] [] (aCons (gS 0) (aCons (re (vr (gC (.int 1)))) aNil)))) (dSeq (dSet 4 (dCall m_law_steps [none, none] [] (aCons (gS 0) (aCons (gS 2) aNil)))) (dSeq (dSet 5 (dLst aNil)) (dSeq (dFor (dRng (o2v oMod (dCall m_law_cell_at [none, none] [] (aCons (gS 0) (aCons (re (vr (gC (.int 2)))) aNil))) (gC (.int 13)))) (gN 6) l_law_parts_1) (dSeq (dSet 7 (dLst aNil)) (dSeq (dFor (dRng (o2v oMod (o2v oDiv (dCall m_law_cell_at [none, none] [] (aCons (gS 0) (aCons (re (vr (gC (.int 2)))) aNil))) (gC (.int 13))) (gC (.int 7)))) (gN 6) l_law_parts_2) (dRet (dTup (aCons (gM 4) (aCons (gM 5) (aCons (gM 7) aNil))))))))))))) := rfl
abbrev e_law_parts (v0_script v1_cell v2_many v3_seed v4_steps_here v5_marks v6_k v7_fair v8_name_here : T) : List T := [v0_script, v1_cell, v2_many, v3_seed, v4_steps_here, v5_marks, v6_k, v7_fair, v8_name_here]
def b_law_copy : DS := (dSeq (dAsg (gM 0) (gT3 (gN 1) (gN 2) (gN 3))) (dRet (dTup (aCons (dLc (dIt itemsL (gM 1)) (gN 4) dYes (o1 oList (vr (gV 4))) [4]) (aCons (dLc (dIt itemsL (gM 2)) (gT2 (gN 5) (gN 4)) dYes (dTup (aCons (gM 5) (aCons (o1 oList (vr (gV 4))) aNil))) [5, 4]) (aCons (dLc (dIt itemsL (gM 3)) (gN 4) dYes (o1 oList (vr (gV 4))) [4]) aNil))))))
def m_law_copy : FT := dFun [true] 6 b_law_copy
def x_law_copy_1 : DE := (o1 oList (vr (gV 4)))
def x_law_copy_2 : DE := (dTup (aCons (gM 5) (aCons (o1 oList (vr (gV 4))) aNil)))
def x_law_copy_3 : DE := (o1 oList (vr (gV 4)))
theorem bn_law_copy : b_law_copy = (dSeq (dAsg (gM 0) (gT3 (gN 1) (gN 2) (gN 3))) (dRet (dTup (aCons (dLc (dIt itemsL (gM 1)) (gN 4) dYes x_law_copy_3 [4]) (aCons (dLc (dIt itemsL (gM 2)) (gT2 (gN 5) (gN 4)) dYes x_law_copy_2 [5, 4]) (aCons (dLc (dIt itemsL (gM 3)) (gN 4) dYes x_law_copy_1 [4]) aNil)))))) := rfl
abbrev e_law_copy (v0_parts_here v1_steps_here v2_marks v3_fair v4_some_here v5_name_here : T) : List T := [v0_parts_here, v1_steps_here, v2_marks, v3_fair, v4_some_here, v5_name_here]
def b_look_stands : DS := (dSeq (dSet 2 dDic) (dFor (dIt itemsL (gM 0)) (gN 3) (dSeq (dIf (dOr (o1 oNot (vr (o1V (oIsi "int") (gV 3)))) (vr (o1V (oIsi "bool") (gV 3)))) dFail dNx) (dSeq (dIf (dOr (vr (o2V oLt (gV 3) (gC (.int 0)))) (dOr (vr (o2V oGe (gV 3) (gV 1))) (vr (o2V oIn (gV 3) (gV 2))))) dFail dNx) (dPut 2 mSetD (re (vr (gC (.bl true)))) (gV 3))))))
def m_look_stands : FT := dFun [true, true] 4 b_look_stands
def l_look_stands_1 : DS := (dSeq (dIf (dOr (o1 oNot (vr (o1V (oIsi "int") (gV 3)))) (vr (o1V (oIsi "bool") (gV 3)))) dFail dNx) (dSeq (dIf (dOr (vr (o2V oLt (gV 3) (gC (.int 0)))) (dOr (vr (o2V oGe (gV 3) (gV 1))) (vr (o2V oIn (gV 3) (gV 2))))) dFail dNx) (dPut 2 mSetD (re (vr (gC (.bl true)))) (gV 3))))
theorem bn_look_stands : b_look_stands = (dSeq (dSet 2 dDic) (dFor (dIt itemsL (gM 0)) (gN 3) l_look_stands_1)) := rfl
abbrev e_look_stands (v0_stands v1_many v2_ahead v3_stand : T) : List T := [v0_stands, v1_many, v2_ahead, v3_stand]
def b_is_mark : DS := (dSeq (dIf (dOr (vr (o2V oLt (o1V oLen (gV 0)) (gC (.int 1)))) (dOr (vr (o2V oGt (o1V oLen (gV 0)) (gG k_LONGEST))) (vr (o2V oIn (gV 0) (gG k_KEPT))))) (dRet (re (vr (gC (.bl false))))) dNx) (dSeq (dFor (dIt itemsS (vr (gV 0))) (gN 1) (dIf (vr (o2V oNotIn (gV 1) (gG k_LETTERS))) (dRet (re (vr (gC (.bl false))))) dNx)) (dRet (re (vr (gC (.bl true)))))))
def m_is_mark : FT := dFun [true] 2 b_is_mark
def l_is_mark_1 : DS := (dIf (vr (o2V oNotIn (gV 1) (gG k_LETTERS))) (dRet (re (vr (gC (.bl false))))) dNx)
theorem bn_is_mark : b_is_mark = (dSeq (dIf (dOr (vr (o2V oLt (o1V oLen (gV 0)) (gC (.int 1)))) (dOr (vr (o2V oGt (o1V oLen (gV 0)) (gG k_LONGEST))) (vr (o2V oIn (gV 0) (gG k_KEPT))))) (dRet (re (vr (gC (.bl false))))) dNx) (dSeq (dFor (dIt itemsS (vr (gV 0))) (gN 1) l_is_mark_1) (dRet (re (vr (gC (.bl true))))))) := rfl
abbrev e_is_mark (v0_name v1_sign : T) : List T := [v0_name, v1_sign]
def b_look_machine : DS := (dSeq (dSet 3 (re (vr (o1V oLen (gV 0))))) (dSeq (dIf (dOr (vr (o2V oLt (gV 3) (gC (.int 1)))) (vr (o2V oGt (gV 3) (gG k_MOST_STANDS)))) dFail dNx) (dSeq (dFor (dIt itemsL (gM 0)) (gN 4) (dSeq (dEx (dCall m_look_stands [none, none] [] (aCons (gS 4) (aCons (gS 3) aNil)))) (dIf (vr (o2V oEq (o1V oLen (gV 4)) (gC (.int 0)))) dFail dNx))) (dSeq (dSet 5 dDic) (dSeq (dFor (dIt itemsL (gM 1)) (gT2 (gN 6) (gN 4)) (dSeq (dIf (dOr (o1 oNot (bw (dCall m_is_mark [none] [] (aCons (gS 6) aNil)))) (vr (o2V oIn (gV 6) (gV 5)))) dFail dNx) (dSeq (dPut 5 mSetD (re (vr (gC (.bl true)))) (gV 6)) (dEx (dCall m_look_stands [none, none] [] (aCons (gM 4) (aCons (gS 3) aNil))))))) (dFor (dIt itemsL (gM 2)) (gN 4) (dEx (dCall m_look_stands [none, none] [] (aCons (gM 4) (aCons (gS 3) aNil))))))))))
def m_look_machine : FT := dFun [true, true, true] 7 b_look_machine
def l_look_machine_1 : DS := (dSeq (dEx (dCall m_look_stands [none, none] [] (aCons (gS 4) (aCons (gS 3) aNil)))) (dIf (vr (o2V oEq (o1V oLen (gV 4)) (gC (.int 0)))) dFail dNx))
def l_look_machine_2 : DS := (dSeq (dIf (dOr (o1 oNot (bw (dCall m_is_mark [none] [] (aCons (gS 6) aNil)))) (vr (o2V oIn (gV 6) (gV 5)))) dFail dNx) (dSeq (dPut 5 mSetD (re (vr (gC (.bl true)))) (gV 6)) (dEx (dCall m_look_stands [none, none] [] (aCons (gM 4) (aCons (gS 3) aNil))))))
def l_look_machine_3 : DS := (dEx (dCall m_look_stands [none, none] [] (aCons (gM 4) (aCons (gS 3) aNil))))
theorem bn_look_machine : b_look_machine = (dSeq (dSet 3 (re (vr (o1V oLen (gV 0))))) (dSeq (dIf (dOr (vr (o2V oLt (gV 3) (gC (.int 1)))) (vr (o2V oGt (gV 3) (gG k_MOST_STANDS)))) dFail dNx) (dSeq (dFor (dIt itemsL (gM 0)) (gN 4) l_look_machine_1) (dSeq (dSet 5 dDic) (dSeq (dFor (dIt itemsL (gM 1)) (gT2 (gN 6) (gN 4)) l_look_machine_2) (dFor (dIt itemsL (gM 2)) (gN 4) l_look_machine_3)))))) := rfl
abbrev e_look_machine (v0_steps v1_marks v2_fair v3_many v4_stands v5_ahead v6_name : T) : List T := [v0_steps, v1_marks, v2_fair, v3_many, v4_stands, v5_ahead, v6_name]
def b_Machine_init : DS := (dSeq (dIf (vr (o2V oIsN (gV 2) (gC .non))) (dSet 2 (dLst aNil)) dNx) (dSeq (dIf (vr (o2V oIsN (gV 3) (gC .non))) (dSet 3 (dLst aNil)) dNx) (dSeq (dEx (dCall m_look_machine [none, none, none] [] (aCons (gS 1) (aCons (gS 2) (aCons (gS 3) aNil))))) (dSeq (dPut 0 (fun _ => mFld "Machine" "steps") (dLc (dIt itemsL (gM 1)) (gN 4) dYes (o1 oList (vr (gV 4))) [4]) (gC .non)) (dSeq (dPut 0 (fun _ => mFld "Machine" "marks") (dLc (dIt itemsL (gM 2)) (gN 5) dYes (dTupO (aCons (re (vr (o2V oIx (gV 5) (gC (.int 0))))) (aCons (o1 oList (vr (o2V oIx (gV 5) (gC (.int 1))))) aNil))) [5]) (gC .non)) (dPut 0 (fun _ => mFld "Machine" "fair") (dLc (dIt itemsL (gM 3)) (gN 4) dYes (o1 oList (vr (gV 4))) [4]) (gC .non)))))))
def m_Machine_init : FT := dFun [true, true, false, false] 6 b_Machine_init
def x_Machine_init_1 : DE := (o1 oList (vr (gV 4)))
def x_Machine_init_2 : DE := (dTupO (aCons (re (vr (o2V oIx (gV 5) (gC (.int 0))))) (aCons (o1 oList (vr (o2V oIx (gV 5) (gC (.int 1))))) aNil)))
def x_Machine_init_3 : DE := (o1 oList (vr (gV 4)))
theorem bn_Machine_init : b_Machine_init = (dSeq (dIf (vr (o2V oIsN (gV 2) (gC .non))) (dSet 2 (dLst aNil)) dNx) (dSeq (dIf (vr (o2V oIsN (gV 3) (gC .non))) (dSet 3 (dLst aNil)) dNx) (dSeq (dEx (dCall m_look_machine [none, none, none] [] (aCons (gS 1) (aCons (gS 2) (aCons (gS 3) aNil))))) (dSeq (dPut 0 (fun _ => mFld "Machine" "steps") (dLc (dIt itemsL (gM 1)) (gN 4) dYes x_Machine_init_1 [4]) (gC .non)) (dSeq (dPut 0 (fun _ => mFld "Machine" "marks") (dLc (dIt itemsL (gM 2)) (gN 5) dYes x_Machine_init_2 [5]) (gC .non)) (dPut 0 (fun _ => mFld "Machine" "fair") (dLc (dIt itemsL (gM 3)) (gN 4) dYes x_Machine_init_3 [4]) (gC .non))))))) := rfl
abbrev e_Machine_init (v0_self v1_steps v2_marks v3_fair v4_stands v5_pair : T) : List T := [v0_self, v1_steps, v2_marks, v3_fair, v4_stands, v5_pair]
def b_law_made : DS := (dSeq (dAsg (dCall m_law_copy [none] [] (aCons (gS 0) aNil)) (gT3 (gN 3) (gN 4) (gN 5))) (dSeq (dSet 1 (bw (dMake "Machine" m_Machine_init [none, none, none] [] (aCons (gS 3) (aCons (gS 4) (aCons (gS 5) aNil)))))) (dSeq (dIf (bwS (o2v oNe (dTup (aCons (gS 3) (aCons (gS 4) (aCons (gS 5) aNil)))) (gV 0))) (dRet (re (vr (gC .non)))) dNx) (dSeq (dForE (dCatR (dCatL 3 (dPick 4)) 5) (gN 2) (dEx (dMut "list" 2 mClear aNil))) (dSeq (dEx (dMut "list" 3 mClear aNil)) (dSeq (dEx (dMut "list" 4 mClear aNil)) (dSeq (dEx (dMut "list" 5 mClear aNil)) (dRet (gM 1)))))))))
def m_law_made : FT := dFun [true] 7 b_law_made
def l_law_made_1 : DS := (dEx (dMut "list" 2 mClear aNil))
theorem bn_law_made : b_law_made = (dSeq (dAsg (dCall m_law_copy [none] [] (aCons (gS 0) aNil)) (gT3 (gN 3) (gN 4) (gN 5))) (dSeq (dSet 1 (bw (dMake "Machine" m_Machine_init [none, none, none] [] (aCons (gS 3) (aCons (gS 4) (aCons (gS 5) aNil)))))) (dSeq (dIf (bwS (o2v oNe (dTup (aCons (gS 3) (aCons (gS 4) (aCons (gS 5) aNil)))) (gV 0))) (dRet (re (vr (gC .non)))) dNx) (dSeq (dForE (dCatR (dCatL 3 (dPick 4)) 5) (gN 2) l_law_made_1) (dSeq (dEx (dMut "list" 3 mClear aNil)) (dSeq (dEx (dMut "list" 4 mClear aNil)) (dSeq (dEx (dMut "list" 5 mClear aNil)) (dRet (gM 1))))))))) := rfl
abbrev e_law_made (v0_parts_here v1_machine v2_some_here v3_steps_here v4_marks v5_fair v6_pair : T) : List T := [v0_parts_here, v1_machine, v2_some_here, v3_steps_here, v4_marks, v5_fair, v6_pair]
def b_Machine_many : DS := (dRet (re (vr (o1V oLen (o1V (oFld "Machine" "steps") (gV 0))))))
def m_Machine_many : FT := dFun [true] 1 b_Machine_many
theorem bn_Machine_many : b_Machine_many = (dRet (re (vr (o1V oLen (o1V (oFld "Machine" "steps") (gV 0)))))) := rfl
abbrev e_Machine_many (v0_self : T) : List T := [v0_self]
def b_law_set : DS := (dSeq (dIf (dOr (o1 oNot (vr (o1V (oIsi "list") (gV 0)))) (o2n oNe 0 (o1 oSorted (vr (gV 1))))) (dRet (re (vr (gC (.bl false))))) dNx) (dSeq (dForL 0 (gN 2) (dIf (dOr (o1 oNot (vr (o1V (oIsi "int") (gV 2)))) (vr (o1V (oIsi "bool") (gV 2)))) (dRet (re (vr (gC (.bl false))))) dNx)) (dSeq (dEx (dMut "list" 0 mClear aNil)) (dRet (re (vr (gC (.bl true))))))))
def m_law_set : FT := dFun [true, true] 3 b_law_set
def l_law_set_1 : DS := (dIf (dOr (o1 oNot (vr (o1V (oIsi "int") (gV 2)))) (vr (o1V (oIsi "bool") (gV 2)))) (dRet (re (vr (gC (.bl false))))) dNx)
theorem bn_law_set : b_law_set = (dSeq (dIf (dOr (o1 oNot (vr (o1V (oIsi "list") (gV 0)))) (o2n oNe 0 (o1 oSorted (vr (gV 1))))) (dRet (re (vr (gC (.bl false))))) dNx) (dSeq (dForL 0 (gN 2) l_law_set_1) (dSeq (dEx (dMut "list" 0 mClear aNil)) (dRet (re (vr (gC (.bl true)))))))) := rfl
abbrev e_law_set (v0_found v1_due v2_number : T) : List T := [v0_found, v1_due, v2_number]
def b_Machine_marked : DS := (dSeq (dFor (dIt itemsL (fz 0 (re (vr (o1V (oFld "Machine" "marks") (gV 0)))))) (gT2 (gN 2) (gN 3)) (dIf (vr (o2V oEq (gV 2) (gV 1))) (dRet (o1 oSorted (vr (gV 3)))) dNx)) (dRet (dLst aNil)))
def m_Machine_marked : FT := dFun [true, true] 4 b_Machine_marked
def l_Machine_marked_1 : DS := (dIf (vr (o2V oEq (gV 2) (gV 1))) (dRet (o1 oSorted (vr (gV 3)))) dNx)
theorem bn_Machine_marked : b_Machine_marked = (dSeq (dFor (dIt itemsL (fz 0 (re (vr (o1V (oFld "Machine" "marks") (gV 0)))))) (gT2 (gN 2) (gN 3)) l_Machine_marked_1) (dRet (dLst aNil))) := rfl
abbrev e_Machine_marked (v0_self v1_name v2_known v3_stands : T) : List T := [v0_self, v1_name, v2_known, v3_stands]
def b_Machine_next_of : DS := (dRet (o1 oSorted (vr (o2V oIx (o1V (oFld "Machine" "steps") (gV 0)) (gV 1)))))
def m_Machine_next_of : FT := dFun [true, true] 2 b_Machine_next_of
theorem bn_Machine_next_of : b_Machine_next_of = (dRet (o1 oSorted (vr (o2V oIx (o1V (oFld "Machine" "steps") (gV 0)) (gV 1))))) := rfl
abbrev e_Machine_next_of (v0_self v1_stand : T) : List T := [v0_self, v1_stand]
def b_Machine_fair_at : DS := (dRet (o1 oSorted (vr (o2V oIx (o1V (oFld "Machine" "fair") (gV 0)) (gV 1)))))
def m_Machine_fair_at : FT := dFun [true, true] 2 b_Machine_fair_at
theorem bn_Machine_fair_at : b_Machine_fair_at = (dRet (o1 oSorted (vr (o2V oIx (o1V (oFld "Machine" "fair") (gV 0)) (gV 1))))) := rfl
abbrev e_Machine_fair_at (v0_self v1_number : T) : List T := [v0_self, v1_number]
def b_law_tells : DS := (dSeq (dAsg (gM 1) (gT3 (gN 6) (gN 7) (gN 8))) (dSeq (dSet 2 (bw (dMeth "Machine" "many" m_Machine_many none [] [] (gS 0) aNil))) (dSeq (dIf (dOr (o1 oNot (vr (o1V (oIsi "int") (gV 2)))) (dOr (vr (o1V (oIsi "bool") (gV 2))) (vr (o2V oNe (gV 2) (o1V oLen (gV 6)))))) (dRet (re (vr (gC (.bl false))))) dNx) (dSeq (dFor (dRng (vr (gV 2))) (gN 3) (dIf (o1 oNot (dCall m_law_set [none, none] [] (aCons (dMeth "Machine" "next_of" m_Machine_next_of none [none] [] (gS 0) (aCons (gS 3) aNil)) (aCons (re (vr (o2V oIx (gV 6) (gV 3)))) aNil)))) (dRet (re (vr (gC (.bl false))))) dNx)) (dSeq (dFor (dIt itemsL (gS 7)) (gT2 (gN 9) (gN 10)) (dIf (o1 oNot (dCall m_law_set [none, none] [] (aCons (dMeth "Machine" "marked" m_Machine_marked none [none] [] (gS 0) (aCons (gM 9) aNil)) (aCons (gM 10) aNil)))) (dRet (re (vr (gC (.bl false))))) dNx)) (dSeq (dFor (dRng (vr (o1V oLen (gV 8)))) (gN 4) (dIf (o1 oNot (dCall m_law_set [none, none] [] (aCons (dMeth "Machine" "fair_at" m_Machine_fair_at none [none] [] (gS 0) (aCons (gS 4) aNil)) (aCons (re (vr (o2V oIx (gV 8) (gV 4)))) aNil)))) (dRet (re (vr (gC (.bl false))))) dNx)) (dSeq (dSet 5 (dLc (dIt itemsL (gM 7)) (gN 11) dYes (re (vr (o2V oIx (gV 11) (gC (.int 0))))) [11])) (dRet (re (dOr (vr (o2V oIn (gC (.str "zzyx")) (gV 5))) (o2o oEq (dMeth "Machine" "marked" m_Machine_marked none [none] [] (gM 0) (aCons (re (vr (gC (.str "zzyx")))) aNil)) (dLst aNil))))))))))))
def m_law_tells : FT := dFun [true, true] 12 b_law_tells
def l_law_tells_1 : DS := (dIf (o1 oNot (dCall m_law_set [none, none] [] (aCons (dMeth "Machine" "next_of" m_Machine_next_of none [none] [] (gS 0) (aCons (gS 3) aNil)) (aCons (re (vr (o2V oIx (gV 6) (gV 3)))) aNil)))) (dRet (re (vr (gC (.bl false))))) dNx)
def l_law_tells_2 : DS := (dIf (o1 oNot (dCall m_law_set [none, none] [] (aCons (dMeth "Machine" "marked" m_Machine_marked none [none] [] (gS 0) (aCons (gM 9) aNil)) (aCons (gM 10) aNil)))) (dRet (re (vr (gC (.bl false))))) dNx)
def l_law_tells_3 : DS := (dIf (o1 oNot (dCall m_law_set [none, none] [] (aCons (dMeth "Machine" "fair_at" m_Machine_fair_at none [none] [] (gS 0) (aCons (gS 4) aNil)) (aCons (re (vr (o2V oIx (gV 8) (gV 4)))) aNil)))) (dRet (re (vr (gC (.bl false))))) dNx)
def x_law_tells_1 : DE := (re (vr (o2V oIx (gV 11) (gC (.int 0)))))
theorem bn_law_tells : b_law_tells = (dSeq (dAsg (gM 1) (gT3 (gN 6) (gN 7) (gN 8))) (dSeq (dSet 2 (bw (dMeth "Machine" "many" m_Machine_many none [] [] (gS 0) aNil))) (dSeq (dIf (dOr (o1 oNot (vr (o1V (oIsi "int") (gV 2)))) (dOr (vr (o1V (oIsi "bool") (gV 2))) (vr (o2V oNe (gV 2) (o1V oLen (gV 6)))))) (dRet (re (vr (gC (.bl false))))) dNx) (dSeq (dFor (dRng (vr (gV 2))) (gN 3) l_law_tells_1) (dSeq (dFor (dIt itemsL (gS 7)) (gT2 (gN 9) (gN 10)) l_law_tells_2) (dSeq (dFor (dRng (vr (o1V oLen (gV 8)))) (gN 4) l_law_tells_3) (dSeq (dSet 5 (dLc (dIt itemsL (gM 7)) (gN 11) dYes x_law_tells_1 [11])) (dRet (re (dOr (vr (o2V oIn (gC (.str "zzyx")) (gV 5))) (o2o oEq (dMeth "Machine" "marked" m_Machine_marked none [none] [] (gM 0) (aCons (re (vr (gC (.str "zzyx")))) aNil)) (dLst aNil)))))))))))) := rfl
abbrev e_law_tells (v0_machine v1_parts_here v2_many v3_stand v4_k v5_known v6_steps_here v7_marks v8_fair v9_name_here v10_some_here v11_pair : T) : List T := [v0_machine, v1_parts_here, v2_many, v3_stand, v4_k, v5_known, v6_steps_here, v7_marks, v8_fair, v9_name_here, v10_some_here, v11_pair]
def b_law : DS := (dSeq (dSet 1 (dCall m_law_parts [none] [] (aCons (gM 0) aNil))) (dSeq (dSet 2 (fre (dCall m_law_made [none] [] (aCons (gS 1) aNil)))) (dSeq (dIf (vr (o2V oIsN (gV 2) (gC .non))) (dRet (re (vr (gC (.bl false))))) dNx) (dSeq (dFor (dRng (vr (gC (.int 2)))) (gN 3) (dSeq (dIf (dOr (vr (o2V oNe (o1V (oFld "Machine" "steps") (gV 2)) (o2V oIx (gV 1) (gC (.int 0))))) (dOr (vr (o2V oNe (o1V (oFld "Machine" "marks") (gV 2)) (o2V oIx (gV 1) (gC (.int 1))))) (vr (o2V oNe (o1V (oFld "Machine" "fair") (gV 2)) (o2V oIx (gV 1) (gC (.int 2))))))) (dRet (re (vr (gC (.bl false))))) dNx) (dIf (o1 oNot (bw (dCall m_law_tells [none, none] [] (aCons (gS 2) (aCons (gS 1) aNil))))) (dRet (re (vr (gC (.bl false))))) dNx))) (dSeq (dSet 4 (fre (dMake "Machine" m_Machine_init [none] [.non, .non] (aCons (fz 1 (re (vr (o2V oIx (gV 1) (gC (.int 0)))))) aNil)))) (dRet (re (dAnd (o2c oEq (vr (o1V (oFld "Machine" "marks") (gV 4))) (dLst aNil)) (dAnd (o2c oEq (vr (o1V (oFld "Machine" "fair") (gV 4))) (dLst aNil)) (o2c oEq (o1 (oFld "Machine" "fair") (fre (dMake "Machine" m_Machine_init [none, none] [.non] (aCons (fz 1 (re (vr (o2V oIx (gV 1) (gC (.int 0)))))) (aCons (fz 1 (re (vr (o2V oIx (gV 1) (gC (.int 1)))))) aNil))))) (dLst aNil)))))))))))
def m_law : FT := dFun [true] 5 b_law
def l_law_1 : DS := (dSeq (dIf (dOr (vr (o2V oNe (o1V (oFld "Machine" "steps") (gV 2)) (o2V oIx (gV 1) (gC (.int 0))))) (dOr (vr (o2V oNe (o1V (oFld "Machine" "marks") (gV 2)) (o2V oIx (gV 1) (gC (.int 1))))) (vr (o2V oNe (o1V (oFld "Machine" "fair") (gV 2)) (o2V oIx (gV 1) (gC (.int 2))))))) (dRet (re (vr (gC (.bl false))))) dNx) (dIf (o1 oNot (bw (dCall m_law_tells [none, none] [] (aCons (gS 2) (aCons (gS 1) aNil))))) (dRet (re (vr (gC (.bl false))))) dNx))
theorem bn_law : b_law = (dSeq (dSet 1 (dCall m_law_parts [none] [] (aCons (gM 0) aNil))) (dSeq (dSet 2 (fre (dCall m_law_made [none] [] (aCons (gS 1) aNil)))) (dSeq (dIf (vr (o2V oIsN (gV 2) (gC .non))) (dRet (re (vr (gC (.bl false))))) dNx) (dSeq (dFor (dRng (vr (gC (.int 2)))) (gN 3) l_law_1) (dSeq (dSet 4 (fre (dMake "Machine" m_Machine_init [none] [.non, .non] (aCons (fz 1 (re (vr (o2V oIx (gV 1) (gC (.int 0)))))) aNil)))) (dRet (re (dAnd (o2c oEq (vr (o1V (oFld "Machine" "marks") (gV 4))) (dLst aNil)) (dAnd (o2c oEq (vr (o1V (oFld "Machine" "fair") (gV 4))) (dLst aNil)) (o2c oEq (o1 (oFld "Machine" "fair") (fre (dMake "Machine" m_Machine_init [none, none] [.non] (aCons (fz 1 (re (vr (o2V oIx (gV 1) (gC (.int 0)))))) (aCons (fz 1 (re (vr (o2V oIx (gV 1) (gC (.int 1)))))) aNil))))) (dLst aNil))))))))))) := rfl
abbrev e_law (v0_script v1_parts_here v2_machine v3_turn v4_bare : T) : List T := [v0_script, v1_parts_here, v2_machine, v3_turn, v4_bare]
/-! ### what the top has written -/
structure Txt (K : PySem.W.Frag) (mg : Mg) where
  C_Machine : Addr
  m_Machine : mg "Machine" = some (.ref C_Machine)
  cl_Machine : Cls K C_Machine
  na_Machine_fair : NoAttr K C_Machine "fair"
  na_Machine_marks : NoAttr K C_Machine "marks"
  na_Machine_steps : NoAttr K C_Machine "steps"
  a_law_cell_at : Addr
  fd_law_cell_at : FuncData
  F_law_cell_at : Fun K "_law_cell_at" "_law_cell_at" s_law_cell_at a_law_cell_at fd_law_cell_at
  g_law_cell_at : mg "_law_cell_at" = some (.ref a_law_cell_at)
  b_law_cell_at : L2.Binds K fd_law_cell_at ["_law_script", "_law_k"] []
  a_law_mixed : Addr
  fd_law_mixed : FuncData
  F_law_mixed : Fun K "_law_mixed" "_law_mixed" s_law_mixed a_law_mixed fd_law_mixed
  g_law_mixed : mg "_law_mixed" = some (.ref a_law_mixed)
  b_law_mixed : L2.Binds K fd_law_mixed ["_law_cell", "_law_k"] []
  a_law_some : Addr
  fd_law_some : FuncData
  F_law_some : Fun K "_law_some" "_law_some" s_law_some a_law_some fd_law_some
  g_law_some : mg "_law_some" = some (.ref a_law_some)
  b_law_some : L2.Binds K fd_law_some ["_law_cell", "_law_many"] []
  a_law_steps : Addr
  fd_law_steps : FuncData
  F_law_steps : Fun K "_law_steps" "_law_steps" s_law_steps a_law_steps fd_law_steps
  g_law_steps : mg "_law_steps" = some (.ref a_law_steps)
  b_law_steps : L2.Binds K fd_law_steps ["_law_script", "_law_many"] []
  a_law_name : Addr
  fd_law_name : FuncData
  F_law_name : Fun K "_law_name" "_law_name" s_law_name a_law_name fd_law_name
  g_law_name : mg "_law_name" = some (.ref a_law_name)
  b_law_name : L2.Binds K fd_law_name ["_law_k", "_law_seed"] []
  a_law_parts : Addr
  fd_law_parts : FuncData
  F_law_parts : Fun K "_law_parts" "_law_parts" s_law_parts a_law_parts fd_law_parts
  g_law_parts : mg "_law_parts" = some (.ref a_law_parts)
  b_law_parts : L2.Binds K fd_law_parts ["_law_script"] []
  a_law_copy : Addr
  fd_law_copy : FuncData
  F_law_copy : Fun K "_law_copy" "_law_copy" s_law_copy a_law_copy fd_law_copy
  g_law_copy : mg "_law_copy" = some (.ref a_law_copy)
  b_law_copy : L2.Binds K fd_law_copy ["_law_parts_here"] []
  a_look_stands : Addr
  fd_look_stands : FuncData
  F_look_stands : Fun K "look_stands" "look_stands" s_look_stands a_look_stands fd_look_stands
  g_look_stands : mg "look_stands" = some (.ref a_look_stands)
  b_look_stands : L2.Binds K fd_look_stands ["stands", "many"] []
  a_is_mark : Addr
  fd_is_mark : FuncData
  F_is_mark : Fun K "is_mark" "is_mark" s_is_mark a_is_mark fd_is_mark
  g_is_mark : mg "is_mark" = some (.ref a_is_mark)
  b_is_mark : L2.Binds K fd_is_mark ["name"] []
  a_look_machine : Addr
  fd_look_machine : FuncData
  F_look_machine : Fun K "look_machine" "look_machine" s_look_machine a_look_machine fd_look_machine
  g_look_machine : mg "look_machine" = some (.ref a_look_machine)
  b_look_machine : L2.Binds K fd_look_machine ["steps", "marks", "fair"] []
  a_Machine_init : Addr
  fd_Machine_init : FuncData
  F_Machine_init : FunD K "__init__" "Machine.__init__" (defArgs s_Machine_init) (defBody s_Machine_init) (defScope s_Machine_init) [.non, .non] [] a_Machine_init fd_Machine_init
  ds_Machine_init_3 : List Value
  b_Machine_init_3 : Vals [] ds_Machine_init_3 ∧ L2.Binds K fd_Machine_init ["self", "steps", "marks", "fair"] ds_Machine_init_3
  ds_Machine_init_2 : List Value
  b_Machine_init_2 : Vals [.non] ds_Machine_init_2 ∧ L2.Binds K fd_Machine_init ["self", "steps", "marks", "fair"] ds_Machine_init_2
  ds_Machine_init_1 : List Value
  b_Machine_init_1 : Vals [.non, .non] ds_Machine_init_1 ∧ L2.Binds K fd_Machine_init ["self", "steps", "marks", "fair"] ds_Machine_init_1
  a_law_made : Addr
  fd_law_made : FuncData
  F_law_made : Fun K "_law_made" "_law_made" s_law_made a_law_made fd_law_made
  g_law_made : mg "_law_made" = some (.ref a_law_made)
  b_law_made : L2.Binds K fd_law_made ["_law_parts_here"] []
  a_Machine_many : Addr
  fd_Machine_many : FuncData
  F_Machine_many : Fun K "many" "Machine.many" s_Machine_many a_Machine_many fd_Machine_many
  b_Machine_many : L2.Binds K fd_Machine_many ["self"] []
  a_law_set : Addr
  fd_law_set : FuncData
  F_law_set : Fun K "_law_set" "_law_set" s_law_set a_law_set fd_law_set
  g_law_set : mg "_law_set" = some (.ref a_law_set)
  b_law_set : L2.Binds K fd_law_set ["_law_found", "_law_due"] []
  a_Machine_marked : Addr
  fd_Machine_marked : FuncData
  F_Machine_marked : Fun K "marked" "Machine.marked" s_Machine_marked a_Machine_marked fd_Machine_marked
  b_Machine_marked : L2.Binds K fd_Machine_marked ["self", "name"] []
  a_Machine_next_of : Addr
  fd_Machine_next_of : FuncData
  F_Machine_next_of : Fun K "next_of" "Machine.next_of" s_Machine_next_of a_Machine_next_of fd_Machine_next_of
  b_Machine_next_of : L2.Binds K fd_Machine_next_of ["self", "stand"] []
  a_Machine_fair_at : Addr
  fd_Machine_fair_at : FuncData
  F_Machine_fair_at : Fun K "fair_at" "Machine.fair_at" s_Machine_fair_at a_Machine_fair_at fd_Machine_fair_at
  b_Machine_fair_at : L2.Binds K fd_Machine_fair_at ["self", "number"] []
  a_law_tells : Addr
  fd_law_tells : FuncData
  F_law_tells : Fun K "_law_tells" "_law_tells" s_law_tells a_law_tells fd_law_tells
  g_law_tells : mg "_law_tells" = some (.ref a_law_tells)
  b_law_tells : L2.Binds K fd_law_tells ["_law_machine", "_law_parts_here"] []
  a_law : Addr
  fd_law : FuncData
  F_law : Fun K "law" "law" s_law a_law fd_law
  g_law : mg "law" = some (.ref a_law)
  me_Machine__fair_at : Meth K C_Machine "fair_at" a_Machine_fair_at
  me_Machine__many : Meth K C_Machine "many" a_Machine_many
  me_Machine__marked : Meth K C_Machine "marked" a_Machine_marked
  me_Machine__next_of : Meth K C_Machine "next_of" a_Machine_next_of
  mk_Machine : Mk K C_Machine a_Machine_init
  n_bool : mg "bool" = none
  n_int : mg "int" = none
  n_isinstance : mg "isinstance" = none
  n_len : mg "len" = none
  n_list : mg "list" = none
  n_range : mg "range" = none
  n_sorted : mg "sorted" = none
  v_KEPT : V
  u_KEPT : Value
  m_KEPT : mg "KEPT" = some u_KEPT
  r_KEPT : RelV v_KEPT u_KEPT
  t_KEPT : ∀ F H, Rep K mg F H v_KEPT k_KEPT Emp
  v_LETTERS : V
  u_LETTERS : Value
  m_LETTERS : mg "LETTERS" = some u_LETTERS
  r_LETTERS : RelV v_LETTERS u_LETTERS
  t_LETTERS : ∀ F H, Rep K mg F H v_LETTERS k_LETTERS Emp
  v_LONGEST : V
  u_LONGEST : Value
  m_LONGEST : mg "LONGEST" = some u_LONGEST
  r_LONGEST : RelV v_LONGEST u_LONGEST
  t_LONGEST : ∀ F H, Rep K mg F H v_LONGEST k_LONGEST Emp
  v_MOST_STANDS : V
  u_MOST_STANDS : Value
  m_MOST_STANDS : mg "MOST_STANDS" = some u_MOST_STANDS
  r_MOST_STANDS : RelV v_MOST_STANDS u_MOST_STANDS
  t_MOST_STANDS : ∀ F H, Rep K mg F H v_MOST_STANDS k_MOST_STANDS Emp
/-! ### the defs -/
theorem sc_law_cell_at : FnScope ["_law_script", "_law_k"] ["_law_script", "_law_k"] (defScope s_law_cell_at) := ⟨rfl, rfl, rfl, by decide +kernel, rfl, by decide +kernel, by decide +kernel⟩
theorem sc_law_mixed : FnScope ["_law_cell", "_law_k"] ["_law_cell", "_law_k"] (defScope s_law_mixed) := ⟨rfl, rfl, rfl, by decide +kernel, rfl, by decide +kernel, by decide +kernel⟩
theorem sc_law_some : FnScope ["_law_cell", "_law_many", "_law_rest", "_law_start", "_law_picks", "_law_k"] ["_law_cell", "_law_many"] (defScope s_law_some) := ⟨rfl, rfl, rfl, by decide +kernel, rfl, by decide +kernel, by decide +kernel⟩
theorem sc_law_steps : FnScope ["_law_script", "_law_many", "_law_steps_here", "_law_k", "_law_cell", "_law_some_here"] ["_law_script", "_law_many"] (defScope s_law_steps) := ⟨rfl, rfl, rfl, by decide +kernel, rfl, by decide +kernel, by decide +kernel⟩
theorem sc_law_name : FnScope ["_law_k", "_law_seed", "_law_letters", "_law_size", "_law_spot", "_law_base", "_law_text", "_law_j"] ["_law_k", "_law_seed"] (defScope s_law_name) := ⟨rfl, rfl, rfl, by decide +kernel, rfl, by decide +kernel, by decide +kernel⟩
theorem sc_law_parts : FnScope ["_law_script", "_law_cell", "_law_many", "_law_seed", "_law_steps_here", "_law_marks", "_law_k", "_law_fair", "_law_name_here"] ["_law_script"] (defScope s_law_parts) := ⟨rfl, rfl, rfl, by decide +kernel, rfl, by decide +kernel, by decide +kernel⟩
theorem sc_law_copy : FnScope ["_law_parts_here", "_law_steps_here", "_law_marks", "_law_fair", "_law_some_here", "_law_name_here"] ["_law_parts_here"] (defScope s_law_copy) := ⟨rfl, rfl, rfl, by decide +kernel, rfl, by decide +kernel, by decide +kernel⟩
theorem sc_look_stands : FnScope ["stands", "many", "ahead", "stand"] ["stands", "many"] (defScope s_look_stands) := ⟨rfl, rfl, rfl, by decide +kernel, rfl, by decide +kernel, by decide +kernel⟩
theorem sc_is_mark : FnScope ["name", "sign"] ["name"] (defScope s_is_mark) := ⟨rfl, rfl, rfl, by decide +kernel, rfl, by decide +kernel, by decide +kernel⟩
theorem sc_look_machine : FnScope ["steps", "marks", "fair", "many", "stands", "ahead", "name"] ["steps", "marks", "fair"] (defScope s_look_machine) := ⟨rfl, rfl, rfl, by decide +kernel, rfl, by decide +kernel, by decide +kernel⟩
theorem sc_Machine_init : FnScope ["self", "steps", "marks", "fair", "stands", "pair"] ["self", "steps", "marks", "fair"] (defScope s_Machine_init) := ⟨rfl, rfl, rfl, by decide +kernel, rfl, by decide +kernel, by decide +kernel⟩
theorem sc_law_made : FnScope ["_law_parts_here", "_law_machine", "_law_some_here", "_law_steps_here", "_law_marks", "_law_fair", "_law_pair"] ["_law_parts_here"] (defScope s_law_made) := ⟨rfl, rfl, rfl, by decide +kernel, rfl, by decide +kernel, by decide +kernel⟩
theorem sc_Machine_many : FnScope ["self"] ["self"] (defScope s_Machine_many) := ⟨rfl, rfl, rfl, by decide +kernel, rfl, by decide +kernel, by decide +kernel⟩
theorem sc_law_set : FnScope ["_law_found", "_law_due", "_law_number"] ["_law_found", "_law_due"] (defScope s_law_set) := ⟨rfl, rfl, rfl, by decide +kernel, rfl, by decide +kernel, by decide +kernel⟩
theorem sc_Machine_marked : FnScope ["self", "name", "known", "stands"] ["self", "name"] (defScope s_Machine_marked) := ⟨rfl, rfl, rfl, by decide +kernel, rfl, by decide +kernel, by decide +kernel⟩
theorem sc_Machine_next_of : FnScope ["self", "stand"] ["self", "stand"] (defScope s_Machine_next_of) := ⟨rfl, rfl, rfl, by decide +kernel, rfl, by decide +kernel, by decide +kernel⟩
theorem sc_Machine_fair_at : FnScope ["self", "number"] ["self", "number"] (defScope s_Machine_fair_at) := ⟨rfl, rfl, rfl, by decide +kernel, rfl, by decide +kernel, by decide +kernel⟩
theorem sc_law_tells : FnScope ["_law_machine", "_law_parts_here", "_law_many", "_law_stand", "_law_k", "_law_known", "_law_steps_here", "_law_marks", "_law_fair", "_law_name_here", "_law_some_here", "_law_pair"] ["_law_machine", "_law_parts_here"] (defScope s_law_tells) := ⟨rfl, rfl, rfl, by decide +kernel, rfl, by decide +kernel, by decide +kernel⟩
theorem sc_law : FnScope ["_law_script", "_law_parts_here", "_law_machine", "_law_turn", "_law_bare"] ["_law_script"] (defScope s_law) := ⟨rfl, rfl, rfl, by decide +kernel, rfl, by decide +kernel, by decide +kernel⟩
section
variable {P : Program} {w : World} {K : PySem.W.Frag} {mg : Mg} {base : Heap}
theorem ok_law_cell_at (E : Txt K mg) : FnOk P w K mg base CX0 1 E.a_law_cell_at E.fd_law_cell_at ["_law_script", "_law_k"] (spD K mg 2 m_law_cell_at) :=
  have nd := sc_law_cell_at.nd
  ok_def (keep := [true, true]) (d := b_law_cell_at) E.F_law_cell_at sc_law_cell_at rfl rfl (by decide) fun cdv A outer s H E' hr => ((ss_cons (ss_if (st_cmp op_lt v_lt (nomark _) (sv_name (i := 1)) (sv_b1 call_lenA v_len PySem.boot_len (by rfl) E.n_len (sv_name (i := 0)))) (ss_one (ss_ret (SV.e (sv_ix (hu_of hr) (sv_name (i := 0)) (sv_name (i := 1)))))) ss_nil) (ss_one (ss_ret (SV.e sv_int)))))
theorem ok_law_mixed (E : Txt K mg) : FnOk P w K mg base CX0 1 E.a_law_mixed E.fd_law_mixed ["_law_cell", "_law_k"] (spD K mg 2 m_law_mixed) :=
  have nd := sc_law_mixed.nd
  ok_def (keep := [true, true]) (d := b_law_mixed) E.F_law_mixed sc_law_mixed rfl rfl (by decide) fun cdv A outer s H E' hr => ((ss_one (ss_ret (SV.e (sv_bin op_addS v_add (sv_bin op_mul v_mul (sv_bin op_mod v_mod (sv_name (i := 0)) (sv_bin op_pow v_pow sv_int sv_int)) (sv_bin op_addS v_add (sv_bin op_mul v_mul sv_int (sv_name (i := 1))) sv_int)) (sv_bin op_mul v_mul (sv_bin op_mul v_mul (sv_bin op_addS v_add (sv_name (i := 1)) sv_int) sv_int) (sv_bin op_addS v_add sv_int (sv_bin op_mod v_mod (sv_name (i := 0)) sv_int))))))))
theorem ok_law_some (E : Txt K mg) : FnOk P w K mg base CX0 1 E.a_law_some E.fd_law_some ["_law_cell", "_law_many"] (spD K mg 2 m_law_some) :=
  have nd := sc_law_some.nd
  ok_def (keep := [true, true]) (d := b_law_some) E.F_law_some sc_law_some rfl rfl (by decide) fun cdv A outer s H E' hr => ((ss_cons (ss_set (i := 2) nd rfl (by first | exact Or.inl rfl | exact Or.inr rfl) (SV.e (sv_bin op_fdiv v_div (sv_name (i := 0)) sv_int))) (ss_cons (ss_set (i := 3) nd rfl (by first | exact Or.inl rfl | exact Or.inr rfl) (SV.e (sv_bin op_mod v_mod (sv_name (i := 2)) (sv_name (i := 1))))) (ss_cons (ss_set (i := 4) nd rfl (by first | exact Or.inl rfl | exact Or.inr rfl) (se_lst sa_nil)) (ss_cons (ss_for PassesOwn.never rfl (si_rng (by rfl) E.n_range (SV.r (sv_name (i := 1)))) (sg_name (i := 5) nd rfl (by first | exact Or.inl rfl | exact Or.inr rfl)) (ss_cons (ss_if (st_cmp (op_eqD hr.units) v_eq (nomark _) (sv_bin op_mod v_mod (sv_name (i := 2)) sv_int) sv_int) (ss_one (ss_ex (se_mut (i := 4) PySem.F.plainAttrs_list PySem.F.slot_list_append PySem.F.type_list_append mt_append m_append (sa_cons (SV.e (sv_bin op_mod v_mod (sv_bin op_addS v_add (sv_name (i := 3)) (sv_name (i := 5))) (sv_name (i := 1)))) sa_nil)))) ss_nil) (ss_one (ss_set (i := 2) nd rfl (by first | exact Or.inl rfl | exact Or.inr rfl) (SV.e (sv_bin op_fdiv v_div (sv_name (i := 2)) sv_int)))))) (ss_cons (ss_if (st_cmp (op_eqD hr.units) v_eq (nomark _) (sv_bin op_mod v_mod (sv_name (i := 0)) sv_int) sv_int) (ss_one (ss_ex (se_mut0 (i := 4) PySem.F.plainAttrs_list PySem.F.slot_list_reverse PySem.F.type_list_reverse mt_reverse m_reverse))) ss_nil) (ss_one (ss_ret (se_move (i := 4))))))))))
theorem ok_law_steps (E : Txt K mg) : FnOk P w K mg base CX0 2 E.a_law_steps E.fd_law_steps ["_law_script", "_law_many"] (spD K mg 2 m_law_steps) :=
  have nd := sc_law_steps.nd
  ok_def (keep := [true, true]) (d := b_law_steps) E.F_law_steps sc_law_steps rfl rfl (by decide) fun cdv A outer s H E' hr => ((ss_cons (ss_set (i := 2) nd rfl (by first | exact Or.inl rfl | exact Or.inr rfl) (se_lst sa_nil)) (ss_cons (ss_for PassesOwn.never rfl (si_rng (by rfl) E.n_range (SV.r (sv_name (i := 1)))) (sg_name (i := 3) nd rfl (by first | exact Or.inl rfl | exact Or.inr rfl)) (ss_cons (ss_set (i := 4) nd rfl (by first | exact Or.inl rfl | exact Or.inr rfl) (se_call (ok_law_mixed E) (dFun_len rfl) hr (by rfl) E.g_law_mixed E.F_law_mixed.kp E.b_law_mixed .nil (sa_cons (se_call (ok_law_cell_at E) (dFun_len rfl) hr (by rfl) E.g_law_cell_at E.F_law_cell_at.kp E.b_law_cell_at .nil (sa_cons (se_share (i := 0)) (sa_cons (SV.e (sv_bin op_addS v_add sv_int (sv_bin op_mod v_mod (sv_name (i := 3)) sv_int))) sa_nil))) (sa_cons (se_move (i := 3)) sa_nil)))) (ss_cons (ss_set (i := 5) nd rfl (by first | exact Or.inl rfl | exact Or.inr rfl) (se_call (ok_law_some E) (dFun_len rfl) hr (by rfl) E.g_law_some E.F_law_some.kp E.b_law_some .nil (sa_cons (se_share (i := 4)) (sa_cons (se_share (i := 1)) sa_nil)))) (ss_cons (ss_if (st_cmpn (i := 5) (op_eqD hr.units) v_eq (nomark _) (SE.r (se_lst sa_nil))) (ss_one (ss_set (i := 5) nd rfl (by first | exact Or.inl rfl | exact Or.inr rfl) (se_lst (sa_cons (SV.e (sv_bin op_mod v_mod (sv_name (i := 4)) (sv_name (i := 1)))) sa_nil)))) ss_nil) (ss_one (ss_ex (se_mut (i := 2) PySem.F.plainAttrs_list PySem.F.slot_list_append PySem.F.type_list_append mt_append m_append (sa_cons (se_move (i := 5)) sa_nil)))))))) (ss_one (ss_ret (se_move (i := 2)))))))
theorem ok_law_name (E : Txt K mg) : FnOk P w K mg base CX0 1 E.a_law_name E.fd_law_name ["_law_k", "_law_seed"] (spD K mg 2 m_law_name) :=
  have nd := sc_law_name.nd
  ok_def (keep := [true, true]) (d := b_law_name) E.F_law_name sc_law_name rfl rfl (by decide) fun cdv A outer s H E' hr => ((ss_cons (ss_set (i := 2) nd rfl (by first | exact Or.inl rfl | exact Or.inr rfl) (SV.e sv_str)) (ss_cons (ss_set (i := 3) nd rfl (by first | exact Or.inl rfl | exact Or.inr rfl) (SV.e (sv_bin op_addS v_add sv_int (sv_bin op_mod v_mod (sv_name (i := 1)) sv_int)))) (ss_cons (ss_set (i := 4) nd rfl (by first | exact Or.inl rfl | exact Or.inr rfl) (SV.e (sv_bin op_mod v_mod (sv_bin op_fdiv v_div (sv_name (i := 1)) sv_int) (sv_name (i := 3))))) (ss_cons (ss_set (i := 5) nd rfl (by first | exact Or.inl rfl | exact Or.inr rfl) (SV.e (sv_ix (hu_of hr) (sv_name (i := 2)) (sv_bin op_mod v_mod (sv_bin op_fdiv v_div (sv_name (i := 1)) sv_int) sv_int)))) (ss_cons (ss_set (i := 6) nd rfl (by first | exact Or.inl rfl | exact Or.inr rfl) (SR.e (sr_binv op_addS v_add (sr_join sv_str (SE.r (se_lc rfl nd (si_rng (by rfl) E.n_range (SV.r (sv_name (i := 4)))) (blkOk_by (N := ["_law_k", "_law_seed", "_law_letters", "_law_size", "_law_spot", "_law_base", "_law_text", "_law_j"]) (sc := defScope s_law_name) (own := [("_law_j", 7)]) (by decide +kernel)) rfl (by decide) (by decide) (fun _ _ _ _ _ => (sg_name (i := 7) nd rfl (by first | exact Or.inl rfl | exact Or.inr rfl))) (fun _ _ _ _ _ => (se_share (i := 5)))))) (sv_ix (hu_of hr) (sv_name (i := 2)) (sv_bin op_mod v_mod (sv_bin op_addS v_add (sv_bin op_fdiv v_div (sv_name (i := 1)) sv_int) (sv_name (i := 0))) sv_int))))) (ss_one (ss_ret (SR.e (sr_binn (i := 6) op_addS v_add (sr_join sv_str (SE.r (se_lc rfl nd (si_rng (by rfl) E.n_range (SV.r (sv_bin op_sub v_sub (sv_bin op_sub v_sub (sv_name (i := 3)) (sv_name (i := 4))) sv_int))) (blkOk_by (N := ["_law_k", "_law_seed", "_law_letters", "_law_size", "_law_spot", "_law_base", "_law_text", "_law_j"]) (sc := defScope s_law_name) (own := [("_law_j", 7)]) (by decide +kernel)) rfl (by decide) (by decide) (fun _ _ _ _ _ => (sg_name (i := 7) nd rfl (by first | exact Or.inl rfl | exact Or.inr rfl))) (fun _ _ _ _ _ => (se_share (i := 5))))))))))))))))
theorem ok_law_parts (E : Txt K mg) : FnOk P w K mg base CX0 3 E.a_law_parts E.fd_law_parts ["_law_script"] (spD K mg 1 m_law_parts) :=
  have nd := sc_law_parts.nd
  ok_def (keep := [true]) (d := b_law_parts) E.F_law_parts sc_law_parts rfl rfl (by decide) fun cdv A outer s H E' hr => ((ss_cons (ss_set (i := 1) nd rfl (by first | exact Or.inl rfl | exact Or.inr rfl) (se_call (ok_law_cell_at E) (dFun_len rfl) (hr.mono (by decide)) (by rfl) E.g_law_cell_at E.F_law_cell_at.kp E.b_law_cell_at .nil (sa_cons (se_share (i := 0)) (sa_cons (SV.e sv_int) sa_nil)))) (ss_cons (ss_set (i := 2) nd rfl (by first | exact Or.inl rfl | exact Or.inr rfl) (SR.e (sr_binc op_addS v_add (SV.r sv_int) (sr_binc op_mod v_mod (SV.r (sv_bin op_fdiv v_div (sv_name (i := 1)) sv_int)) (sr_ixv (hu_of hr) (SE.r (se_lst (sa_cons (SV.e sv_int) (sa_cons (SV.e sv_int) (sa_cons (SV.e sv_int) (sa_cons (SV.e sv_int) sa_nil)))))) (sv_bin op_mod v_mod (sv_name (i := 1)) sv_int)))))) (ss_cons (ss_set (i := 3) nd rfl (by first | exact Or.inl rfl | exact Or.inr rfl) (se_call (ok_law_cell_at E) (dFun_len rfl) (hr.mono (by decide)) (by rfl) E.g_law_cell_at E.F_law_cell_at.kp E.b_law_cell_at .nil (sa_cons (se_share (i := 0)) (sa_cons (SV.e sv_int) sa_nil)))) (ss_cons (ss_set (i := 4) nd rfl (by first | exact Or.inl rfl | exact Or.inr rfl) (se_call (ok_law_steps E) (dFun_len rfl) hr (by rfl) E.g_law_steps E.F_law_steps.kp E.b_law_steps .nil (sa_cons (se_share (i := 0)) (sa_cons (se_share (i := 2)) sa_nil)))) (ss_cons (ss_set (i := 5) nd rfl (by first | exact Or.inl rfl | exact Or.inr rfl) (se_lst sa_nil)) (ss_cons (ss_for PassesOwn.never rfl (si_rng (by rfl) E.n_range (sr_binv op_mod v_mod (SE.r (se_call (ok_law_cell_at E) (dFun_len rfl) (hr.mono (by decide)) (by rfl) E.g_law_cell_at E.F_law_cell_at.kp E.b_law_cell_at .nil (sa_cons (se_share (i := 0)) (sa_cons (SV.e sv_int) sa_nil)))) sv_int)) (sg_name (i := 6) nd rfl (by first | exact Or.inl rfl | exact Or.inr rfl)) (ss_cons (ss_set (i := 8) nd rfl (by first | exact Or.inl rfl | exact Or.inr rfl) (se_call (ok_law_name E) (dFun_len rfl) (hr.mono (by decide)) (by rfl) E.g_law_name E.F_law_name.kp E.b_law_name .nil (sa_cons (se_share (i := 6)) (sa_cons (se_share (i := 3)) sa_nil)))) (ss_cons (ss_if (st_cmp (op_eqD hr.units) v_eq (nomark _) (sv_name (i := 8)) sv_str) (ss_one (ss_set (i := 8) nd rfl (by first | exact Or.inl rfl | exact Or.inr rfl) (SV.e sv_str))) ss_nil) (ss_one (ss_ex (se_mut (i := 5) PySem.F.plainAttrs_list PySem.F.slot_list_append PySem.F.type_list_append mt_append m_append (sa_cons (se_tup (sa_cons (se_move (i := 8)) (sa_cons (se_call (ok_law_some E) (dFun_len rfl) (hr.mono (by decide)) (by rfl) E.g_law_some E.F_law_some.kp E.b_law_some .nil (sa_cons (se_call (ok_law_mixed E) (dFun_len rfl) (hr.mono (by decide)) (by rfl) E.g_law_mixed E.F_law_mixed.kp E.b_law_mixed .nil (sa_cons (se_call (ok_law_cell_at E) (dFun_len rfl) (hr.mono (by decide)) (by rfl) E.g_law_cell_at E.F_law_cell_at.kp E.b_law_cell_at .nil (sa_cons (se_share (i := 0)) (sa_cons (SV.e (sv_bin op_addS v_add sv_int (sv_name (i := 6)))) sa_nil))) (sa_cons (SV.e (sv_bin op_addS v_add (sv_name (i := 6)) sv_int)) sa_nil))) (sa_cons (se_share (i := 2)) sa_nil))) sa_nil))) sa_nil))))))) (ss_cons (ss_set (i := 7) nd rfl (by first | exact Or.inl rfl | exact Or.inr rfl) (se_lst sa_nil)) (ss_cons (ss_for PassesOwn.never rfl (si_rng (by rfl) E.n_range (sr_binv op_mod v_mod (sr_binv op_fdiv v_div (SE.r (se_call (ok_law_cell_at E) (dFun_len rfl) (hr.mono (by decide)) (by rfl) E.g_law_cell_at E.F_law_cell_at.kp E.b_law_cell_at .nil (sa_cons (se_share (i := 0)) (sa_cons (SV.e sv_int) sa_nil)))) sv_int) sv_int)) (sg_name (i := 6) nd rfl (by first | exact Or.inl rfl | exact Or.inr rfl)) (ss_one (ss_ex (se_mut (i := 7) PySem.F.plainAttrs_list PySem.F.slot_list_append PySem.F.type_list_append mt_append m_append (sa_cons (se_call (ok_law_some E) (dFun_len rfl) (hr.mono (by decide)) (by rfl) E.g_law_some E.F_law_some.kp E.b_law_some .nil (sa_cons (se_call (ok_law_mixed E) (dFun_len rfl) (hr.mono (by decide)) (by rfl) E.g_law_mixed E.F_law_mixed.kp E.b_law_mixed .nil (sa_cons (se_call (ok_law_cell_at E) (dFun_len rfl) (hr.mono (by decide)) (by rfl) E.g_law_cell_at E.F_law_cell_at.kp E.b_law_cell_at .nil (sa_cons (se_share (i := 0)) (sa_cons (SV.e (sv_bin op_addS v_add sv_int (sv_name (i := 6)))) sa_nil))) (sa_cons (SV.e (sv_bin op_addS v_add (sv_name (i := 6)) sv_int)) sa_nil))) (sa_cons (se_share (i := 2)) sa_nil))) sa_nil))))) (ss_one (ss_ret (se_tup (sa_cons (se_move (i := 4)) (sa_cons (se_move (i := 5)) (sa_cons (se_move (i := 7)) sa_nil)))))))))))))))
theorem ok_law_copy (E : Txt K mg) : FnOk P w K mg base CX0 1 E.a_law_copy E.fd_law_copy ["_law_parts_here"] (spD K mg 1 m_law_copy) :=
  have nd := sc_law_copy.nd
  ok_def (keep := [true]) (d := b_law_copy) E.F_law_copy sc_law_copy rfl rfl (by decide) fun cdv A outer s H E' hr => ((ss_cons (ss_asg2 (se_move (i := 0)) (sg_three rfl (sg_name (i := 1) nd rfl (by first | exact Or.inl rfl | exact Or.inr rfl)) (sg_name (i := 2) nd rfl (by first | exact Or.inl rfl | exact Or.inr rfl)) (sg_name (i := 3) nd rfl (by first | exact Or.inl rfl | exact Or.inr rfl)))) (ss_one (ss_ret (se_tup (sa_cons (se_lc rfl nd (si_list (se_move (i := 1))) (blkOk_by (N := ["_law_parts_here", "_law_steps_here", "_law_marks", "_law_fair", "_law_some_here", "_law_name_here"]) (sc := defScope s_law_copy) (own := [("_law_some_here", 4)]) (by decide +kernel)) rfl (by decide) (by decide) (fun _ _ _ _ _ => (sg_name (i := 4) nd rfl (by first | exact Or.inl rfl | exact Or.inr rfl))) (fun _ _ _ _ _ => (se_t1 call_list_of e_list (by decide +kernel) (by rfl) E.n_list (SV.r (sv_name (i := 4)))))) (sa_cons (se_lc rfl nd (si_list (se_move (i := 2))) (blkOk_by (N := ["_law_parts_here", "_law_steps_here", "_law_marks", "_law_fair", "_law_some_here", "_law_name_here"]) (sc := defScope s_law_copy) (own := [("_law_name_here", 5), ("_law_some_here", 4)]) (by decide +kernel)) rfl (by decide) (by decide) (fun _ _ _ _ _ => (sg_two rfl (sg_name (i := 5) nd rfl (by first | exact Or.inl rfl | exact Or.inr rfl)) (sg_name (i := 4) nd rfl (by first | exact Or.inl rfl | exact Or.inr rfl)))) (fun _ _ _ _ _ => (se_tup (sa_cons (se_move (i := 5)) (sa_cons (se_t1 call_list_of e_list (by decide +kernel) (by rfl) E.n_list (SV.r (sv_name (i := 4)))) sa_nil))))) (sa_cons (se_lc rfl nd (si_list (se_move (i := 3))) (blkOk_by (N := ["_law_parts_here", "_law_steps_here", "_law_marks", "_law_fair", "_law_some_here", "_law_name_here"]) (sc := defScope s_law_copy) (own := [("_law_some_here", 4)]) (by decide +kernel)) rfl (by decide) (by decide) (fun _ _ _ _ _ => (sg_name (i := 4) nd rfl (by first | exact Or.inl rfl | exact Or.inr rfl))) (fun _ _ _ _ _ => (se_t1 call_list_of e_list (by decide +kernel) (by rfl) E.n_list (SV.r (sv_name (i := 4)))))) sa_nil))))))))
theorem ok_look_stands (E : Txt K mg) : FnOk P w K mg base CX0 1 E.a_look_stands E.fd_look_stands ["stands", "many"] (spD K mg 2 m_look_stands) :=
  have nd := sc_look_stands.nd
  ok_def (keep := [true, true]) (d := b_look_stands) E.F_look_stands sc_look_stands rfl rfl (by decide) fun cdv A outer s H E' hr => ((ss_cons (ss_set (i := 2) nd rfl (by first | exact Or.inl rfl | exact Or.inr rfl) se_dic) (ss_one (ss_for PassesOwn.never rfl (si_list (se_move (i := 0))) (sg_name (i := 3) nd rfl (by first | exact Or.inl rfl | exact Or.inr rfl)) (ss_cons (ss_if (SW.t (sw_or (st_not (ST.val (SV.r (sv_isi (b := "int") (by decide) (by decide +kernel) (by rfl) E.n_isinstance (by rfl) E.n_int (sv_name (i := 3)))))) (sw_or1 (ST.val (SV.r (sv_isi (b := "bool") (by decide) (by decide +kernel) (by rfl) E.n_isinstance (by rfl) E.n_bool (sv_name (i := 3)))))))) (ss_one ss_fail) ss_nil) (ss_cons (ss_if (SW.t (sw_or (st_cmp op_lt v_lt (nomark _) (sv_name (i := 3)) sv_int) (sw_or (st_cmp op_ge v_ge (nomark _) (sv_name (i := 3)) (sv_name (i := 1))) (sw_or1 (st_cmp (op_inA (hu_of hr)) v_in rfl (sv_name (i := 3)) (sv_name (i := 2))))))) (ss_one ss_fail) ss_nil) (ss_one (ss_setD (i := 2) (hu_of hr) (SV.e sv_bl) (sv_name (i := 3))))))))))
theorem ok_is_mark (E : Txt K mg) : FnOk P w K mg base CX0 1 E.a_is_mark E.fd_is_mark ["name"] (spD K mg 1 m_is_mark) :=
  have nd := sc_is_mark.nd
  ok_def (keep := [true]) (d := b_is_mark) E.F_is_mark sc_is_mark rfl rfl (by decide) fun cdv A outer s H E' hr => ((ss_cons (ss_if (SW.t (sw_or (st_cmp op_lt v_lt (nomark _) (sv_b1 call_lenA v_len PySem.boot_len (by rfl) E.n_len (sv_name (i := 0))) sv_int) (sw_or (st_cmp op_gt v_gt (nomark _) (sv_b1 call_lenA v_len PySem.boot_len (by rfl) E.n_len (sv_name (i := 0))) (sv_glob (by rfl) E.m_LONGEST E.r_LONGEST E.t_LONGEST)) (sw_or1 (st_cmp (op_inA (hu_of hr)) v_in rfl (sv_name (i := 0)) (sv_glob (by rfl) E.m_KEPT E.r_KEPT E.t_KEPT)))))) (ss_one (ss_ret (SV.e sv_bl))) ss_nil) (ss_cons (ss_for PassesOwn.never rfl (si_str (SV.r (sv_name (i := 0)))) (sg_name (i := 1) nd rfl (by first | exact Or.inl rfl | exact Or.inr rfl)) (ss_one (ss_if (st_cmp (op_notInA (hu_of hr)) v_notIn rfl (sv_name (i := 1)) (sv_glob (by rfl) E.m_LETTERS E.r_LETTERS E.t_LETTERS)) (ss_one (ss_ret (SV.e sv_bl))) ss_nil))) (ss_one (ss_ret (SV.e sv_bl))))))
theorem ok_look_machine (E : Txt K mg) : FnOk P w K mg base CX0 2 E.a_look_machine E.fd_look_machine ["steps", "marks", "fair"] (spD K mg 3 m_look_machine) :=
  have nd := sc_look_machine.nd
  ok_def (keep := [true, true, true]) (d := b_look_machine) E.F_look_machine sc_look_machine rfl rfl (by decide) fun cdv A outer s H E' hr => ((ss_cons (ss_set (i := 3) nd rfl (by first | exact Or.inl rfl | exact Or.inr rfl) (SV.e (sv_b1 call_lenA v_len PySem.boot_len (by rfl) E.n_len (sv_name (i := 0))))) (ss_cons (ss_if (SW.t (sw_or (st_cmp op_lt v_lt (nomark _) (sv_name (i := 3)) sv_int) (sw_or1 (st_cmp op_gt v_gt (nomark _) (sv_name (i := 3)) (sv_glob (by rfl) E.m_MOST_STANDS E.r_MOST_STANDS E.t_MOST_STANDS))))) (ss_one ss_fail) ss_nil) (ss_cons (ss_for PassesOwn.never rfl (si_list (se_move (i := 0))) (sg_name (i := 4) nd rfl (by first | exact Or.inl rfl | exact Or.inr rfl)) (ss_cons (ss_ex (se_call (ok_look_stands E) (dFun_len rfl) hr (by rfl) E.g_look_stands E.F_look_stands.kp E.b_look_stands .nil (sa_cons (se_share (i := 4)) (sa_cons (se_share (i := 3)) sa_nil)))) (ss_one (ss_if (st_cmp (op_eqD hr.units) v_eq (nomark _) (sv_b1 call_lenA v_len PySem.boot_len (by rfl) E.n_len (sv_name (i := 4))) sv_int) (ss_one ss_fail) ss_nil)))) (ss_cons (ss_set (i := 5) nd rfl (by first | exact Or.inl rfl | exact Or.inr rfl) se_dic) (ss_cons (ss_for PassesOwn.never rfl (si_list (se_move (i := 1))) (sg_two rfl (sg_name (i := 6) nd rfl (by first | exact Or.inl rfl | exact Or.inr rfl)) (sg_name (i := 4) nd rfl (by first | exact Or.inl rfl | exact Or.inr rfl))) (ss_cons (ss_if (SW.t (sw_or (st_not (ST.val (SE.r (SE.bw (se_call (ok_is_mark E) (dFun_len rfl) hr (by rfl) E.g_is_mark E.F_is_mark.kp E.b_is_mark .nil (sa_cons (se_share (i := 6)) sa_nil)))))) (sw_or1 (st_cmp (op_inA (hu_of hr)) v_in rfl (sv_name (i := 6)) (sv_name (i := 5)))))) (ss_one ss_fail) ss_nil) (ss_cons (ss_setD (i := 5) (hu_of hr) (SV.e sv_bl) (sv_name (i := 6))) (ss_one (ss_ex (se_call (ok_look_stands E) (dFun_len rfl) hr (by rfl) E.g_look_stands E.F_look_stands.kp E.b_look_stands .nil (sa_cons (se_move (i := 4)) (sa_cons (se_share (i := 3)) sa_nil)))))))) (ss_one (ss_for PassesOwn.never rfl (si_list (se_move (i := 2))) (sg_name (i := 4) nd rfl (by first | exact Or.inl rfl | exact Or.inr rfl)) (ss_one (ss_ex (se_call (ok_look_stands E) (dFun_len rfl) hr (by rfl) E.g_look_stands E.F_look_stands.kp E.b_look_stands .nil (sa_cons (se_move (i := 4)) (sa_cons (se_share (i := 3)) sa_nil)))))))))))))
theorem ok_Machine_init (E : Txt K mg) : FnOk P w K mg base CX0 3 E.a_Machine_init E.fd_Machine_init ["self", "steps", "marks", "fair"] (spD K mg 4 m_Machine_init) :=
  have nd := sc_Machine_init.nd
  ok_defD (keep := [true, true, false, false]) (d := b_Machine_init) E.F_Machine_init sc_Machine_init rfl rfl (by decide) fun cdv A outer s H E' hr => ((ss_cons (ss_if (st_cmp op_isN v_isN (nomark _) (sv_name (i := 2)) sv_non) (ss_one (ss_set (i := 2) nd rfl (by first | exact Or.inl rfl | exact Or.inr rfl) (se_lst sa_nil))) ss_nil) (ss_cons (ss_if (st_cmp op_isN v_isN (nomark _) (sv_name (i := 3)) sv_non) (ss_one (ss_set (i := 3) nd rfl (by first | exact Or.inl rfl | exact Or.inr rfl) (se_lst sa_nil))) ss_nil) (ss_cons (ss_ex (se_call (ok_look_machine E) (dFun_len rfl) hr (by rfl) E.g_look_machine E.F_look_machine.kp E.b_look_machine .nil (sa_cons (se_share (i := 1)) (sa_cons (se_share (i := 2)) (sa_cons (se_share (i := 3)) sa_nil))))) (ss_cons (ss_fld (i := 0) E.m_Machine E.cl_Machine E.na_Machine_steps (se_lc rfl nd (si_list (se_move (i := 1))) (blkOk_by (N := ["self", "steps", "marks", "fair", "stands", "pair"]) (sc := defScope s_Machine_init) (own := [("stands", 4)]) (by decide +kernel)) rfl (by decide) (by decide) (fun _ _ _ _ _ => (sg_name (i := 4) nd rfl (by first | exact Or.inl rfl | exact Or.inr rfl))) (fun _ _ _ _ _ => (se_t1 call_list_of e_list (by decide +kernel) (by rfl) E.n_list (SV.r (sv_name (i := 4))))))) (ss_cons (ss_fld (i := 0) E.m_Machine E.cl_Machine E.na_Machine_marks (se_lc rfl nd (si_list (se_move (i := 2))) (blkOk_by (N := ["self", "steps", "marks", "fair", "stands", "pair"]) (sc := defScope s_Machine_init) (own := [("pair", 5)]) (by decide +kernel)) rfl (by decide) (by decide) (fun _ _ _ _ _ => (sg_name (i := 5) nd rfl (by first | exact Or.inl rfl | exact Or.inr rfl))) (fun _ _ _ _ _ => (se_tupO (sa_cons (SV.e (sv_ix (hu_of hr) (sv_name (i := 5)) sv_int)) (sa_cons (se_t1 call_list_of e_list (by decide +kernel) (by rfl) E.n_list (SV.r (sv_ix (hu_of hr) (sv_name (i := 5)) sv_int))) sa_nil)))))) (ss_one (ss_fld (i := 0) E.m_Machine E.cl_Machine E.na_Machine_fair (se_lc rfl nd (si_list (se_move (i := 3))) (blkOk_by (N := ["self", "steps", "marks", "fair", "stands", "pair"]) (sc := defScope s_Machine_init) (own := [("stands", 4)]) (by decide +kernel)) rfl (by decide) (by decide) (fun _ _ _ _ _ => (sg_name (i := 4) nd rfl (by first | exact Or.inl rfl | exact Or.inr rfl))) (fun _ _ _ _ _ => (se_t1 call_list_of e_list (by decide +kernel) (by rfl) E.n_list (SV.r (sv_name (i := 4))))))))))))))
theorem ok_law_made (E : Txt K mg) : FnOk P w K mg base CX0 5 E.a_law_made E.fd_law_made ["_law_parts_here"] (spD K mg 1 m_law_made) :=
  have nd := sc_law_made.nd
  ok_def (keep := [true]) (d := b_law_made) E.F_law_made sc_law_made rfl rfl (by decide) fun cdv A outer s H E' hr => ((ss_cons (ss_asg2 (se_call (ok_law_copy E) (dFun_len rfl) (hr.mono (by decide)) (by rfl) E.g_law_copy E.F_law_copy.kp E.b_law_copy .nil (sa_cons (se_share (i := 0)) sa_nil)) (sg_three rfl (sg_name (i := 3) nd rfl (by first | exact Or.inl rfl | exact Or.inr rfl)) (sg_name (i := 4) nd rfl (by first | exact Or.inl rfl | exact Or.inr rfl)) (sg_name (i := 5) nd rfl (by first | exact Or.inl rfl | exact Or.inr rfl)))) (ss_cons (ss_set (i := 1) nd rfl (by first | exact Or.inl rfl | exact Or.inr rfl) (SE.bw (se_make E.mk_Machine (ok_Machine_init E) (dFun_len rfl) hr (by rfl) E.m_Machine E.b_Machine_init_3.2 E.b_Machine_init_3.1 (sa_cons (se_share (i := 3)) (sa_cons (se_share (i := 4)) (sa_cons (se_share (i := 5)) sa_nil)))))) (ss_cons (ss_if (ST.bwS (st_cmpv (op_neD hr.units) v_ne (nomark _) (SE.r (se_tup (sa_cons (se_share (i := 3)) (sa_cons (se_share (i := 4)) (sa_cons (se_share (i := 5)) sa_nil))))) (sv_name (i := 0)))) (ss_one (ss_ret (SV.e sv_non))) ss_nil) (ss_cons (ss_forE PassesOwn.never rfl (se_catR (i := 5) (se_catL (i := 3) (se_pick (j := 4) (p := 6) rfl nd rfl (by first | exact Or.inl rfl | exact Or.inr (Or.inl rfl) | exact Or.inr (Or.inr rfl)) (blkOk_by (N := ["_law_parts_here", "_law_machine", "_law_some_here", "_law_steps_here", "_law_marks", "_law_fair", "_law_pair"]) (sc := defScope s_law_made) (own := [("_law_pair", 6)]) (by decide +kernel)) rfl rfl (fun _ _ _ _ _ => ⟨by first | exact Or.inl rfl | exact Or.inr rfl, by first | exact .inl rfl | exact .inr rfl, by first | exact Or.inl rfl | exact Or.inr (Or.inl rfl) | exact Or.inr (Or.inr rfl)⟩)))) (sg_name (i := 2) nd rfl (by first | exact Or.inl rfl | exact Or.inr rfl)) (ss_one (ss_ex (se_mut0 (i := 2) PySem.F.plainAttrs_list PySem.F.slot_list_clear PySem.F.type_list_clear mt_clear m_clear)))) (ss_cons (ss_ex (se_mut0 (i := 3) PySem.F.plainAttrs_list PySem.F.slot_list_clear PySem.F.type_list_clear mt_clear m_clear)) (ss_cons (ss_ex (se_mut0 (i := 4) PySem.F.plainAttrs_list PySem.F.slot_list_clear PySem.F.type_list_clear mt_clear m_clear)) (ss_cons (ss_ex (se_mut0 (i := 5) PySem.F.plainAttrs_list PySem.F.slot_list_clear PySem.F.type_list_clear mt_clear m_clear)) (ss_one (ss_ret (se_move (i := 1))))))))))))
theorem ok_Machine_many (E : Txt K mg) : FnOk P w K mg base CX0 1 E.a_Machine_many E.fd_Machine_many ["self"] (spD K mg 1 m_Machine_many) :=
  have nd := sc_Machine_many.nd
  ok_def (keep := [true]) (d := b_Machine_many) E.F_Machine_many sc_Machine_many rfl rfl (by decide) fun cdv A outer s H E' hr => ((ss_one (ss_ret (SV.e (sv_b1 call_lenA v_len PySem.boot_len (by rfl) E.n_len (sv_fld E.m_Machine E.cl_Machine E.na_Machine_steps (sv_name (i := 0))))))))
theorem ok_law_set (E : Txt K mg) : FnOk P w K mg base CX0 1 E.a_law_set E.fd_law_set ["_law_found", "_law_due"] (spD K mg 2 m_law_set) :=
  have nd := sc_law_set.nd
  ok_def (keep := [true, true]) (d := b_law_set) E.F_law_set sc_law_set rfl rfl (by decide) fun cdv A outer s H E' hr => ((ss_cons (ss_if (SW.t (sw_or (st_not (ST.val (SV.r (sv_isi (b := "list") (by decide) (by decide +kernel) (by rfl) E.n_isinstance (by rfl) E.n_list (sv_name (i := 0)))))) (sw_or1 (st_cmpn (i := 0) (op_neD hr.units) v_ne (nomark _) (SE.r (se_b1 (call_sortA rfl) e_sorted (by decide +kernel) (by rfl) E.n_sorted (SV.r (sv_name (i := 1))))))))) (ss_one (ss_ret (SV.e sv_bl))) ss_nil) (ss_cons (ss_forL (i := 0) (by decide) PassesOwn.never rfl (sg_name (i := 2) nd rfl (by first | exact Or.inl rfl | exact Or.inr rfl)) (ss_one (ss_if (SW.t (sw_or (st_not (ST.val (SV.r (sv_isi (b := "int") (by decide) (by decide +kernel) (by rfl) E.n_isinstance (by rfl) E.n_int (sv_name (i := 2)))))) (sw_or1 (ST.val (SV.r (sv_isi (b := "bool") (by decide) (by decide +kernel) (by rfl) E.n_isinstance (by rfl) E.n_bool (sv_name (i := 2)))))))) (ss_one (ss_ret (SV.e sv_bl))) ss_nil))) (ss_cons (ss_ex (se_mut0 (i := 0) PySem.F.plainAttrs_list PySem.F.slot_list_clear PySem.F.type_list_clear mt_clear m_clear)) (ss_one (ss_ret (SV.e sv_bl)))))))
theorem ok_Machine_marked (E : Txt K mg) : FnOk P w K mg base CX0 1 E.a_Machine_marked E.fd_Machine_marked ["self", "name"] (spD K mg 2 m_Machine_marked) :=
  have nd := sc_Machine_marked.nd
  ok_def (keep := [true, true]) (d := b_Machine_marked) E.F_Machine_marked sc_Machine_marked rfl rfl (by decide) fun cdv A outer s H E' hr => ((ss_cons (ss_for PassesOwn.never rfl (si_list (SE.fz 0 (SV.e (sv_fld E.m_Machine E.cl_Machine E.na_Machine_marks (sv_name (i := 0)))))) (sg_two rfl (sg_name (i := 2) nd rfl (by first | exact Or.inl rfl | exact Or.inr rfl)) (sg_name (i := 3) nd rfl (by first | exact Or.inl rfl | exact Or.inr rfl))) (ss_one (ss_if (st_cmp (op_eqD hr.units) v_eq (nomark _) (sv_name (i := 2)) (sv_name (i := 1))) (ss_one (ss_ret (se_b1 (call_sortA rfl) e_sorted (by decide +kernel) (by rfl) E.n_sorted (SV.r (sv_name (i := 3)))))) ss_nil))) (ss_one (ss_ret (se_lst sa_nil)))))
theorem ok_Machine_next_of (E : Txt K mg) : FnOk P w K mg base CX0 1 E.a_Machine_next_of E.fd_Machine_next_of ["self", "stand"] (spD K mg 2 m_Machine_next_of) :=
  have nd := sc_Machine_next_of.nd
  ok_def (keep := [true, true]) (d := b_Machine_next_of) E.F_Machine_next_of sc_Machine_next_of rfl rfl (by decide) fun cdv A outer s H E' hr => ((ss_one (ss_ret (se_b1 (call_sortA rfl) e_sorted (by decide +kernel) (by rfl) E.n_sorted (SV.r (sv_ix (hu_of hr) (sv_fld E.m_Machine E.cl_Machine E.na_Machine_steps (sv_name (i := 0))) (sv_name (i := 1))))))))
theorem ok_Machine_fair_at (E : Txt K mg) : FnOk P w K mg base CX0 1 E.a_Machine_fair_at E.fd_Machine_fair_at ["self", "number"] (spD K mg 2 m_Machine_fair_at) :=
  have nd := sc_Machine_fair_at.nd
  ok_def (keep := [true, true]) (d := b_Machine_fair_at) E.F_Machine_fair_at sc_Machine_fair_at rfl rfl (by decide) fun cdv A outer s H E' hr => ((ss_one (ss_ret (se_b1 (call_sortA rfl) e_sorted (by decide +kernel) (by rfl) E.n_sorted (SV.r (sv_ix (hu_of hr) (sv_fld E.m_Machine E.cl_Machine E.na_Machine_fair (sv_name (i := 0))) (sv_name (i := 1))))))))
theorem ok_law_tells (E : Txt K mg) : FnOk P w K mg base CX0 2 E.a_law_tells E.fd_law_tells ["_law_machine", "_law_parts_here"] (spD K mg 2 m_law_tells) :=
  have nd := sc_law_tells.nd
  ok_def (keep := [true, true]) (d := b_law_tells) E.F_law_tells sc_law_tells rfl rfl (by decide) fun cdv A outer s H E' hr => ((ss_cons (ss_asg2 (se_move (i := 1)) (sg_three rfl (sg_name (i := 6) nd rfl (by first | exact Or.inl rfl | exact Or.inr rfl)) (sg_name (i := 7) nd rfl (by first | exact Or.inl rfl | exact Or.inr rfl)) (sg_name (i := 8) nd rfl (by first | exact Or.inl rfl | exact Or.inr rfl)))) (ss_cons (ss_set (i := 2) nd rfl (by first | exact Or.inl rfl | exact Or.inr rfl) (SE.bw (se_meth0 E.m_Machine E.cl_Machine E.me_Machine__many (ok_Machine_many E) (dFun_len rfl) hr E.b_Machine_many .nil (se_share (i := 0))))) (ss_cons (ss_if (SW.t (sw_or (st_not (ST.val (SV.r (sv_isi (b := "int") (by decide) (by decide +kernel) (by rfl) E.n_isinstance (by rfl) E.n_int (sv_name (i := 2)))))) (sw_or (ST.val (SV.r (sv_isi (b := "bool") (by decide) (by decide +kernel) (by rfl) E.n_isinstance (by rfl) E.n_bool (sv_name (i := 2))))) (sw_or1 (st_cmp (op_neD hr.units) v_ne (nomark _) (sv_name (i := 2)) (sv_b1 call_lenA v_len PySem.boot_len (by rfl) E.n_len (sv_name (i := 6)))))))) (ss_one (ss_ret (SV.e sv_bl))) ss_nil) (ss_cons (ss_for PassesOwn.never rfl (si_rng (by rfl) E.n_range (SV.r (sv_name (i := 2)))) (sg_name (i := 3) nd rfl (by first | exact Or.inl rfl | exact Or.inr rfl)) (ss_one (ss_if (st_not (ST.val (SE.r (se_call (ok_law_set E) (dFun_len rfl) hr (by rfl) E.g_law_set E.F_law_set.kp E.b_law_set .nil (sa_cons (se_meth E.m_Machine E.cl_Machine E.me_Machine__next_of (ok_Machine_next_of E) (dFun_len rfl) hr E.b_Machine_next_of .nil (se_share (i := 0)) (sa_cons (se_share (i := 3)) sa_nil)) (sa_cons (SV.e (sv_ix (hu_of hr) (sv_name (i := 6)) (sv_name (i := 3)))) sa_nil)))))) (ss_one (ss_ret (SV.e sv_bl))) ss_nil))) (ss_cons (ss_for PassesOwn.never rfl (si_list (se_share (i := 7))) (sg_two rfl (sg_name (i := 9) nd rfl (by first | exact Or.inl rfl | exact Or.inr rfl)) (sg_name (i := 10) nd rfl (by first | exact Or.inl rfl | exact Or.inr rfl))) (ss_one (ss_if (st_not (ST.val (SE.r (se_call (ok_law_set E) (dFun_len rfl) hr (by rfl) E.g_law_set E.F_law_set.kp E.b_law_set .nil (sa_cons (se_meth E.m_Machine E.cl_Machine E.me_Machine__marked (ok_Machine_marked E) (dFun_len rfl) hr E.b_Machine_marked .nil (se_share (i := 0)) (sa_cons (se_move (i := 9)) sa_nil)) (sa_cons (se_move (i := 10)) sa_nil)))))) (ss_one (ss_ret (SV.e sv_bl))) ss_nil))) (ss_cons (ss_for PassesOwn.never rfl (si_rng (by rfl) E.n_range (SV.r (sv_b1 call_lenA v_len PySem.boot_len (by rfl) E.n_len (sv_name (i := 8))))) (sg_name (i := 4) nd rfl (by first | exact Or.inl rfl | exact Or.inr rfl)) (ss_one (ss_if (st_not (ST.val (SE.r (se_call (ok_law_set E) (dFun_len rfl) hr (by rfl) E.g_law_set E.F_law_set.kp E.b_law_set .nil (sa_cons (se_meth E.m_Machine E.cl_Machine E.me_Machine__fair_at (ok_Machine_fair_at E) (dFun_len rfl) hr E.b_Machine_fair_at .nil (se_share (i := 0)) (sa_cons (se_share (i := 4)) sa_nil)) (sa_cons (SV.e (sv_ix (hu_of hr) (sv_name (i := 8)) (sv_name (i := 4)))) sa_nil)))))) (ss_one (ss_ret (SV.e sv_bl))) ss_nil))) (ss_cons (ss_setLc (i := 5) rfl nd rfl rfl (sw_true rfl rfl rfl (by decide +kernel)) (si_list (se_move (i := 7))) (blkOk_by (N := ["_law_machine", "_law_parts_here", "_law_many", "_law_stand", "_law_k", "_law_known", "_law_steps_here", "_law_marks", "_law_fair", "_law_name_here", "_law_some_here", "_law_pair"]) (sc := defScope s_law_tells) (own := [("_law_pair", 11)]) (by decide +kernel)) rfl (by decide) (by decide) (fun _ _ _ _ _ => (sg_name (i := 11) nd rfl (by first | exact Or.inl rfl | exact Or.inr rfl))) (fun _ _ _ _ _ => (SV.e (sv_ix (hu_of hr) (sv_name (i := 11)) sv_int)))) (ss_one (ss_ret (SR.e (sr_or (SV.r (sv_cmp (op_inA (hu_of hr)) v_in rfl sv_str (sv_name (i := 5)))) (sr_and1 (sr_cmpo (op_eqD hr.units) v_eq (nomark _) (se_meth E.m_Machine E.cl_Machine E.me_Machine__marked (ok_Machine_marked E) (dFun_len rfl) hr E.b_Machine_marked .nil (se_move (i := 0)) (sa_cons (SV.e sv_str) sa_nil)) (SE.r (se_lst sa_nil))))))))))))))))
theorem ok_law (E : Txt K mg) : FnOk P w K mg base CX0 6 E.a_law E.fd_law ["_law_script"] (spD K mg 1 m_law) :=
  have nd := sc_law.nd
  ok_def (keep := [true]) (d := b_law) E.F_law sc_law rfl rfl (by decide) fun cdv A outer s H E' hr => ((ss_cons (ss_set (i := 1) nd rfl (by first | exact Or.inl rfl | exact Or.inr rfl) (se_call (ok_law_parts E) (dFun_len rfl) (hr.mono (by decide)) (by rfl) E.g_law_parts E.F_law_parts.kp E.b_law_parts .nil (sa_cons (se_move (i := 0)) sa_nil))) (ss_cons (ss_set (i := 2) nd rfl (by first | exact Or.inl rfl | exact Or.inr rfl) (SE.fre (se_call (ok_law_made E) (dFun_len rfl) hr (by rfl) E.g_law_made E.F_law_made.kp E.b_law_made .nil (sa_cons (se_share (i := 1)) sa_nil)))) (ss_cons (ss_if (st_cmp op_isN v_isN (nomark _) (sv_name (i := 2)) sv_non) (ss_one (ss_ret (SV.e sv_bl))) ss_nil) (ss_cons (ss_for PassesOwn.never rfl (si_rng (by rfl) E.n_range (SV.r sv_int)) (sg_name (i := 3) nd rfl (by first | exact Or.inl rfl | exact Or.inr rfl)) (ss_cons (ss_if (SW.t (sw_or (st_cmp (op_neD hr.units) v_ne (nomark _) (sv_fld E.m_Machine E.cl_Machine E.na_Machine_steps (sv_name (i := 2))) (sv_ix (hu_of hr) (sv_name (i := 1)) sv_int)) (sw_or (st_cmp (op_neD hr.units) v_ne (nomark _) (sv_fld E.m_Machine E.cl_Machine E.na_Machine_marks (sv_name (i := 2))) (sv_ix (hu_of hr) (sv_name (i := 1)) sv_int)) (sw_or1 (st_cmp (op_neD hr.units) v_ne (nomark _) (sv_fld E.m_Machine E.cl_Machine E.na_Machine_fair (sv_name (i := 2))) (sv_ix (hu_of hr) (sv_name (i := 1)) sv_int)))))) (ss_one (ss_ret (SV.e sv_bl))) ss_nil) (ss_one (ss_if (st_not (ST.val (SE.r (SE.bw (se_call (ok_law_tells E) (dFun_len rfl) (hr.mono (by decide)) (by rfl) E.g_law_tells E.F_law_tells.kp E.b_law_tells .nil (sa_cons (se_share (i := 2)) (sa_cons (se_share (i := 1)) sa_nil))))))) (ss_one (ss_ret (SV.e sv_bl))) ss_nil)))) (ss_cons (ss_set (i := 4) nd rfl (by first | exact Or.inl rfl | exact Or.inr rfl) (SE.fre (se_make E.mk_Machine (ok_Machine_init E) (dFun_len rfl) (hr.mono (by decide)) (by rfl) E.m_Machine E.b_Machine_init_1.2 E.b_Machine_init_1.1 (sa_cons (SE.fz 1 (SV.e (sv_ix (hu_of hr) (sv_name (i := 1)) sv_int))) sa_nil)))) (ss_one (ss_ret (SR.e (sr_and (sr_cmpc (op_eqD hr.units) v_eq (nomark _) (SV.r (sv_fld E.m_Machine E.cl_Machine E.na_Machine_marks (sv_name (i := 4)))) (SE.r (se_lst sa_nil))) (sr_and (sr_cmpc (op_eqD hr.units) v_eq (nomark _) (SV.r (sv_fld E.m_Machine E.cl_Machine E.na_Machine_fair (sv_name (i := 4)))) (SE.r (se_lst sa_nil))) (sr_and1 (sr_cmpc (op_eqD hr.units) v_eq (nomark _) (sr_fld E.m_Machine E.cl_Machine E.na_Machine_fair (SE.r (SE.fre (se_make E.mk_Machine (ok_Machine_init E) (dFun_len rfl) (hr.mono (by decide)) (by rfl) E.m_Machine E.b_Machine_init_2.2 E.b_Machine_init_2.1 (sa_cons (SE.fz 1 (SV.e (sv_ix (hu_of hr) (sv_name (i := 1)) sv_int))) (sa_cons (SE.fz 1 (SV.e (sv_ix (hu_of hr) (sv_name (i := 1)) sv_int))) sa_nil)))))) (SE.r (se_lst sa_nil)))))))))))))))
end
/-! ### each fact as k_is finds it -/
theorem all_mk {l : PySem.W.OpenLaw} {w : World} {K : PySem.W.Frag} {h : Heap} {mg : Str → Option Value} {fa : Addr} {a_law_cell_at a_law_mixed a_law_some a_law_steps a_law_name a_law_parts a_law_copy a_look_stands a_is_mark a_look_machine a_Machine_init a_law_made a_Machine_many a_law_set a_Machine_marked a_Machine_next_of a_Machine_fair_at a_law_tells a_law C_Machine td_Machine_init T_KEPT : Addr} (X : K.In h) (G : h.Ns mainGlobals mg) (hfa : mg "law" = some (.ref fa))
    {od_law_cell_at an_law_cell_at : Option Addr} {sl_law_cell_at : Array (Option Value)} {oc_law_cell_at kV_law_cell_at dc_law_cell_at pm_law_cell_at cd_law_cell_at ct_law_cell_at : Value}
    {od_law_mixed an_law_mixed : Option Addr} {sl_law_mixed : Array (Option Value)} {oc_law_mixed kV_law_mixed dc_law_mixed pm_law_mixed cd_law_mixed ct_law_mixed : Value}
    {od_law_some an_law_some : Option Addr} {sl_law_some : Array (Option Value)} {oc_law_some kV_law_some dc_law_some pm_law_some cd_law_some ct_law_some : Value}
    {od_law_steps an_law_steps : Option Addr} {sl_law_steps : Array (Option Value)} {oc_law_steps kV_law_steps dc_law_steps pm_law_steps cd_law_steps ct_law_steps : Value}
    {od_law_name an_law_name : Option Addr} {sl_law_name : Array (Option Value)} {oc_law_name kV_law_name dc_law_name pm_law_name cd_law_name ct_law_name : Value}
    {od_law_parts an_law_parts : Option Addr} {sl_law_parts : Array (Option Value)} {oc_law_parts kV_law_parts dc_law_parts pm_law_parts cd_law_parts ct_law_parts : Value}
    {od_law_copy an_law_copy : Option Addr} {sl_law_copy : Array (Option Value)} {oc_law_copy kV_law_copy dc_law_copy pm_law_copy cd_law_copy ct_law_copy : Value}
    {od_look_stands an_look_stands : Option Addr} {sl_look_stands : Array (Option Value)} {oc_look_stands kV_look_stands dc_look_stands pm_look_stands cd_look_stands ct_look_stands : Value}
    {od_is_mark an_is_mark : Option Addr} {sl_is_mark : Array (Option Value)} {oc_is_mark kV_is_mark dc_is_mark pm_is_mark cd_is_mark ct_is_mark : Value}
    {od_look_machine an_look_machine : Option Addr} {sl_look_machine : Array (Option Value)} {oc_look_machine kV_look_machine dc_look_machine pm_look_machine cd_look_machine ct_look_machine : Value}
    {od_Machine_init an_Machine_init : Option Addr} {sl_Machine_init : Array (Option Value)} {oc_Machine_init kV_Machine_init dc_Machine_init pm_Machine_init cd_Machine_init ct_Machine_init : Value}
    {tc_Machine_init : Value} {tdd_Machine_init : Option Addr} {tn_Machine_init : Nat} {tsl_Machine_init : Array (Option Value)}
    {od_law_made an_law_made : Option Addr} {sl_law_made : Array (Option Value)} {oc_law_made kV_law_made dc_law_made pm_law_made cd_law_made ct_law_made : Value}
    {od_Machine_many an_Machine_many : Option Addr} {sl_Machine_many : Array (Option Value)} {oc_Machine_many kV_Machine_many dc_Machine_many pm_Machine_many cd_Machine_many ct_Machine_many : Value}
    {od_law_set an_law_set : Option Addr} {sl_law_set : Array (Option Value)} {oc_law_set kV_law_set dc_law_set pm_law_set cd_law_set ct_law_set : Value}
    {od_Machine_marked an_Machine_marked : Option Addr} {sl_Machine_marked : Array (Option Value)} {oc_Machine_marked kV_Machine_marked dc_Machine_marked pm_Machine_marked cd_Machine_marked ct_Machine_marked : Value}
    {od_Machine_next_of an_Machine_next_of : Option Addr} {sl_Machine_next_of : Array (Option Value)} {oc_Machine_next_of kV_Machine_next_of dc_Machine_next_of pm_Machine_next_of cd_Machine_next_of ct_Machine_next_of : Value}
    {od_Machine_fair_at an_Machine_fair_at : Option Addr} {sl_Machine_fair_at : Array (Option Value)} {oc_Machine_fair_at kV_Machine_fair_at dc_Machine_fair_at pm_Machine_fair_at cd_Machine_fair_at ct_Machine_fair_at : Value}
    {od_law_tells an_law_tells : Option Addr} {sl_law_tells : Array (Option Value)} {oc_law_tells kV_law_tells dc_law_tells pm_law_tells cd_law_tells ct_law_tells : Value}
    {od_law an_law : Option Addr} {sl_law : Array (Option Value)} {oc_law kV_law dc_law pm_law cd_law ct_law : Value}
    {oo_KEPT : Obj} {its_KEPT : Array Value} {tn_KEPT : Nat}
    {tk_LETTERS : Tok}
    {tk_LONGEST : Tok}
    {tk_MOST_STANDS : Tok}
    (h_Machine : PySem.W.nsIn K mainGlobals "Machine" = some (some (.ref C_Machine)))
    (pg_Machine : PySem.W.plainGet K C_Machine Str.empty = true)
    (hd_Machine : PySem.W.hasDictIn K C_Machine = true)
    (po_Machine : PySem.W.plainOver K C_Machine = true)
    (sa_Machine : PySem.W.findIn K (.ref C_Machine) "__setattr__" = some (some (.builtin "object.__setattr__")))
    (mi_Machine : PySem.W.makesIn K C_Machine = true)
    (kc_Machine : PySem.W.keepIn K (.ref C_Machine) = true)
    (na_Machine_fair : PySem.W.findIn K (.ref C_Machine) "fair" = some none)
    (na_Machine_marks : PySem.W.findIn K (.ref C_Machine) "marks" = some none)
    (na_Machine_steps : PySem.W.findIn K (.ref C_Machine) "steps" = some none)
    (h_law_cell_at : PySem.W.nsIn K mainGlobals "_law_cell_at" = some (some (.ref a_law_cell_at)))
    (l_law_cell_at : K.lookup a_law_cell_at = some ⟨oc_law_cell_at, od_law_cell_at, .func (PySem.W.fnOf "_law_cell_at" "_law_cell_at" (defArgs s_law_cell_at) (defBody s_law_cell_at) (defScope s_law_cell_at) .none kV_law_cell_at dc_law_cell_at pm_law_cell_at an_law_cell_at cd_law_cell_at ct_law_cell_at), sl_law_cell_at⟩)
    (c_law_cell_at : PySem.W.codeIn K cd_law_cell_at "_law_cell_at" = true)
    (k_law_cell_at : PySem.W.keepIn K (.ref a_law_cell_at) = true)
    (h_law_mixed : PySem.W.nsIn K mainGlobals "_law_mixed" = some (some (.ref a_law_mixed)))
    (l_law_mixed : K.lookup a_law_mixed = some ⟨oc_law_mixed, od_law_mixed, .func (PySem.W.fnOf "_law_mixed" "_law_mixed" (defArgs s_law_mixed) (defBody s_law_mixed) (defScope s_law_mixed) .none kV_law_mixed dc_law_mixed pm_law_mixed an_law_mixed cd_law_mixed ct_law_mixed), sl_law_mixed⟩)
    (c_law_mixed : PySem.W.codeIn K cd_law_mixed "_law_mixed" = true)
    (k_law_mixed : PySem.W.keepIn K (.ref a_law_mixed) = true)
    (h_law_some : PySem.W.nsIn K mainGlobals "_law_some" = some (some (.ref a_law_some)))
    (l_law_some : K.lookup a_law_some = some ⟨oc_law_some, od_law_some, .func (PySem.W.fnOf "_law_some" "_law_some" (defArgs s_law_some) (defBody s_law_some) (defScope s_law_some) .none kV_law_some dc_law_some pm_law_some an_law_some cd_law_some ct_law_some), sl_law_some⟩)
    (c_law_some : PySem.W.codeIn K cd_law_some "_law_some" = true)
    (k_law_some : PySem.W.keepIn K (.ref a_law_some) = true)
    (h_law_steps : PySem.W.nsIn K mainGlobals "_law_steps" = some (some (.ref a_law_steps)))
    (l_law_steps : K.lookup a_law_steps = some ⟨oc_law_steps, od_law_steps, .func (PySem.W.fnOf "_law_steps" "_law_steps" (defArgs s_law_steps) (defBody s_law_steps) (defScope s_law_steps) .none kV_law_steps dc_law_steps pm_law_steps an_law_steps cd_law_steps ct_law_steps), sl_law_steps⟩)
    (c_law_steps : PySem.W.codeIn K cd_law_steps "_law_steps" = true)
    (k_law_steps : PySem.W.keepIn K (.ref a_law_steps) = true)
    (h_law_name : PySem.W.nsIn K mainGlobals "_law_name" = some (some (.ref a_law_name)))
    (l_law_name : K.lookup a_law_name = some ⟨oc_law_name, od_law_name, .func (PySem.W.fnOf "_law_name" "_law_name" (defArgs s_law_name) (defBody s_law_name) (defScope s_law_name) .none kV_law_name dc_law_name pm_law_name an_law_name cd_law_name ct_law_name), sl_law_name⟩)
    (c_law_name : PySem.W.codeIn K cd_law_name "_law_name" = true)
    (k_law_name : PySem.W.keepIn K (.ref a_law_name) = true)
    (h_law_parts : PySem.W.nsIn K mainGlobals "_law_parts" = some (some (.ref a_law_parts)))
    (l_law_parts : K.lookup a_law_parts = some ⟨oc_law_parts, od_law_parts, .func (PySem.W.fnOf "_law_parts" "_law_parts" (defArgs s_law_parts) (defBody s_law_parts) (defScope s_law_parts) .none kV_law_parts dc_law_parts pm_law_parts an_law_parts cd_law_parts ct_law_parts), sl_law_parts⟩)
    (c_law_parts : PySem.W.codeIn K cd_law_parts "_law_parts" = true)
    (k_law_parts : PySem.W.keepIn K (.ref a_law_parts) = true)
    (h_law_copy : PySem.W.nsIn K mainGlobals "_law_copy" = some (some (.ref a_law_copy)))
    (l_law_copy : K.lookup a_law_copy = some ⟨oc_law_copy, od_law_copy, .func (PySem.W.fnOf "_law_copy" "_law_copy" (defArgs s_law_copy) (defBody s_law_copy) (defScope s_law_copy) .none kV_law_copy dc_law_copy pm_law_copy an_law_copy cd_law_copy ct_law_copy), sl_law_copy⟩)
    (c_law_copy : PySem.W.codeIn K cd_law_copy "_law_copy" = true)
    (k_law_copy : PySem.W.keepIn K (.ref a_law_copy) = true)
    (h_look_stands : PySem.W.nsIn K mainGlobals "look_stands" = some (some (.ref a_look_stands)))
    (l_look_stands : K.lookup a_look_stands = some ⟨oc_look_stands, od_look_stands, .func (PySem.W.fnOf "look_stands" "look_stands" (defArgs s_look_stands) (defBody s_look_stands) (defScope s_look_stands) .none kV_look_stands dc_look_stands pm_look_stands an_look_stands cd_look_stands ct_look_stands), sl_look_stands⟩)
    (c_look_stands : PySem.W.codeIn K cd_look_stands "look_stands" = true)
    (k_look_stands : PySem.W.keepIn K (.ref a_look_stands) = true)
    (h_is_mark : PySem.W.nsIn K mainGlobals "is_mark" = some (some (.ref a_is_mark)))
    (l_is_mark : K.lookup a_is_mark = some ⟨oc_is_mark, od_is_mark, .func (PySem.W.fnOf "is_mark" "is_mark" (defArgs s_is_mark) (defBody s_is_mark) (defScope s_is_mark) .none kV_is_mark dc_is_mark pm_is_mark an_is_mark cd_is_mark ct_is_mark), sl_is_mark⟩)
    (c_is_mark : PySem.W.codeIn K cd_is_mark "is_mark" = true)
    (k_is_mark : PySem.W.keepIn K (.ref a_is_mark) = true)
    (h_look_machine : PySem.W.nsIn K mainGlobals "look_machine" = some (some (.ref a_look_machine)))
    (l_look_machine : K.lookup a_look_machine = some ⟨oc_look_machine, od_look_machine, .func (PySem.W.fnOf "look_machine" "look_machine" (defArgs s_look_machine) (defBody s_look_machine) (defScope s_look_machine) .none kV_look_machine dc_look_machine pm_look_machine an_look_machine cd_look_machine ct_look_machine), sl_look_machine⟩)
    (c_look_machine : PySem.W.codeIn K cd_look_machine "look_machine" = true)
    (k_look_machine : PySem.W.keepIn K (.ref a_look_machine) = true)
    (i_Machine_init : PySem.W.isFn K (.ref a_Machine_init) = true)
    (l_Machine_init : K.lookup a_Machine_init = some ⟨oc_Machine_init, od_Machine_init, .func (PySem.W.fnOf "__init__" "Machine.__init__" (defArgs s_Machine_init) (defBody s_Machine_init) (defScope s_Machine_init) (.ref td_Machine_init) kV_Machine_init dc_Machine_init pm_Machine_init an_Machine_init cd_Machine_init ct_Machine_init), sl_Machine_init⟩)
    (c_Machine_init : PySem.W.codeIn K cd_Machine_init "Machine.__init__" = true)
    (k_Machine_init : PySem.W.keepIn K (.ref a_Machine_init) = true)
    (td_l_Machine_init : K.lookup td_Machine_init = some ⟨tc_Machine_init, tdd_Machine_init, .seq [.none, .none].toArray tn_Machine_init, tsl_Machine_init⟩)
    (h_law_made : PySem.W.nsIn K mainGlobals "_law_made" = some (some (.ref a_law_made)))
    (l_law_made : K.lookup a_law_made = some ⟨oc_law_made, od_law_made, .func (PySem.W.fnOf "_law_made" "_law_made" (defArgs s_law_made) (defBody s_law_made) (defScope s_law_made) .none kV_law_made dc_law_made pm_law_made an_law_made cd_law_made ct_law_made), sl_law_made⟩)
    (c_law_made : PySem.W.codeIn K cd_law_made "_law_made" = true)
    (k_law_made : PySem.W.keepIn K (.ref a_law_made) = true)
    (i_Machine_many : PySem.W.isFn K (.ref a_Machine_many) = true)
    (l_Machine_many : K.lookup a_Machine_many = some ⟨oc_Machine_many, od_Machine_many, .func (PySem.W.fnOf "many" "Machine.many" (defArgs s_Machine_many) (defBody s_Machine_many) (defScope s_Machine_many) .none kV_Machine_many dc_Machine_many pm_Machine_many an_Machine_many cd_Machine_many ct_Machine_many), sl_Machine_many⟩)
    (c_Machine_many : PySem.W.codeIn K cd_Machine_many "Machine.many" = true)
    (k_Machine_many : PySem.W.keepIn K (.ref a_Machine_many) = true)
    (h_law_set : PySem.W.nsIn K mainGlobals "_law_set" = some (some (.ref a_law_set)))
    (l_law_set : K.lookup a_law_set = some ⟨oc_law_set, od_law_set, .func (PySem.W.fnOf "_law_set" "_law_set" (defArgs s_law_set) (defBody s_law_set) (defScope s_law_set) .none kV_law_set dc_law_set pm_law_set an_law_set cd_law_set ct_law_set), sl_law_set⟩)
    (c_law_set : PySem.W.codeIn K cd_law_set "_law_set" = true)
    (k_law_set : PySem.W.keepIn K (.ref a_law_set) = true)
    (i_Machine_marked : PySem.W.isFn K (.ref a_Machine_marked) = true)
    (l_Machine_marked : K.lookup a_Machine_marked = some ⟨oc_Machine_marked, od_Machine_marked, .func (PySem.W.fnOf "marked" "Machine.marked" (defArgs s_Machine_marked) (defBody s_Machine_marked) (defScope s_Machine_marked) .none kV_Machine_marked dc_Machine_marked pm_Machine_marked an_Machine_marked cd_Machine_marked ct_Machine_marked), sl_Machine_marked⟩)
    (c_Machine_marked : PySem.W.codeIn K cd_Machine_marked "Machine.marked" = true)
    (k_Machine_marked : PySem.W.keepIn K (.ref a_Machine_marked) = true)
    (i_Machine_next_of : PySem.W.isFn K (.ref a_Machine_next_of) = true)
    (l_Machine_next_of : K.lookup a_Machine_next_of = some ⟨oc_Machine_next_of, od_Machine_next_of, .func (PySem.W.fnOf "next_of" "Machine.next_of" (defArgs s_Machine_next_of) (defBody s_Machine_next_of) (defScope s_Machine_next_of) .none kV_Machine_next_of dc_Machine_next_of pm_Machine_next_of an_Machine_next_of cd_Machine_next_of ct_Machine_next_of), sl_Machine_next_of⟩)
    (c_Machine_next_of : PySem.W.codeIn K cd_Machine_next_of "Machine.next_of" = true)
    (k_Machine_next_of : PySem.W.keepIn K (.ref a_Machine_next_of) = true)
    (i_Machine_fair_at : PySem.W.isFn K (.ref a_Machine_fair_at) = true)
    (l_Machine_fair_at : K.lookup a_Machine_fair_at = some ⟨oc_Machine_fair_at, od_Machine_fair_at, .func (PySem.W.fnOf "fair_at" "Machine.fair_at" (defArgs s_Machine_fair_at) (defBody s_Machine_fair_at) (defScope s_Machine_fair_at) .none kV_Machine_fair_at dc_Machine_fair_at pm_Machine_fair_at an_Machine_fair_at cd_Machine_fair_at ct_Machine_fair_at), sl_Machine_fair_at⟩)
    (c_Machine_fair_at : PySem.W.codeIn K cd_Machine_fair_at "Machine.fair_at" = true)
    (k_Machine_fair_at : PySem.W.keepIn K (.ref a_Machine_fair_at) = true)
    (h_law_tells : PySem.W.nsIn K mainGlobals "_law_tells" = some (some (.ref a_law_tells)))
    (l_law_tells : K.lookup a_law_tells = some ⟨oc_law_tells, od_law_tells, .func (PySem.W.fnOf "_law_tells" "_law_tells" (defArgs s_law_tells) (defBody s_law_tells) (defScope s_law_tells) .none kV_law_tells dc_law_tells pm_law_tells an_law_tells cd_law_tells ct_law_tells), sl_law_tells⟩)
    (c_law_tells : PySem.W.codeIn K cd_law_tells "_law_tells" = true)
    (k_law_tells : PySem.W.keepIn K (.ref a_law_tells) = true)
    (h_law : PySem.W.nsIn K mainGlobals "law" = some (some (.ref a_law)))
    (l_law : K.lookup a_law = some ⟨oc_law, od_law, .func (PySem.W.fnOf "law" "law" (defArgs s_law) (defBody s_law) (defScope s_law) .none kV_law dc_law pm_law an_law cd_law ct_law), sl_law⟩)
    (c_law : PySem.W.codeIn K cd_law "law" = true)
    (k_law : PySem.W.keepIn K (.ref a_law) = true)
    (h_Machine__fair_at : PySem.W.findIn K (.ref C_Machine) "fair_at" = some (some (.ref a_Machine_fair_at)))
    (h_Machine__many : PySem.W.findIn K (.ref C_Machine) "many" = some (some (.ref a_Machine_many)))
    (h_Machine__marked : PySem.W.findIn K (.ref C_Machine) "marked" = some (some (.ref a_Machine_marked)))
    (h_Machine__next_of : PySem.W.findIn K (.ref C_Machine) "next_of" = some (some (.ref a_Machine_next_of)))
    (in_Machine : PySem.W.findIn K (.ref C_Machine) "__init__" = some (some (.ref a_Machine_init)))
    (z_bool : PySem.W.nsIn K mainGlobals "bool" = some none)
    (z_int : PySem.W.nsIn K mainGlobals "int" = some none)
    (z_isinstance : PySem.W.nsIn K mainGlobals "isinstance" = some none)
    (z_len : PySem.W.nsIn K mainGlobals "len" = some none)
    (z_list : PySem.W.nsIn K mainGlobals "list" = some none)
    (z_range : PySem.W.nsIn K mainGlobals "range" = some none)
    (z_sorted : PySem.W.nsIn K mainGlobals "sorted" = some none)
    (h_KEPT : PySem.W.nsIn K mainGlobals "KEPT" = some (some (.ref T_KEPT)))
    (l_KEPT : K.lookup T_KEPT = some oo_KEPT)
    (d_KEPT : oo_KEPT.data = .seq its_KEPT tn_KEPT)
    (t_KEPT : oo_KEPT.cls = .type "tuple")
    (v_KEPT : Vals [.str "all", .str "not", .str "both", .str "either", .str "somenext", .str "eachnext", .str "sometill", .str "eachtill", .str "someever", .str "eachever"] its_KEPT.toList)
    (h_LETTERS : PySem.W.nsIn K mainGlobals "LETTERS" = some (some (.str "abcdefghijklmnopqrstuvwxyz" tk_LETTERS)))
    (h_LONGEST : PySem.W.nsIn K mainGlobals "LONGEST" = some (some (.int 8 tk_LONGEST)))
    (h_MOST_STANDS : PySem.W.nsIn K mainGlobals "MOST_STANDS" = some (some (.int 60 tk_MOST_STANDS)))
    (hf : ∀ ns : List Int, ns.length ≤ 63 → ∃ ts, m_law [scrT ns] = some (.lf (.bl true), ts)) :
    ∃ fd : FuncData, (∀ (s : Shared) (v : Value), BindsTo s fd ⟨[v], []⟩ [("_law_script", v)]) ∧ ∀ base : Heap, K.In base → base.Ns mainGlobals mg → FnOk l.prog w K mg base CX0 6 fa fd ["_law_script"] (spLaw K) := by
  have e := hfa.symm.trans (PySem.W.mg_of X G h_law)
  cases e
  have F_law_cell_at := fun_mk (st := s_law_cell_at) l_law_cell_at c_law_cell_at k_law_cell_at
  have b_law_cell_at := F_law_cell_at.binds (ps := ["_law_script", "_law_k"]) fun _ _ _ _ _ _ us hl => match us, hl with | [_, _], _ => rfl
  have F_law_mixed := fun_mk (st := s_law_mixed) l_law_mixed c_law_mixed k_law_mixed
  have b_law_mixed := F_law_mixed.binds (ps := ["_law_cell", "_law_k"]) fun _ _ _ _ _ _ us hl => match us, hl with | [_, _], _ => rfl
  have F_law_some := fun_mk (st := s_law_some) l_law_some c_law_some k_law_some
  have b_law_some := F_law_some.binds (ps := ["_law_cell", "_law_many"]) fun _ _ _ _ _ _ us hl => match us, hl with | [_, _], _ => rfl
  have F_law_steps := fun_mk (st := s_law_steps) l_law_steps c_law_steps k_law_steps
  have b_law_steps := F_law_steps.binds (ps := ["_law_script", "_law_many"]) fun _ _ _ _ _ _ us hl => match us, hl with | [_, _], _ => rfl
  have F_law_name := fun_mk (st := s_law_name) l_law_name c_law_name k_law_name
  have b_law_name := F_law_name.binds (ps := ["_law_k", "_law_seed"]) fun _ _ _ _ _ _ us hl => match us, hl with | [_, _], _ => rfl
  have F_law_parts := fun_mk (st := s_law_parts) l_law_parts c_law_parts k_law_parts
  have b_law_parts := F_law_parts.binds (ps := ["_law_script"]) fun _ _ _ _ _ _ us hl => match us, hl with | [_], _ => rfl
  have F_law_copy := fun_mk (st := s_law_copy) l_law_copy c_law_copy k_law_copy
  have b_law_copy := F_law_copy.binds (ps := ["_law_parts_here"]) fun _ _ _ _ _ _ us hl => match us, hl with | [_], _ => rfl
  have F_look_stands := fun_mk (st := s_look_stands) l_look_stands c_look_stands k_look_stands
  have b_look_stands := F_look_stands.binds (ps := ["stands", "many"]) fun _ _ _ _ _ _ us hl => match us, hl with | [_, _], _ => rfl
  have F_is_mark := fun_mk (st := s_is_mark) l_is_mark c_is_mark k_is_mark
  have b_is_mark := F_is_mark.binds (ps := ["name"]) fun _ _ _ _ _ _ us hl => match us, hl with | [_], _ => rfl
  have F_look_machine := fun_mk (st := s_look_machine) l_look_machine c_look_machine k_look_machine
  have b_look_machine := F_look_machine.binds (ps := ["steps", "marks", "fair"]) fun _ _ _ _ _ _ us hl => match us, hl with | [_, _, _], _ => rfl
  have F_Machine_init : FunD K "__init__" "Machine.__init__" (defArgs s_Machine_init) (defBody s_Machine_init) (defScope s_Machine_init) [.non, .non] [] a_Machine_init _ := ⟨⟨_, _, _, _, _, _, _, _, _, _, rfl, l_Machine_init, c_Machine_init, .inr ⟨by simp, td_Machine_init, _, _, _, rfl, td_l_Machine_init, rfl, (.cons rfl (.cons rfl .nil))⟩, .inl rfl⟩, k_Machine_init⟩
  obtain ⟨ds_Machine_init_3, b_Machine_init_3⟩ := F_Machine_init.binds1 (ps := ["self", "steps", "marks", "fair"]) 4 2 (by simp) rfl fun T kV doc pm an cdv ct us its h1 h2 => match us, h1, its, h2 with | [_, _, _, _], _, [_, _], _ => ⟨_, rfl, rfl⟩
  obtain ⟨ds_Machine_init_2, b_Machine_init_2⟩ := F_Machine_init.binds1 (ps := ["self", "steps", "marks", "fair"]) 3 1 (by simp) rfl fun T kV doc pm an cdv ct us its h1 h2 => match us, h1, its, h2 with | [_, _, _], _, [_, _], _ => ⟨_, rfl, rfl⟩
  obtain ⟨ds_Machine_init_1, b_Machine_init_1⟩ := F_Machine_init.binds1 (ps := ["self", "steps", "marks", "fair"]) 2 0 (by simp) rfl fun T kV doc pm an cdv ct us its h1 h2 => match us, h1, its, h2 with | [_, _], _, [_, _], _ => ⟨_, rfl, rfl⟩
  have F_law_made := fun_mk (st := s_law_made) l_law_made c_law_made k_law_made
  have b_law_made := F_law_made.binds (ps := ["_law_parts_here"]) fun _ _ _ _ _ _ us hl => match us, hl with | [_], _ => rfl
  have F_Machine_many := fun_mk (st := s_Machine_many) l_Machine_many c_Machine_many k_Machine_many
  have b_Machine_many := F_Machine_many.binds (ps := ["self"]) fun _ _ _ _ _ _ us hl => match us, hl with | [_], _ => rfl
  have F_law_set := fun_mk (st := s_law_set) l_law_set c_law_set k_law_set
  have b_law_set := F_law_set.binds (ps := ["_law_found", "_law_due"]) fun _ _ _ _ _ _ us hl => match us, hl with | [_, _], _ => rfl
  have F_Machine_marked := fun_mk (st := s_Machine_marked) l_Machine_marked c_Machine_marked k_Machine_marked
  have b_Machine_marked := F_Machine_marked.binds (ps := ["self", "name"]) fun _ _ _ _ _ _ us hl => match us, hl with | [_, _], _ => rfl
  have F_Machine_next_of := fun_mk (st := s_Machine_next_of) l_Machine_next_of c_Machine_next_of k_Machine_next_of
  have b_Machine_next_of := F_Machine_next_of.binds (ps := ["self", "stand"]) fun _ _ _ _ _ _ us hl => match us, hl with | [_, _], _ => rfl
  have F_Machine_fair_at := fun_mk (st := s_Machine_fair_at) l_Machine_fair_at c_Machine_fair_at k_Machine_fair_at
  have b_Machine_fair_at := F_Machine_fair_at.binds (ps := ["self", "number"]) fun _ _ _ _ _ _ us hl => match us, hl with | [_, _], _ => rfl
  have F_law_tells := fun_mk (st := s_law_tells) l_law_tells c_law_tells k_law_tells
  have b_law_tells := F_law_tells.binds (ps := ["_law_machine", "_law_parts_here"]) fun _ _ _ _ _ _ us hl => match us, hl with | [_, _], _ => rfl
  have F_law := fun_mk (st := s_law) l_law c_law k_law
  have t_KEPT : ∀ F H, Rep K mg F H (.ref T_KEPT) k_KEPT Emp := fun F H => .rot (vs := [.str "all", .str "not", .str "both", .str "either", .str "somenext", .str "eachnext", .str "sometill", .str "eachtill", .str "someever", .str "eachever"]) (.inr ⟨oo_KEPT, its_KEPT, tn_KEPT, l_KEPT, t_KEPT, d_KEPT, by have e := v_KEPT.length; simp only [Array.length_toList] at e; rw [← e]; decide, v_KEPT⟩) (.cons (S1 := Emp) (S2 := Emp) (.lf rfl fun _ z => z) (.cons (S1 := Emp) (S2 := Emp) (.lf rfl fun _ z => z) (.cons (S1 := Emp) (S2 := Emp) (.lf rfl fun _ z => z) (.cons (S1 := Emp) (S2 := Emp) (.lf rfl fun _ z => z) (.cons (S1 := Emp) (S2 := Emp) (.lf rfl fun _ z => z) (.cons (S1 := Emp) (S2 := Emp) (.lf rfl fun _ z => z) (.cons (S1 := Emp) (S2 := Emp) (.lf rfl fun _ z => z) (.cons (S1 := Emp) (S2 := Emp) (.lf rfl fun _ z => z) (.cons (S1 := Emp) (S2 := Emp) (.lf rfl fun _ z => z) (.cons (S1 := Emp) (S2 := Emp) (.lf rfl fun _ z => z) (.nil fun _ z => z) dj_emp fun x => ⟨fun z => z.elim, fun z => z.elim id id⟩) dj_emp fun x => ⟨fun z => z.elim, fun z => z.elim id id⟩) dj_emp fun x => ⟨fun z => z.elim, fun z => z.elim id id⟩) dj_emp fun x => ⟨fun z => z.elim, fun z => z.elim id id⟩) dj_emp fun x => ⟨fun z => z.elim, fun z => z.elim id id⟩) dj_emp fun x => ⟨fun z => z.elim, fun z => z.elim id id⟩) dj_emp fun x => ⟨fun z => z.elim, fun z => z.elim id id⟩) dj_emp fun x => ⟨fun z => z.elim, fun z => z.elim id id⟩) dj_emp fun x => ⟨fun z => z.elim, fun z => z.elim id id⟩) dj_emp fun x => ⟨fun z => z.elim, fun z => z.elim id id⟩)
  let E : Txt K mg := { C_Machine := C_Machine, m_Machine := PySem.W.mg_of X G h_Machine, cl_Machine := ⟨pg_Machine, hd_Machine, po_Machine, sa_Machine⟩, na_Machine_fair := na_Machine_fair, na_Machine_marks := na_Machine_marks, na_Machine_steps := na_Machine_steps, a_law_cell_at := a_law_cell_at, fd_law_cell_at := _, F_law_cell_at := F_law_cell_at, g_law_cell_at := PySem.W.mg_of X G h_law_cell_at, b_law_cell_at := b_law_cell_at, a_law_mixed := a_law_mixed, fd_law_mixed := _, F_law_mixed := F_law_mixed, g_law_mixed := PySem.W.mg_of X G h_law_mixed, b_law_mixed := b_law_mixed, a_law_some := a_law_some, fd_law_some := _, F_law_some := F_law_some, g_law_some := PySem.W.mg_of X G h_law_some, b_law_some := b_law_some, a_law_steps := a_law_steps, fd_law_steps := _, F_law_steps := F_law_steps, g_law_steps := PySem.W.mg_of X G h_law_steps, b_law_steps := b_law_steps, a_law_name := a_law_name, fd_law_name := _, F_law_name := F_law_name, g_law_name := PySem.W.mg_of X G h_law_name, b_law_name := b_law_name, a_law_parts := a_law_parts, fd_law_parts := _, F_law_parts := F_law_parts, g_law_parts := PySem.W.mg_of X G h_law_parts, b_law_parts := b_law_parts, a_law_copy := a_law_copy, fd_law_copy := _, F_law_copy := F_law_copy, g_law_copy := PySem.W.mg_of X G h_law_copy, b_law_copy := b_law_copy, a_look_stands := a_look_stands, fd_look_stands := _, F_look_stands := F_look_stands, g_look_stands := PySem.W.mg_of X G h_look_stands, b_look_stands := b_look_stands, a_is_mark := a_is_mark, fd_is_mark := _, F_is_mark := F_is_mark, g_is_mark := PySem.W.mg_of X G h_is_mark, b_is_mark := b_is_mark, a_look_machine := a_look_machine, fd_look_machine := _, F_look_machine := F_look_machine, g_look_machine := PySem.W.mg_of X G h_look_machine, b_look_machine := b_look_machine, a_Machine_init := a_Machine_init, fd_Machine_init := _, F_Machine_init := F_Machine_init, ds_Machine_init_3 := ds_Machine_init_3, b_Machine_init_3 := b_Machine_init_3, ds_Machine_init_2 := ds_Machine_init_2, b_Machine_init_2 := b_Machine_init_2, ds_Machine_init_1 := ds_Machine_init_1, b_Machine_init_1 := b_Machine_init_1, a_law_made := a_law_made, fd_law_made := _, F_law_made := F_law_made, g_law_made := PySem.W.mg_of X G h_law_made, b_law_made := b_law_made, a_Machine_many := a_Machine_many, fd_Machine_many := _, F_Machine_many := F_Machine_many, b_Machine_many := b_Machine_many, a_law_set := a_law_set, fd_law_set := _, F_law_set := F_law_set, g_law_set := PySem.W.mg_of X G h_law_set, b_law_set := b_law_set, a_Machine_marked := a_Machine_marked, fd_Machine_marked := _, F_Machine_marked := F_Machine_marked, b_Machine_marked := b_Machine_marked, a_Machine_next_of := a_Machine_next_of, fd_Machine_next_of := _, F_Machine_next_of := F_Machine_next_of, b_Machine_next_of := b_Machine_next_of, a_Machine_fair_at := a_Machine_fair_at, fd_Machine_fair_at := _, F_Machine_fair_at := F_Machine_fair_at, b_Machine_fair_at := b_Machine_fair_at, a_law_tells := a_law_tells, fd_law_tells := _, F_law_tells := F_law_tells, g_law_tells := PySem.W.mg_of X G h_law_tells, b_law_tells := b_law_tells, a_law := _, fd_law := _, F_law := F_law, g_law := PySem.W.mg_of X G h_law, me_Machine__fair_at := ⟨h_Machine__fair_at, i_Machine_fair_at, k_Machine_fair_at⟩, me_Machine__many := ⟨h_Machine__many, i_Machine_many, k_Machine_many⟩, me_Machine__marked := ⟨h_Machine__marked, i_Machine_marked, k_Machine_marked⟩, me_Machine__next_of := ⟨h_Machine__next_of, i_Machine_next_of, k_Machine_next_of⟩, mk_Machine := ⟨mi_Machine, in_Machine, i_Machine_init, kc_Machine⟩, n_bool := PySem.W.mg_none_of X G z_bool, n_int := PySem.W.mg_none_of X G z_int, n_isinstance := PySem.W.mg_none_of X G z_isinstance, n_len := PySem.W.mg_none_of X G z_len, n_list := PySem.W.mg_none_of X G z_list, n_range := PySem.W.mg_none_of X G z_range, n_sorted := PySem.W.mg_none_of X G z_sorted, v_KEPT := (.ref T_KEPT), u_KEPT := _, m_KEPT := PySem.W.mg_of X G h_KEPT, r_KEPT := rfl, t_KEPT := t_KEPT, v_LETTERS := (.str "abcdefghijklmnopqrstuvwxyz"), u_LETTERS := _, m_LETTERS := PySem.W.mg_of X G h_LETTERS, r_LETTERS := ⟨_, rfl⟩, t_LETTERS := (fun _ _ => .lf rfl fun _ z => z), v_LONGEST := (.int 8), u_LONGEST := _, m_LONGEST := PySem.W.mg_of X G h_LONGEST, r_LONGEST := ⟨_, rfl⟩, t_LONGEST := (fun _ _ => .lf rfl fun _ z => z), v_MOST_STANDS := (.int 60), u_MOST_STANDS := _, m_MOST_STANDS := PySem.W.mg_of X G h_MOST_STANDS, r_MOST_STANDS := ⟨_, rfl⟩, t_MOST_STANDS := (fun _ _ => .lf rfl fun _ z => z) }
  exact ⟨_, fun s v => .of_eq rfl, fun base _ _ => (ok_law E).imp (law_imp hf)⟩
end Wk


set_option Elab.async false
set_option linter.all false
set_option maxRecDepth 100000
set_option maxHeartbeats 4000000
/-! PM: machines looked at and made. -/
namespace Pm
open PySem PySem.Spec PyProof.Rows L2 Tr Wk

theorem new_at {r : List Int} (h : r.Nodup) {i : Nat} (hi : i < r.length) : r[i] ∉ r.take i := fun hm => by
  obtain ⟨j, hj, e⟩ := List.getElem_of_mem hm
  have hj' : j < i := by
    have := hj
    rw [List.length_take] at this
    omega
  rw [List.getElem_take] at e
  have := (List.getElem_inj h).mp e
  omega
theorem look_stands_ok (r : List Int) (n : Nat) (h : Okl n r) : m_look_stands [li false r, I n] = some (N, [.no, I n]) := by
  obtain ⟨env', h1, h2⟩ := dFr_inv (dg := gN 3) (d := (dSeq (dIf (dOr (o1 oNot (vr (o1V (oIsi "int") (gV 3)))) (vr (o1V (oIsi "bool") (gV 3)))) dFail dNx) (dSeq (dIf (dOr (vr (o2V oLt (gV 3) (gC (.int 0)))) (dOr (vr (o2V oGe (gV 3) (gV 1))) (vr (o2V oIn (gV 3) (gV 2))))) dFail dNx) (dPut 2 mSetD (re (vr (gC (.bl true)))) (gV 3)))))
    (r.map lfI) (fun i env => ∃ x3, env = [.no, I n, dk true (kI (r.take i)), x3]) [.no, I n, dk true (kI []), .no] ⟨.no, rfl⟩ (by
      rintro i t env ht ⟨x3, rfl⟩
      obtain ⟨hi, rfl⟩ := li_get ht
      have hx := h.bd r[i] (List.getElem_mem hi)
      refine ⟨[.no, I n, dk true (kI (r.take i)), I r[i]], [.no, I n, dk true (kI (r.take (i + 1))), I r[i]], rfl, .inl ?_, _, rfl⟩
      have t1 : dOr (o1 oNot (vr (o1V (oIsi "int") (gV 3)))) (vr (o1V (oIsi "bool") (gV 3))) [.no, I n, dk true (kI (r.take i)), I r[i]] = some (B false, [.no, I n, dk true (kI (r.take i)), I r[i]]) := by
        rw [E_orF (E_1 (E_vr (E_1V rfl (isi_int _))) (oNot_b _))]
        exact E_vr (E_1V rfl (isi_bool _))
      rw [E_seq ((E_ifF t1).trans rfl)]
      have t2 : dOr (vr (o2V oLt (gV 3) (gC (.int 0)))) (dOr (vr (o2V oGe (gV 3) (gV 1))) (vr (o2V oIn (gV 3) (gV 2)))) [.no, I n, dk true (kI (r.take i)), I r[i]] = some (B false, [.no, I n, dk true (kI (r.take i)), I r[i]]) := by
        have l1 : oLt (I r[i]) (I 0) = some (B false) := by rw [I_lt, decide_eq_false (by omega)]
        have l2 : oGe (I r[i]) (I n) = some (B false) := by rw [I_ge, decide_eq_false (by omega)]
        have l3 : oIn (I r[i]) (dk true (kI (r.take i))) = some (B false) := by rw [dkI_in, decide_eq_false (new_at h.nd hi)]
        rw [E_orF (E_vr (E_2V rfl rfl l1)), E_orF (E_vr (E_2V rfl rfl l2))]
        exact E_vr (E_2V rfl rfl l3)
      rw [E_seq ((E_ifF t2).trans rfl)]
      have k : mSetD (.int r[i]) (dk true (kI (r.take i))) [B true] = some (N, dk true (kI (r.take (i + 1)))) := by
        have nd : (r.take i).Nodup := h.nd.sublist (List.take_sublist _ _)
        have hl : (r.take i).length < sizeLine := small (by have := h.le; simp; omega)
        rw [dkI_put _ _ nd (new_at h.nd hi) hl, List.take_succ_eq_append_getElem hi]
      exact E_put (E_re (E_vr rfl) (cln_lf _)) rfl rfl k rfl)
  obtain ⟨x3, rfl⟩ := h2
  have b : b_look_stands [li false r, I n, .no, .no] = some (.nx, [.no, I n, dk true (kI (r.take (r.map lfI).length)), x3]) := by
    unfold b_look_stands
    rw [E_seq (E_set (i := 2) (d := dDic) rfl (by simp) rfl)]
    exact (E_for (E_it (E_M (t := li false r) rfl rfl) (items_li _ _))).trans h1
  exact E_fun0 rfl b rfl
/-- marks that a machine may have -/
structure Mks (n : Nat) (ms : List (Str × List Int)) : Prop where
  ok : ∀ m ∈ ms, m_is_mark [.lf (.str m.1)] = some (B true, [.lf (.str m.1)])
  nd : (ms.map (·.1)).Nodup
  okl : ∀ m ∈ ms, Okl n m.2
  le : ms.length ≤ 60
/-- the steps of a machine, the fair sets -/
structure Stps (n : Nat) (rs : List (List Int)) : Prop where
  len : rs.length = n
  pos : 0 < n
  le : n ≤ 60
  okl : ∀ r ∈ rs, Okl n r
  ne : ∀ r ∈ rs, r ≠ []
structure Frs (n : Nat) (fs : List (List Int)) : Prop where
  okl : ∀ r ∈ fs, Okl n r
  le : fs.length ≤ 60
abbrev kS (xs : List Str) : List Key := xs.map Sum.inr
theorem kS_mem {x : Str} {xs : List Str} : (Sum.inr x : Key) ∈ kS xs ↔ x ∈ xs := by
  constructor
  · intro h
    obtain ⟨y, h1, h2⟩ := List.mem_map.mp h
    cases h2
    exact h1
  · exact fun h => List.mem_map.mpr ⟨x, h, rfl⟩
theorem new_atS {r : List Str} (h : r.Nodup) {i : Nat} (hi : i < r.length) : r[i] ∉ r.take i := fun hm => by
  obtain ⟨j, hj, e⟩ := List.getElem_of_mem hm
  have hj' : j < i := by
    have := hj
    rw [List.length_take] at this
    omega
  rw [List.getElem_take] at e
  have := (List.getElem_inj h).mp e
  omega
theorem look_machine_ok {n : Nat} (rs fs : List (List Int)) (ms : List (Str × List Int)) (hr : Stps n rs) (hm : Mks n ms) (hf : Frs n fs) :
    m_look_machine [ll false rs, mks false ms, ll false fs] = some (N, [.no, .no, .no]) := by
  have b : ∃ e, b_look_machine [ll false rs, mks false ms, ll false fs, .no, .no, .no, .no] = some (.nx, e) ∧ outs [true, true, true] e = [.no, .no, .no] := by
    unfold b_look_machine
    have hlen : oLen (ll false rs) = some (I n) := by rw [oLen_ll, hr.len]
    rw [E_seq (E_set (i := 3) (E_re (E_vr (E_1V rfl hlen)) (cln_lf _)) (by simp) rfl)]
    have t1 : dOr (vr (o2V oLt (gV 3) (gC (.int 1)))) (vr (o2V oGt (gV 3) (gG k_MOST_STANDS))) [ll false rs, mks false ms, ll false fs, I n, .no, .no, .no] = some (B false, [ll false rs, mks false ms, ll false fs, I n, .no, .no, .no]) := by
      have l1 : oLt (I n) (I 1) = some (B false) := by rw [I_lt, decide_eq_false (by have := hr.pos; omega)]
      have l2 : oGt (I n) k_MOST_STANDS = some (B false) := by
        show oGt (I n) (I 60) = _
        rw [I_gt, decide_eq_false (by have := hr.le; omega)]
      rw [E_orF (E_vr (E_2V rfl rfl l1))]
      exact E_vr (E_2V rfl rfl l2)
    show ∃ e, dSeq _ _ [ll false rs, mks false ms, ll false fs, I n, .no, .no, .no] = _ ∧ _
    rw [E_seq ((E_ifF t1).trans rfl)]
    obtain ⟨env', h1, h2⟩ := dFr_inv (dg := gN 4) (d := (dSeq (dEx (dCall m_look_stands [none, none] [] (aCons (gS 4) (aCons (gS 3) aNil)))) (dIf (vr (o2V oEq (o1V oLen (gV 4)) (gC (.int 0)))) dFail dNx)))
      (rs.map (li false)) (fun i env => ∃ x4, env = [.no, mks false ms, ll false fs, I n, x4, .no, .no]) [.no, mks false ms, ll false fs, I n, .no, .no, .no] ⟨.no, rfl⟩ (by
        rintro i t env ht ⟨x4, rfl⟩
        obtain ⟨hi, rfl⟩ := ll_get ht
        have hr' := hr.okl rs[i] (List.getElem_mem hi)
        refine ⟨[.no, mks false ms, ll false fs, I n, li false rs[i], .no, .no], [.no, mks false ms, ll false fs, I n, li false rs[i], .no, .no], rfl, .inl ?_, _, rfl⟩
        rw [E_seq (E_ex (E_call (E_cons (E_S rfl (frz_li _ _) rfl) (E_cons (E_S rfl (frz_lf _) rfl) rfl)) (look_stands_ok _ _ hr') rfl))]
        have l : oEq (I rs[i].length) (I 0) = some (B false) := by
          rw [oEq_int, decide_eq_false]
          intro e
          exact hr.ne rs[i] (List.getElem_mem hi) (List.length_eq_zero_iff.mp (by omega))
        exact (E_ifF (E_vr (E_2V (E_1V rfl (oLen_li _ _)) rfl l))).trans rfl)
    obtain ⟨x4, rfl⟩ := h2
    rw [E_seq ((E_for (E_it (E_M (t := ll false rs) rfl rfl) (items_ll _ _))).trans h1)]
    rw [E_seq (E_set (i := 5) (d := dDic) rfl (by simp) rfl)]
    -- the marks
    let nm : List Str := ms.map (·.1)
    have hnm : ∀ (i : Nat) (hi : i < ms.length), nm[i]? = some ms[i].1 := fun i hi => by simp [nm, hi]
    have mloop : ∀ x4 : T, ∃ x4' x6', dFr (gT2 (gN 6) (gN 4)) (dSeq (dIf (dOr (o1 oNot (bw (dCall m_is_mark [none] [] (aCons (gS 6) aNil)))) (vr (o2V oIn (gV 6) (gV 5)))) dFail dNx) (dSeq (dPut 5 mSetD (re (vr (gC (.bl true)))) (gV 6)) (dEx (dCall m_look_stands [none, none] [] (aCons (gM 4) (aCons (gS 3) aNil))))))
        (ms.map (mk1 false)) [.no, .no, ll false fs, I n, x4, dk true [], .no] = some (.nx, [.no, .no, ll false fs, I n, x4', dk true (kS nm), x6']) := fun x4 => by
      obtain ⟨env', g1, x4', x6', rfl⟩ := dFr_inv (dg := gT2 (gN 6) (gN 4)) (d := (dSeq (dIf (dOr (o1 oNot (bw (dCall m_is_mark [none] [] (aCons (gS 6) aNil)))) (vr (o2V oIn (gV 6) (gV 5)))) dFail dNx) (dSeq (dPut 5 mSetD (re (vr (gC (.bl true)))) (gV 6)) (dEx (dCall m_look_stands [none, none] [] (aCons (gM 4) (aCons (gS 3) aNil))))))) (ms.map (mk1 false)) (fun i env => ∃ x4 x6, env = [.no, .no, ll false fs, I n, x4, dk true (kS (nm.take i)), x6])
        [.no, .no, ll false fs, I n, x4, dk true (kS (nm.take 0)), .no] ⟨_, _, rfl⟩ (by
          rintro i t env ht ⟨x4, x6, rfl⟩
          obtain ⟨hi, rfl⟩ := mks_get ht
          have hi' : i < nm.length := by simpa [nm] using hi
          have ei : nm[i] = ms[i].1 := by simp [nm]
          have hx := new_atS hm.nd hi'
          refine ⟨[.no, .no, ll false fs, I n, li false ms[i].2, dk true (kS (nm.take i)), .lf (.str ms[i].1)], [.no, .no, ll false fs, I n, .no, dk true (kS (nm.take (i + 1))), .lf (.str ms[i].1)], rfl, .inl ?_, _, _, rfl⟩
          have t1 : dOr (o1 oNot (bw (dCall m_is_mark [none] [] (aCons (gS 6) aNil)))) (vr (o2V oIn (gV 6) (gV 5))) [.no, .no, ll false fs, I n, li false ms[i].2, dk true (kS (nm.take i)), .lf (.str ms[i].1)] = some (B false, [.no, .no, ll false fs, I n, li false ms[i].2, dk true (kS (nm.take i)), .lf (.str ms[i].1)]) := by
            have c : dCall m_is_mark [none] [] (aCons (gS 6) aNil) (frzs [.no, .no, ll false fs, I n, li false ms[i].2, dk true (kS (nm.take i)), .lf (.str ms[i].1)]) = some (B true, _) :=
              E_call (E_cons (E_S (t := .lf (.str ms[i].1)) rfl (frz_lf _) rfl) rfl) (hm.ok ms[i] (List.getElem_mem hi)) rfl
            rw [E_orF (E_1 (E_bw c (pure_lf _)) (oNot_b _))]
            have l3 : oIn (.lf (.str ms[i].1)) (dk true (kS (nm.take i))) = some (B false) := by
              rw [dk_in true _ (Sum.inr ms[i].1) rfl]
              have : hasK (kS (nm.take i)) (Sum.inr ms[i].1) = false := by
                cases e : hasK (kS (nm.take i)) (Sum.inr ms[i].1) with
                | false => rfl
                | true => rw [hasK_iff, kS_mem, ← ei] at e; exact (hx e).elim
              rw [this]
            exact E_vr (E_2V rfl rfl l3)
          rw [E_seq ((E_ifF t1).trans rfl)]
          have k : mSetD (.str ms[i].1) (dk true (kS (nm.take i))) [B true] = some (N, dk true (kS (nm.take (i + 1)))) := by
            have nd : (kS (nm.take i)).Nodup := List.pairwise_map.mpr ((hm.nd.sublist (List.take_sublist _ _)).imp fun h e => h (Sum.inr.inj e))
            have hl : (kS (nm.take i)).length < sizeLine := small (by have := hm.le; simp [nm]; omega)
            rw [dk_put _ (Sum.inr ms[i].1) rfl nd (by rw [kS_mem, ← ei]; exact hx) hl, List.take_succ_eq_append_getElem hi', ei]
            simp [kS]
          rw [E_seq (E_put (E_re (E_vr rfl) (cln_lf _)) rfl rfl k rfl)]
          exact E_ex (E_call (E_cons (E_M (t := li false ms[i].2) rfl rfl) (E_cons (E_S (t := I n) rfl (frz_lf _) rfl) rfl)) (look_stands_ok _ _ (hm.okl ms[i] (List.getElem_mem hi))) rfl))
      refine ⟨x4', x6', ?_⟩
      rw [show nm.take (ms.map (mk1 false)).length = nm from List.take_of_length_le (by simp [nm])] at g1
      exact g1
    obtain ⟨x4', x6', g1⟩ := mloop x4
    rw [E_seq ((E_for (E_it (E_M (t := mks false ms) rfl rfl) (items_mks _ _))).trans g1)]
    obtain ⟨env'', k1, x4'', rfl⟩ := dFr_inv (dg := gN 4) (d := dEx (dCall m_look_stands [none, none] [] (aCons (gM 4) (aCons (gS 3) aNil)))) (fs.map (li false)) (fun i env => ∃ x4, env = [.no, .no, .no, I n, x4, dk true (kS nm), x6'])
      [.no, .no, .no, I n, x4', dk true (kS nm), x6'] ⟨_, rfl⟩ (by
        rintro i t env ht ⟨x4, rfl⟩
        obtain ⟨hi, rfl⟩ := ll_get ht
        refine ⟨[.no, .no, .no, I n, li false fs[i], dk true (kS nm), x6'], [.no, .no, .no, I n, .no, dk true (kS nm), x6'], rfl, .inl ?_, _, rfl⟩
        exact E_ex (E_call (E_cons (E_M (t := li false fs[i]) rfl rfl) (E_cons (E_S (t := I n) rfl (frz_lf _) rfl) rfl)) (look_stands_ok _ _ (hf.okl fs[i] (List.getElem_mem hi))) rfl))
    exact ⟨_, (E_for (E_it (E_M (t := ll false fs) rfl rfl) (items_ll _ _))).trans k1, rfl⟩
  obtain ⟨e, h1, h2⟩ := b
  exact E_fun0 rfl h1 h2
theorem no_marks (n : Nat) : Mks n [] := ⟨(fun _ h => by cases h), List.nodup_nil, (fun _ h => by cases h), Nat.zero_le _⟩
theorem no_fairs (n : Nat) : Frs n [] := ⟨(fun _ h => by cases h), Nat.zero_le _⟩
theorem row_len {n : Nat} {rs : List (List Int)} (hrs : Stps n rs) {x : Int} (h : 0 ≤ x ∧ x < n) : (rs.getD x.toNat []).length ≤ 60 ∧ x.toNat < rs.length := by
  have hl : x.toNat < rs.length := by rw [hrs.len]; omega
  have e : rs.getD x.toNat [] = rs[x.toNat] := by simp [hl]
  rw [e]; exact ⟨(hrs.okl _ (List.getElem_mem hl)).le, hl⟩
end Pm


set_option Elab.async false
set_option linter.all false
set_option maxRecDepth 100000
set_option maxHeartbeats 4000000
/-! WB0: names that a mark may have. -/
namespace Pm
open PySem PySem.Spec PyProof.Rows L2 Tr Wk
local macro_rules | `(tactic| exists $es,*) => do { let ls ← es.getElems.mapM fun e => `(Lean.Parser.Tactic.simpLemma| $e:term); `(tactic| simp -implicitDefEqProofs (disch := (first | assumption | omega | decide | (simp only [List.length_cons, List.length_nil, List.length_append, List.length_map, Tr.rgI_len]; omega) | (simp only [List.length_cons, List.length_nil, List.length_append, List.length_map, Int.toNat_natCast] at *; omega))) only [Tr.okT_lf, Tr.okT_nd, Tr.okT_li, Tr.okT_ll, Tr.okT_dk, Tr.okT_mks, Tr.okT_mk1, Tr.okT_mch, Tr.okT_scr, Tr.okT_tp, Tr.okO_some, Tr.gV_ev, Tr.gC_ev, Tr.gG_ev, Tr.fM_ev, Tr.fS_ev, Tr.gM_ev, Tr.gS_ev, Tr.fP_ev, Tr.fQ_ev, Tr.vr_ev, Tr.fRe_ev, Tr.re_ev, Tr.fO1_ev, Tr.o1V_ev, Tr.o1_ev, Tr.fO2V_ev, Tr.o2V_ev, Tr.fO2v'_ev, Tr.fO2v_ev, Tr.o2v_ev, Tr.fO2o'_ev, Tr.fO2o_ev, Tr.o2o_ev, Tr.fO2c'_ev, Tr.fO2c_ev, Tr.o2c_ev, Tr.fO2n''_ev, Tr.fO2n'_ev, Tr.fO2n_ev, Tr.o2n_ev, Tr.fAnd_ev, Tr.fOr_ev, Tr.dAnd_ev, Tr.dOr_ev, Tr.ite_BB, Tr.ite_decF, Tr.ite_Tdec, Tr.z_cast, Tr.z_ndec, Tr.ite_TF, Tr.ite_FT, Tr.bind_ite, Tr.aNil_ev, Tr.fCons'_ev, Tr.fCons_ev, Tr.aCons_ev, Tr.fCall'_ev, Tr.fCall_ev, Tr.dCall_ev, Tr.wb_nil, Tr.wb_none, Tr.fWb_ev, Tr.wb_some, Tr.fMeth'_ev, Tr.fMeth_ev, Tr.dMeth_ev, Tr.fMake'_ev, Tr.fMake_ev, Tr.dMake_ev, Tr.fSeq_nx, Tr.fSeq_rt, Tr.fSeq_bk, Tr.fSeq_ct, Tr.dSeq_ev, Tr.fIf_ev, Tr.dIf_ev, Tr.fSet_ev, Tr.dSet_ev, Tr.fRet_ev, Tr.dRet_ev, Tr.fEx_ev, Tr.dEx_ev, Tr.dRetN_ev, Tr.dNx_ev, Tr.dBk_ev, Tr.dCt_ev, Tr.dFail_ev, Tr.fPut''_ev, Tr.fPut'_ev, Tr.fPut1_ev, Tr.fPut_ev, Tr.dPut_ev, Tr.fMut3_ev, Tr.fMut2_ev, Tr.fMut1_ev, Tr.fMut_ev, Tr.dMut_ev, Tr.fLst_ev, Tr.fTup_ev, Tr.dLst_ev, Tr.dTup_ev, Tr.dDic_ev, Tr.fBw_ev, Tr.bw_ev, Tr.fFz_ev, Tr.fz_ev, Tr.fAug''_ev, Tr.fAug'_ev, Tr.fAug_ev, Tr.dAug_ev, Tr.z_ex, Tr.z_exT, Tr.fRng_nat, Tr.dRng_ev, Tr.fIt'_ev, Tr.fIt_ev, Tr.dIt_ev, Tr.fFor_ev, Tr.dFor_ev, Tr.gN_ev, Tr.fG_ev, Tr.gT2_ev, Tr.gT2_mk1, Tr.dFr_nil, Tr.turn_ev, Tr.fFr_nx, Tr.fFr_ct, Tr.fFr_bk, Tr.fFr_rt, Tr.dFr_cons, Tr.fLc'_ev, Tr.fLc_ev, Tr.dLc_ev, Tr.dLr_nil, Tr.wipeT_nil, Tr.wipeT_cons, Tr.backT_nil, Tr.backT_cons, Tr.cleanAt_nil, Tr.cleanAt_cons, Tr.fFun_rt, Tr.fFun_nx, Tr.dFun_ev, Tr.outs_cons, Tr.outs_nil, Tr.frzs_nil, Tr.frzs_cons, Tr.z_frz1, Tr.z_frz2, Tr.z_frz3, Tr.z_frz4, Tr.z_frz5, Tr.z_frz6, Tr.z_frz7, Tr.z_frz8, Tr.z_frz9, Tr.z_frz10, Tr.z_frz11, Tr.z_cln1, Tr.z_cln2, Tr.z_cln3, Tr.z_cln4, Tr.z_cln5, Tr.z_cln6, Tr.z_cln7, Tr.z_cln8, Tr.z_cln9, Tr.z_cln10, Tr.z_clns1, Tr.z_clns2, Tr.z_clns3, Tr.z_pure1, Tr.z_pure2, Tr.z_pure3, Tr.z_pure4, Tr.z_pure5, Tr.z_pure6, Tr.z_pure7, Tr.z_lfI, Tr.z_li, Tr.z_add, Tr.z_sub, Tr.z_mulr, Tr.z_mod, Tr.z_div, Tr.z_lt, Tr.z_le, Tr.z_gt, Tr.z_ge, Tr.z_eq, Tr.z_ne, Tr.z_neg, Tr.z_eqli, Tr.z_neli, Tr.z_eqnil, Tr.z_nenil, Tr.z_inli, Tr.z_ninli, Tr.z_indk, Tr.z_nindk, Tr.z_ll, Tr.z_mks, Tr.z_nil, Tr.z_appll, Tr.z_int1, Tr.z_int2, Tr.z_len1, Tr.z_len2, Tr.z_len3, Tr.z_len4, Tr.z_len5, Tr.z_len6, Tr.z_len7, Tr.z_not, Tr.z_isi1, Tr.z_isi2, Tr.z_isi3, Tr.z_isi4, Tr.z_isi5, Tr.z_isi6, Tr.z_list1, Tr.z_sort1, Tr.z_sort2, Tr.z_app1, Tr.z_app2, Tr.z_pop1, Tr.z_clr1, Tr.z_clr2, Tr.z_rev1, Tr.z_ext1, Tr.z_cat1, Tr.z_it1, Tr.z_it2, Tr.z_it3, Tr.z_it4, Tr.z_ty1, Tr.z_ty2, Tr.z_ty3, Tr.z_ty4, Tr.z_fst, Tr.z_fma, Tr.z_ffa, Tr.z_ins1, Tr.z_ins2, Tr.z_ins3, Tr.z_ins4, Tr.z_ins5, Tr.z_ixli, Tr.z_ixll, Tr.z_ixlast, Tr.z_setdk, Tr.fDic1_ev, Tr.fDic1'_ev, Tr.dDic1_ev, Tr.fLRg_nat, Tr.dLRg_ev, Tr.z_len8, Tr.z_bind_some, Tr.z_get0, Tr.z_gets, Tr.z_getD0, Tr.z_getDs, Tr.z_set0, Tr.z_sets, Tr.z_app, Tr.z_nil_app, Tr.z_app_nil, Tr.z_map0, Tr.z_mapc, Tr.z_rep0, Tr.z_reps, Tr.z_lenc, Tr.z_lenn, Tr.z_c0, Tr.z_c1, Tr.z_c2, Tr.z_c3, Tr.z_okoV, Tr.z_okrk, Tr.z_okrl, Tr.z_frzoV, Tr.z_clnoV, Tr.z_pureoV, Tr.z_frzrk, Tr.z_clnrk, Tr.z_frzrl, Tr.z_clnrl, Tr.z_ixrl, Tr.z_lenrl, Tr.z_isirl, Tr.z_tyrl, Tr.z_clrrl, Tr.z_oVs, Tr.z_oVn, Tr.z_rks, Tr.z_rkn, Tr.z_ixt0, Tr.z_ixt1, Tr.z_isN1, Tr.z_isN2, Tr.z_isN3, Tr.z_notN1, Tr.z_notN2, Tr.z_notN3, Tr.z_isN4, Tr.z_notN4, Tr.z_isN5, Tr.z_notN5, Tr.fCh3_ev, Tr.fCh2_ev, Tr.fCh1_ev, Tr.z_ch, Tr.z_okdls, Tr.z_frzdls, Tr.z_clndls, Tr.z_ixdls, Tr.z_indls, Tr.z_okdds, Tr.z_frzdds, Tr.z_clndds, Tr.z_ixdds, Tr.fAsg'_ev, Tr.fAsg_ev, Tr.dAsg_ev, Tr.fBwS_ev, Tr.bwS_ev, Tr.fPt_ev, Tr.ptT_no, Tr.ptT_so, Tr.fSl2_ev, Tr.fSl1_ev, Tr.fSl_ev, Tr.dSl_ev, Tr.z_slli, Tr.z_cutTail, Tr.z_cutInit, Tr.z_okst, Tr.z_frzst, Tr.z_clnst, Tr.z_purest, Tr.z_addst, Tr.z_lenst, Tr.z_inst1, Tr.z_ninst1, Tr.z_ixst, Tr.eqL_self, Tr.eqL_nn, Tr.eqL_nc, Tr.eqL_cn, Tr.eqL_cc, Tr.z_eqst, Tr.z_nest, Tr.z_insl, Tr.z_ninsl, Tr.z_sq1, Tr.z_sq2, Tr.z_sq3, Tr.z_itst, Tr.z_isist, Tr.z_slst, Tr.z_cutOne, Tr.lit_all, Tr.lit_not, Tr.lit_both, Tr.lit_either, Tr.lit_somenext, Tr.lit_eachnext, Tr.lit_sometill, Tr.lit_eachtill, Tr.lit_someever, Tr.lit_eachever, Tr.lit_somealways, Tr.lit_eachalways, Tr.lit_mark, Tr.lit_loop, Tr.lit_rank, Tr.lit_walk, Tr.lit_shut, Tr.lit_out, Tr.lit_here, Tr.lit_dead, Tr.lit_plain, Tr.lit_step, Tr.lit_none, Tr.lit_fair, Tr.lit_answer, Tr.lit_p, Tr.lit_wet, Tr.lit_darkness, Tr.lit_x, Tr.lit_q, Tr.lit_empty, Tr.lit_in, Tr.lit_letters, Tr.z_kept, Tr.z_catX12, Tr.z_catT12, Tr.z_ixt2, ↓reduceIte, ite_true, ite_false, Nat.reduceAdd, Nat.reduceSub, Nat.reduceLT, Nat.reduceLeDiff, Nat.zero_add, Nat.lt_add_one, Nat.zero_lt_succ, decide_true, decide_false, decide_eq_true_eq, decide_eq_false_iff_not, Bool.not_eq_true, Bool.not_eq_false, Bool.not_true, Bool.not_false, Bool.not_eq_true', Bool.and_true, Bool.true_and, Bool.and_self, Bool.and_eq_true, Bool.or_eq_true, not_true_eq_false, not_false_eq_true, eq_self, and_self, and_true, true_and, false_and, and_false, or_true, true_or, or_false, false_or, reduceCtorEq, Bool.false_eq_true, Int.toNat_natCast, Int.reduceToNat, Int.reduceEq, Int.reduceLT, Int.reduceLE, Int.reduceNeg, Int.reduceAdd, Int.reduceSub, Int.reduceMul, List.length_map, Bool.not_not, Bool.not_eq_eq_eq_not, Decidable.not_not, Nat.reduceEqDiff, Bool.false_and, Bool.and_false, Option.isSome_some, Option.isSome_none, Option.isNone_some, Option.isNone_none, $ls,*]) }

/-- a name that a mark may have -/
structure Nm (w : List Nat) : Prop where
  ne : 0 < w.length
  le : w.length ≤ 8
  off : w ∉ KW
  lt : ∀ c ∈ w, c ∈ ABC
theorem Nm.okc {w : List Nat} (h : Nm w) : Okc w = true := by
  unfold Okc
  rw [List.all_eq_true]
  intro c hc
  have := h.lt c hc
  have : ∀ c ∈ ABC, c < 1114112 := by decide
  exact decide_eq_true (this c (h.lt c hc))
theorem is_mark_ok (w : List Nat) (h : Nm w) : m_is_mark [tx w] = some (.lf (.bl true), [tx w]) := by
  have kl : k_LETTERS = tx ABC := lit_letters
  have kk : k_KEPT = sl false .rot KW := lit_kept false .rot
  have kn : k_LONGEST = .lf (.int 8) := rfl
  have hw := h.off
  have wl := h.le
  have w0 := h.ne
  have n1 : ¬ (w.length : Int) < 1 := by omega
  have n2 : ¬ (8 : Int) < w.length := by omega
  obtain ⟨env', h1, x1, rfl⟩ := lp (dg := gN 1) (d := l_is_mark_1) (w.map fun c => tx [c]) (fun _ env => ∃ x1, env = e_is_mark (tx w) x1) (e_is_mark (tx w) .no) ⟨_, rfl⟩ (by
    rintro i t env hi ⟨x1, rfl⟩
    rw [List.getElem?_map] at hi
    obtain ⟨c, hc, rfl⟩ := Option.map_eq_some_iff.mp hi
    have hl := h.lt c (List.mem_of_getElem? hc)
    refine ⟨e_is_mark (tx w) (tx [c]), .inl ?_, _, rfl⟩
    exists l_is_mark_1, kl, hl)
  exists m_is_mark, bn_is_mark, kk, kn, hw, n1, n2, h1
end Pm


set_option Elab.async false
set_option linter.all false
set_option autoImplicit false
set_option maxRecDepth 100000
set_option maxHeartbeats 4000000
/-! NX: picks and drawn names (k01; from RY). -/
namespace Pm
open PySem PySem.Spec PyProof.Rows L2 Tr Wk

/-- picked, from a start on -/
structure Pk (n : Nat) (s : Int) (i : Nat) (xs : List Int) : Prop where
  le : xs.length ≤ i
  nd : xs.Nodup
  fr : ∀ x ∈ xs, ∃ j : Nat, j < i ∧ x = (s + j) % n
theorem Pk.up {n : Nat} {s : Int} {i : Nat} {xs : List Int} (h : Pk n s i xs) : Pk n s (i + 1) xs := ⟨by have := h.le; omega, h.nd, fun x hx => by
  obtain ⟨j, hj, e⟩ := h.fr x hx
  exact ⟨j, by omega, e⟩⟩
theorem mod_inj {n : Nat} {s : Int} {i j : Nat} (hi : i < n) (hj : j < n) (e : (s + i) % (n : Int) = (s + j) % (n : Int)) : i = j := by
  have h1 := Int.emod_emod_of_dvd (s + i) (Int.dvd_refl (n : Int))
  have e2 : ((s + i) - (s + j)) % (n : Int) = 0 := by rw [Int.sub_emod, e, Int.sub_self, Int.zero_emod]
  have e3 : (s + i) - (s + j) = (i : Int) - j := by omega
  rw [e3] at e2
  have d := Int.dvd_of_emod_eq_zero e2
  obtain ⟨q, hq⟩ := d
  have : q = 0 := by
    by_cases h0 : q = 0
    · exact h0
    · have h1 : q ≤ -1 ∨ 1 ≤ q := by omega
      rcases h1 with h1 | h1
      · have : (n : Int) * q ≤ (n : Int) * (-1) := Int.mul_le_mul_of_nonneg_left h1 (by omega)
        omega
      · have : (n : Int) * 1 ≤ (n : Int) * q := Int.mul_le_mul_of_nonneg_left h1 (by omega)
        omega
  subst this
  omega
theorem Pk.snoc {n : Nat} {s : Int} {i : Nat} {xs : List Int} (h : Pk n s i xs) (hi : i < n) : Pk n s (i + 1) (xs ++ [(s + i) % n]) := by
  refine ⟨by have := h.le; simp; omega, ?_, fun x hx => ?_⟩
  · rw [List.nodup_append]
    refine ⟨h.nd, by simp, fun a ha b hb e => ?_⟩
    rw [List.mem_singleton.mp hb] at e
    obtain ⟨j, hj, e2⟩ := h.fr a ha
    have := mod_inj (n := n) (s := s) hi (show j < n by omega) (by rw [← e2, e])
    omega
  · rcases List.mem_append.mp hx with hx | hx
    · obtain ⟨j, hj, e⟩ := h.fr x hx
      exact ⟨j, by omega, e⟩
    · exact ⟨i, by omega, List.mem_singleton.mp hx⟩
def nmT (b c p q : Nat) : List Nat := List.replicate p b ++ [c] ++ List.replicate q b
def nmA (t : List Nat) : List Nat := if t = [97, 108, 108] then [97, 108, 108, 97, 108, 108] else t
theorem nmT_len (b c p q : Nat) : (nmT b c p q).length = p + 1 + q := by unfold nmT; simp; omega
theorem nmT_two (b c p q : Nat) : ∀ x ∈ nmT b c p q, x = b ∨ x = c := fun x hx => by
  unfold nmT at hx
  rcases List.mem_append.mp hx with hx | hx
  · rcases List.mem_append.mp hx with hx | hx
    · exact .inl (List.eq_of_mem_replicate hx)
    · exact .inr (List.mem_singleton.mp hx)
  · exact .inl (List.eq_of_mem_replicate hx)
theorem nmT_at (b c p q : Nat) : (nmT b c p q)[p]? = some c := by
  unfold nmT
  rw [List.append_assoc, List.getElem?_append_right (by simp)]
  simp
/-- of two letters there is one word alone that is kept -/
theorem off_kw {w : List Nat} {b c : Nat} (h : ∀ x ∈ w, x = b ∨ x = c) (ha : ¬ w = [97, 108, 108]) : ¬ w ∈ KW := by
  intro hw
  simp only [KW, List.mem_cons, List.not_mem_nil, or_false] at hw
  rcases hw with rfl | rfl | rfl | rfl | rfl | rfl | rfl | rfl | rfl | rfl
  · exact ha rfl
  all_goals (simp only [List.mem_cons, List.not_mem_nil, or_false, forall_eq_or_imp, forall_eq] at h; omega)
theorem nmA_nm {b c p q : Nat} (hb : b ∈ ABC) (hc : c ∈ ABC) (h8 : p + 1 + q ≤ 8) : Nm (nmA (nmT b c p q)) := by
  have l := nmT_len b c p q
  have tw := nmT_two b c p q
  unfold nmA
  split
  · exact ⟨by decide, by decide, by decide, by decide⟩
  · rename_i hne
    exact ⟨by omega, by omega, off_kw tw hne, fun x hx => (tw x hx).elim (fun e => e ▸ hb) fun e => e ▸ hc⟩
theorem nmA_inj {b c d p q : Nat} (h : nmA (nmT b c p q) = nmA (nmT b d p q)) : c = d := by
  have l1 := nmT_len b c p q
  have l2 := nmT_len b d p q
  have key : nmT b c p q = nmT b d p q → c = d := fun e => by
    have := nmT_at b c p q
    rw [e, nmT_at] at this
    exact (Option.some.inj this).symm
  unfold nmA at h
  split at h <;> split at h
  · rename_i h1 h2; exact key (h1.trans h2.symm)
  · rename_i h1 h2
    rw [h1] at l1
    have := congrArg List.length h
    simp at this l1
    omega
  · rename_i h1 h2
    rw [h2] at l2
    have := congrArg List.length h
    simp at this l2
    omega
  · exact key h
def bN (seed : Int) : Nat := ABC.getD (seed / 1664 % 26).toNat 0
def cN (seed : Int) (k : Nat) : Nat := ABC.getD ((seed / 64 + k) % 26).toNat 0
def pN (seed : Int) : Nat := (seed / 8 % (1 + seed % 8)).toNat
def qN (seed : Int) : Nat := (1 + seed % 8).toNat - pN seed - 1
def nmF (seed : Int) (k : Nat) : List Nat := nmA (nmT (bN seed) (cN seed k) (pN seed) (qN seed))
theorem abc_memR : ∀ i : Nat, i < 26 → ABC.getD i 0 ∈ ABC := by decide
theorem abc_valR : ∀ i : Nat, i < 26 → ABC.getD i 0 = i + 97 := by decide
theorem bN_mem (seed : Int) : bN seed ∈ ABC := abc_memR _ (by have := Int.emod_nonneg (seed / 1664) (b := 26) (by omega); have := Int.emod_lt_of_pos (seed / 1664) (b := 26) (by omega); omega)
theorem cN_mem (seed : Int) (k : Nat) : cN seed k ∈ ABC := abc_memR _ (by have := Int.emod_nonneg (seed / 64 + k) (b := 26) (by omega); have := Int.emod_lt_of_pos (seed / 64 + k) (b := 26) (by omega); omega)
theorem pq_le (seed : Int) : pN seed + 1 + qN seed = (1 + seed % 8).toNat ∧ (1 + seed % 8).toNat ≤ 8 := by
  have a := Int.emod_nonneg seed (b := 8) (by omega)
  have b := Int.emod_lt_of_pos seed (b := 8) (by omega)
  have c := Int.emod_nonneg (seed / 8) (b := 1 + seed % 8) (by omega)
  have d := Int.emod_lt_of_pos (seed / 8) (b := 1 + seed % 8) (by omega)
  unfold qN pN
  omega
theorem nmF_nm (seed : Int) (k : Nat) : Nm (nmF seed k) := by
  obtain ⟨h1, h2⟩ := pq_le seed
  exact nmA_nm (bN_mem seed) (cN_mem seed k) (by omega)
theorem nmF_inj (seed : Int) {i j : Nat} (hi : i < 26) (hj : j < 26) (h : nmF seed i = nmF seed j) : i = j := by
  have e := nmA_inj h
  unfold cN at e
  have a := Int.emod_nonneg (seed / 64 + i) (b := 26) (by omega)
  have b := Int.emod_lt_of_pos (seed / 64 + i) (b := 26) (by omega)
  have a2 := Int.emod_nonneg (seed / 64 + j) (b := 26) (by omega)
  have b2 := Int.emod_lt_of_pos (seed / 64 + j) (b := 26) (by omega)
  rw [abc_valR _ (by omega), abc_valR _ (by omega)] at e
  omega
end Pm


set_option Elab.async false
set_option linter.all false
set_option maxRecDepth 100000
set_option maxHeartbeats 4000000
/-! PB: what the laws of sets build: cells, steps, sets. -/
namespace Pm
open PySem PySem.Spec PyProof.Rows L2 Tr Wk

/-- the script's cell -/
def cell (ns : List Int) (k : Nat) : Int := ns.getD k 0
theorem cell_at (ns : List Int) (k : Nat) : m_law_cell_at [scrT ns, I k] = some (I (cell ns k), [scrT ns, I k]) := by
  by_cases h : k < ns.length
  · have e1 : oIx (scrT ns) (I (k : Int)) = some (I ns[k]) := oIx_scr ns k (by omega) (by simpa using h)
    have e2 : cell ns k = ns[k] := by simp [cell, h]
    simp only [scrT_eq] at e1 ⊢
    simp [m_law_cell_at, b_law_cell_at, dFun, dSeq, dIf, vr, o2V, o1V, gV, oLen, oLt, oI, dRet, re, dNx, gC, outs, e1, e2, h, cln_lf]
  · have e2 : cell ns k = 0 := by simp [cell]; rw [List.getElem?_eq_none (by omega)]; rfl
    simp [m_law_cell_at, b_law_cell_at, dFun, dSeq, dIf, vr, o2V, o1V, gV, oLen_scr, oLt, oI, dRet, re, dNx, gC, outs, e2, h, cln_lf, scrT_eq, oLen]
end Pm


set_option Elab.async false
set_option linter.all false
set_option autoImplicit false
set_option maxRecDepth 100000
set_option maxHeartbeats 4000000
/-! EQ: things that are alike; comprehensions of any things; places within things. -/
namespace Tr
open PySem PySem.Spec PyProof.Rows L2 Pm

/-- data, nested so deep at most -/
inductive Dt : Nat → T → Prop
  | non {n : Nat} : Dt n (.lf .non)
  | bl {n : Nat} (b : Bool) : Dt n (.lf (.bl b))
  | int {n : Nat} (i : Int) : Dt n (.lf (.int i))
  | str {n : Nat} {x : Str} (h : PyData.strOk x = true) : Dt n (.lf (.str x))
  | lst {n : Nat} {o : Bool} {xs : List T} (h : ∀ x ∈ xs, Dt n x) : Dt (n + 1) (.nd o .lst xs)
  | tup {n : Nat} {o : Bool} {xs : List T} (h : ∀ x ∈ xs, Dt n x) : Dt (n + 1) (.nd o .tup xs)
theorem Dt.all {n : Nat} : ∀ {xs : List T}, (∀ x ∈ xs, ∃ d, toD x = some d ∧ d.canLay0 = true ∧ d.depth ≤ n ∧ PyData.eqv d d = true) → ∃ ds, toDs xs = some ds ∧ PyData.canLayAll0 ds = true ∧ PyData.depthAll ds ≤ n ∧ PyData.eqvAll ds ds = true
  | [], _ => ⟨[], rfl, by simp [PyData.canLayAll0], by simp [PyData.depthAll], by simp [PyData.eqvAll]⟩
  | x :: xs, h => by
    obtain ⟨d, h1, h2, h3, h4⟩ := h x (List.mem_cons_self ..)
    obtain ⟨ds, g1, g2, g3, g4⟩ := Dt.all fun y hy => h y (List.mem_cons_of_mem _ hy)
    refine ⟨d :: ds, by rw [toDs, h1, g1]; rfl, by rw [PyData.canLayAll0, h2, g2]; rfl, ?_, by rw [PyData.eqvAll, h4, g4]; rfl⟩
    rw [PyData.depthAll]
    omega
theorem Dt.dat {n : Nat} {t : T} (h : Dt n t) : ∃ d, toD t = some d ∧ d.canLay0 = true ∧ d.depth ≤ n ∧ PyData.eqv d d = true := by
  induction h with
  | non => exact ⟨.none, rfl, by simp [PyData.canLay0], by simp [PyData.depth], by simp [PyData.eqv]⟩
  | bl b => exact ⟨.bool b, rfl, by simp [PyData.canLay0], by simp [PyData.depth], by simp [PyData.eqv]⟩
  | int i => exact ⟨.int i, rfl, by simp [PyData.canLay0], by simp [PyData.depth], by simp [PyData.eqv]⟩
  | str h => exact ⟨.str _, rfl, by simpa [PyData.canLay0] using h, by simp [PyData.depth], by simp [PyData.eqv]⟩
  | lst _ ih =>
    obtain ⟨ds, g1, g2, g3, g4⟩ := Dt.all ih
    exact ⟨.list ds, by rw [toD, g1]; rfl, by rw [PyData.canLay0]; exact g2, by rw [PyData.depth]; omega, by rw [PyData.eqv]; exact g4⟩
  | tup _ ih =>
    obtain ⟨ds, g1, g2, g3, g4⟩ := Dt.all ih
    exact ⟨.tuple ds, by rw [toD, g1]; rfl, by rw [PyData.canLay0]; exact g2, by rw [PyData.depth]; omega, by rw [PyData.eqv]; exact g4⟩
mutual
theorem toD_frz : ∀ t : T, toD (frz t) = toD t
  | .no => rfl
  | .lf v => by rw [frz]
  | .nd o k xs => by rw [frz]; cases k <;> simp only [toD, toDs_frz xs]
theorem toDs_frz : ∀ ts : List T, toDs (frzs ts) = toDs ts
  | [] => rfl
  | t :: ts => by rw [frzs, toDs, toDs, toD_frz t, toDs_frz ts]
end
theorem oEq_alike {n : Nat} {a b : T} (hn : n ≤ 64) (h : Dt n a) (e : frz a = frz b) : oEq a b = some (.lf (.bl true)) := by
  obtain ⟨d, h1, h2, h3, h4⟩ := h.dat
  have h5 : toD b = some d := by rw [← toD_frz, ← e, toD_frz, h1]
  have sh : SeqAt.shaped d = true := by unfold SeqAt.shaped; rw [h2, decide_eq_true (by omega)]; rfl
  unfold oEq
  simp only [h1, h5, Option.bind_some, sh, and_self, if_true, h4]
theorem oNe_alike {n : Nat} {a b : T} (hn : n ≤ 64) (h : Dt n a) (e : frz a = frz b) : oNe a b = some (.lf (.bl false)) := by
  obtain ⟨d, h1, h2, h3, h4⟩ := h.dat
  have h5 : toD b = some d := by rw [← toD_frz, ← e, toD_frz, h1]
  have sh : SeqAt.shaped d = true := by unfold SeqAt.shaped; rw [h2, decide_eq_true (by omega)]; rfl
  unfold oNe
  simp only [h1, h5, Option.bind_some, sh, and_self, if_true, h4, Bool.not_true]
theorem Dt.li {n : Nat} (o : Bool) (xs : List Int) : Dt (n + 1) (li o xs) := .lst fun x hx => by
  obtain ⟨i, _, rfl⟩ := List.mem_map.mp hx
  exact .int i
theorem Dt.ll {n : Nat} (o : Bool) (xs : List (List Int)) : Dt (n + 2) (ll o xs) := .lst fun x hx => by
  obtain ⟨i, _, rfl⟩ := List.mem_map.mp hx
  exact .li o i
theorem Dt.st {n : Nat} {l : List Nat} (h : Okc l = true) : Dt n (tx l) := .str (strOk_st h)
theorem Dt.up {n m : Nat} {t : T} (h : Dt n t) (k : n ≤ m) : Dt m t := by
  induction h generalizing m with
  | non => exact .non
  | bl b => exact .bl b
  | int i => exact .int i
  | str h => exact .str h
  | lst _ ih =>
    obtain ⟨m, rfl⟩ : ∃ j, m = j + 1 := ⟨m - 1, by omega⟩
    exact .lst fun x hx => ih x hx (by omega)
  | tup _ ih =>
    obtain ⟨m, rfl⟩ : ∃ j, m = j + 1 := ⟨m - 1, by omega⟩
    exact .tup fun x hx => ih x hx (by omega)
/-! ### comprehensions -/
theorem lc_acc {α : Type} {dg : DG} {dc de : DE} {vs : List Nat} (env : List T) (c g : α → T) (p : α → Bool) : ∀ (xs : List α) (acc : List T), acc.length + xs.length ≤ 1000 →
    (∀ x ∈ xs, ∃ e e1, dg (c x) env = some e ∧ dc e = some (.lf (.bl (p x)), e1) ∧ (p x = true → ∃ e2, de e1 = some (g x, e2) ∧ wipeT e2 vs = env) ∧ (p x = false → wipeT e1 vs = env)) →
    dLr dg dc de vs (xs.map c) acc env = some (acc ++ (xs.filter p).map g, env)
  | [], acc, _, _ => by simp [dLr]
  | x :: xs, acc, hl, hs => by
    obtain ⟨e, e1, h1, h2, h3, h4⟩ := hs x (List.mem_cons_self ..)
    have hl' : acc.length + (xs.length + 1) ≤ 1000 := by simpa using hl
    rw [List.map_cons, dLr, h1, Option.bind_some]
    cases hp : p x with
    | true =>
      obtain ⟨e2, h5, h6⟩ := h3 hp
      rw [hp] at h2
      have hlt : acc.length < sizeLine := small (by omega)
      simp only [h2, h5, Option.bind_some, hlt, if_true, h6]
      rw [lc_acc env c g p xs (acc ++ [g x]) (by simp; omega) fun u hu => hs u (List.mem_cons_of_mem _ hu)]
      simp [hp]
    | false =>
      rw [hp] at h2
      simp only [h2, h4 hp]
      rw [lc_acc env c g p xs acc (by omega) fun u hu => hs u (List.mem_cons_of_mem _ hu)]
      simp [hp]
theorem lc_gen {α : Type} {dg : DG} {dc de : DE} {vs : List Nat} (env : List T) (xs : List α) (c g : α → T) (p : α → Bool) (hl : xs.length ≤ 1000)
    (hs : ∀ x ∈ xs, ∃ e e1, dg (c x) env = some e ∧ dc e = some (.lf (.bl (p x)), e1) ∧ (p x = true → ∃ e2, de e1 = some (g x, e2) ∧ wipeT e2 vs = env) ∧ (p x = false → wipeT e1 vs = env)) :
    dLr dg dc de vs (xs.map c) [] env = some ((xs.filter p).map g, env) := by
  rw [lc_acc env c g p xs [] (by simpa using hl) hs]; rfl
theorem lc_all {α : Type} {dg : DG} {de : DE} {vs : List Nat} (env : List T) (xs : List α) (c g : α → T) (hl : xs.length ≤ 1000)
    (hs : ∀ x ∈ xs, ∃ e e2, dg (c x) env = some e ∧ de e = some (g x, e2) ∧ wipeT e2 vs = env) :
    dLr dg dYes de vs (xs.map c) [] env = some (xs.map g, env) := by
  rw [lc_gen env xs c g (fun _ => true) hl fun x hx => by
    obtain ⟨e, e2, h1, h2, h3⟩ := hs x hx
    exact ⟨e, e, h1, rfl, fun _ => ⟨e2, h2, h3⟩, fun h => by cases h⟩]
  simp [List.filter_eq_self.mpr]
theorem lc_inv {α : Type} {dg : DG} {dc de : DE} {vs : List Nat} (Iv : List T → Prop) (c g : α → T) (p : α → Bool) : ∀ (xs : List α) (acc : List T) (env : List T), acc.length + xs.length ≤ 1000 → Iv env →
    (∀ x ∈ xs, ∀ env, Iv env → ∃ e e1, dg (c x) env = some e ∧ dc e = some (.lf (.bl (p x)), e1) ∧ (p x = true → ∃ e2, de e1 = some (g x, e2) ∧ Iv (wipeT e2 vs)) ∧ (p x = false → Iv (wipeT e1 vs))) →
    ∃ env', dLr dg dc de vs (xs.map c) acc env = some (acc ++ (xs.filter p).map g, env') ∧ Iv env'
  | [], acc, env, _, h0, _ => ⟨env, by simp [dLr], h0⟩
  | x :: xs, acc, env, hl, h0, hs => by
    obtain ⟨e, e1, h1, h2, h3, h4⟩ := hs x (List.mem_cons_self ..) env h0
    have hl' : acc.length + (xs.length + 1) ≤ 1000 := by simpa using hl
    rw [List.map_cons, dLr, h1, Option.bind_some]
    cases hp : p x with
    | true =>
      obtain ⟨e2, h5, h6⟩ := h3 hp
      rw [hp] at h2
      have hlt : acc.length < sizeLine := small (by omega)
      simp only [h2, h5, Option.bind_some, hlt, if_true]
      obtain ⟨env', g1, g2⟩ := lc_inv Iv c g p xs (acc ++ [g x]) _ (by simp; omega) h6 fun u hu => hs u (List.mem_cons_of_mem _ hu)
      exact ⟨env', by rw [g1]; simp [hp], g2⟩
    | false =>
      rw [hp] at h2
      simp only [h2]
      obtain ⟨env', g1, g2⟩ := lc_inv Iv c g p xs acc _ (by omega) (h4 hp) fun u hu => hs u (List.mem_cons_of_mem _ hu)
      exact ⟨env', by rw [g1]; simp [hp], g2⟩
theorem lc_allI {α : Type} {dg : DG} {de : DE} {vs : List Nat} (Iv : List T → Prop) (c g : α → T) (xs : List α) (env : List T) (hl : xs.length ≤ 1000) (h0 : Iv env)
    (hs : ∀ x ∈ xs, ∀ env, Iv env → ∃ e e2, dg (c x) env = some e ∧ de e = some (g x, e2) ∧ Iv (wipeT e2 vs)) :
    ∃ env', dLr dg dYes de vs (xs.map c) [] env = some (xs.map g, env') ∧ Iv env' := by
  obtain ⟨env', h1, h2⟩ := lc_inv (dg := dg) (dc := dYes) (de := de) (vs := vs) Iv c g (fun _ => true) xs [] env (by simpa using hl) h0 fun x hx env he => by
    obtain ⟨e, e2, h1, h2, h3⟩ := hs x hx env he
    exact ⟨e, e, h1, rfl, fun _ => ⟨e2, h2, h3⟩, fun h => by cases h⟩
  exact ⟨env', by rw [h1]; simp [List.filter_eq_self.mpr], h2⟩
theorem map_set {n : Nat} (f : Int → T) (i : Int) (t : T) (h0 : 0 ≤ i) : ((rgI n).map f).set i.toNat t = (rgI n).map fun y => if y = i then t else f y := by
  refine List.ext_getElem (by simp) fun j h1 h2 => ?_
  rw [List.getElem_set]
  simp only [List.getElem_map]
  have hj : (rgI n)[j]'(by simpa using h2) = (j : Int) := by
    have := rgI_get (n := n) (i := j) (by simpa [rgI_len] using h2)
    rw [List.getElem?_eq_getElem (by simpa using h2)] at this
    exact Option.some.inj this
  rw [hj]
  by_cases hi : i.toNat = j
  · rw [if_pos hi, if_pos (by omega)]
  · rw [if_neg hi, if_neg (by omega)]
theorem map_at {n : Nat} (f : Int → T) (i : Int) (h0 : 0 ≤ i) (h1 : i < n) : ((rgI n).map f)[i.toNat]? = some (f i) := by
  rw [List.getElem?_map, rgI_get (by omega), Option.map_some, show ((i.toNat : Nat) : Int) = i by omega]
/-! ### places within things -/
/-- a[b][j] of a list of tuples -/
theorem dp_tup {env : List T} {a b : Nat} {xs ys : List T} {k : Int} {j : Nat} {o : Bool} {t : T} (ha : gV a env = some (.nd true .lst xs)) (hb : gV b env = some (.lf (.int k))) (h0 : 0 ≤ k) (hk : xs[k.toNat]? = some (.nd o .tup ys)) (hj : ys[j]? = some t) :
    dpIx (dpIx (dpV a) (gV b)) (gC (.int (j : Int))) env = some (t, fun t' => env.set a (.nd true .lst (xs.set k.toNat (.nd o .tup (ys.set j t'))))) := by
  have l1 := (List.getElem?_eq_some_iff.mp hk).1
  have l2 := (List.getElem?_eq_some_iff.mp hj).1
  have e1 : ixN xs.length k = some k.toNat := by unfold ixN; rw [if_pos h0, if_pos (by omega)]
  have e2 : ixN ys.length (j : Int) = some j := by unfold ixN; rw [if_pos (by omega), if_pos (by omega)]; simp
  unfold dpIx dpV
  simp only [ha, hb, Option.map_some, e1, Option.bind_some, hk, gC, e2, hj]
theorem rngT_eq (n : Nat) : rngT n = (rgI n).map lfI := by simp [rngT, rgI, lfI]
end Tr


set_option Elab.async false
set_option linter.all false
set_option autoImplicit false
set_option maxRecDepth 100000
set_option maxHeartbeats 4000000
/-! EV4: sayings as trees of things; classes in families reckoned. (printed by mkev4.py) -/
namespace Tr
open PySem PySem.Spec PyProof.Rows L2 Pm

inductive Sg where
  | all | mark (w : List Nat)
  | not (p : Sg)
  | someNext (p : Sg)
  | eachNext (p : Sg)
  | someAlways (p : Sg)
  | eachAlways (p : Sg)
  | someEver (p : Sg)
  | eachEver (p : Sg)
  | both (l r : Sg)
  | either (l r : Sg)
  | someTill (l r : Sg)
  | eachTill (l r : Sg)
def sgT : Sg → T
  | .all => .nd false (.ins "All" []) []
  | .mark w => .nd false (.ins "Mark" ["name"]) [tx w]
  | .not p => .nd false (.ins "Not" ["part"]) [sgT p]
  | .someNext p => .nd false (.ins "SomeNext" ["part"]) [sgT p]
  | .eachNext p => .nd false (.ins "EachNext" ["part"]) [sgT p]
  | .someAlways p => .nd false (.ins "SomeAlways" ["part"]) [sgT p]
  | .eachAlways p => .nd false (.ins "EachAlways" ["part"]) [sgT p]
  | .someEver p => .nd false (.ins "SomeEver" ["part"]) [sgT p]
  | .eachEver p => .nd false (.ins "EachEver" ["part"]) [sgT p]
  | .both l r => .nd false (.ins "Both" ["left", "right"]) [sgT l, sgT r]
  | .either l r => .nd false (.ins "Either" ["left", "right"]) [sgT l, sgT r]
  | .someTill l r => .nd false (.ins "SomeTill" ["left", "right"]) [sgT l, sgT r]
  | .eachTill l r => .nd false (.ins "EachTill" ["left", "right"]) [sgT l, sgT r]
theorem frz_sg : ∀ s : Sg, frz (sgT s) = sgT s
  | .all => by simp only [sgT, frz_nd, frzs]
  | .mark w => by simp only [sgT, frz_nd, frzs, z_frzst]
  | .not p => by simp only [sgT, frz_nd, frzs, frz_sg p]
  | .someNext p => by simp only [sgT, frz_nd, frzs, frz_sg p]
  | .eachNext p => by simp only [sgT, frz_nd, frzs, frz_sg p]
  | .someAlways p => by simp only [sgT, frz_nd, frzs, frz_sg p]
  | .eachAlways p => by simp only [sgT, frz_nd, frzs, frz_sg p]
  | .someEver p => by simp only [sgT, frz_nd, frzs, frz_sg p]
  | .eachEver p => by simp only [sgT, frz_nd, frzs, frz_sg p]
  | .both l r => by simp only [sgT, frz_nd, frzs, frz_sg l, frz_sg r]
  | .either l r => by simp only [sgT, frz_nd, frzs, frz_sg l, frz_sg r]
  | .someTill l r => by simp only [sgT, frz_nd, frzs, frz_sg l, frz_sg r]
  | .eachTill l r => by simp only [sgT, frz_nd, frzs, frz_sg l, frz_sg r]
--ev
theorem z_frzsg (s : Sg) : frz (sgT s) = sgT s := frz_sg s
--ev
theorem z_clnsg (s : Sg) : cln (sgT s) = true := by rw [← frz_sg]; exact cln_frz _
--ev
theorem z_oksg (s : Sg) : okT (sgT s) = some (sgT s) := by cases s <;> rfl
/-- what tells: a machine, all its stands, the alive ones -/
def tlT (o : Bool) (M : T) (n : Nat) (L : List Int) : T := .nd o (.ins "Teller" ["machine", "every", "live"]) [M, li o (rgI n), li o L]
--ev
theorem z_oktl (o M n L) : okT (tlT o M n L) = some (tlT o M n L) := rfl
theorem frz_tlT (o M n L) (h : frz M = M) : frz (tlT o M n L) = tlT false M n L := by unfold tlT; simp only [frz_nd, frzs, frz_li, h]
--ev
theorem z_frztl (o rs ms fs n L) : frz (tlT o (mch false rs ms fs) n L) = tlT false (mch false rs ms fs) n L := frz_tlT _ _ _ _ (frz_mch _ _ _ _)
--ev
theorem z_clntl (rs ms fs n L) : cln (tlT false (mch false rs ms fs) n L) = true := by rw [← z_frztl false]; exact cln_frz _
theorem isIns_nd (c m o c' ns xs) : isIns c m (.nd o (.ins c' ns) xs) = (decide (c' = c) && ns.all fun a => decide (¬ a = m)) := rfl

--ev
theorem z_insT_told (o M n L) : isIns "Teller" "told" (tlT o M n L) = true := by unfold tlT; rw [isIns_nd]; decide +kernel
--ev
theorem z_insT_joint (o M n L) : isIns "Teller" "joint" (tlT o M n L) = true := by unfold tlT; rw [isIns_nd]; decide +kernel
--ev
theorem z_insT_over_walks (o M n L) : isIns "Teller" "over_walks" (tlT o M n L) = true := by unfold tlT; rw [isIns_nd]; decide +kernel
--ev
theorem z_insT_contrary (o M n L) : isIns "Teller" "contrary" (tlT o M n L) = true := by unfold tlT; rw [isIns_nd]; decide +kernel
--ev
theorem z_insT_good (o M n L) : isIns "Teller" "good" (tlT o M n L) = true := by unfold tlT; rw [isIns_nd]; decide +kernel
--ev
theorem z_insT_some_next (o M n L) : isIns "Teller" "some_next" (tlT o M n L) = true := by unfold tlT; rw [isIns_nd]; decide +kernel
--ev
theorem z_insT_some_till (o M n L) : isIns "Teller" "some_till" (tlT o M n L) = true := by unfold tlT; rw [isIns_nd]; decide +kernel
--ev
theorem z_insT_each_till (o M n L) : isIns "Teller" "each_till" (tlT o M n L) = true := by unfold tlT; rw [isIns_nd]; decide +kernel
--ev
theorem z_fldT_machine (o M n L) : oFld "Teller" "machine" (tlT o M n L) = some (M) := by
  have e1 : (("machine" : Str) = "every") = False := eq_false (by decide +kernel)
  have e2 : (("machine" : Str) = "live") = False := eq_false (by decide +kernel)
  have e3 : (("every" : Str) = "live") = False := eq_false (by decide +kernel)
  simp [tlT, oFld, getF, e1, e2, e3]
--ev
theorem z_fldT_every (o M n L) : oFld "Teller" "every" (tlT o M n L) = some (li o (rgI n)) := by
  have e1 : (("machine" : Str) = "every") = False := eq_false (by decide +kernel)
  have e2 : (("machine" : Str) = "live") = False := eq_false (by decide +kernel)
  have e3 : (("every" : Str) = "live") = False := eq_false (by decide +kernel)
  simp [tlT, oFld, getF, e1, e2, e3]
--ev
theorem z_fldT_live (o M n L) : oFld "Teller" "live" (tlT o M n L) = some (li o L) := by
  have e1 : (("machine" : Str) = "every") = False := eq_false (by decide +kernel)
  have e2 : (("machine" : Str) = "live") = False := eq_false (by decide +kernel)
  have e3 : (("every" : Str) = "live") = False := eq_false (by decide +kernel)
  simp [tlT, oFld, getF, e1, e2, e3]
theorem ne_All_Both : (("All" : Str) = "Both") = False := eq_false (by decide +kernel)
theorem ne_All_EachAlways : (("All" : Str) = "EachAlways") = False := eq_false (by decide +kernel)
theorem ne_All_EachEver : (("All" : Str) = "EachEver") = False := eq_false (by decide +kernel)
theorem ne_All_EachNext : (("All" : Str) = "EachNext") = False := eq_false (by decide +kernel)
theorem ne_All_EachTill : (("All" : Str) = "EachTill") = False := eq_false (by decide +kernel)
theorem ne_All_Either : (("All" : Str) = "Either") = False := eq_false (by decide +kernel)
theorem ne_All_Mark : (("All" : Str) = "Mark") = False := eq_false (by decide +kernel)
theorem ne_All_Not : (("All" : Str) = "Not") = False := eq_false (by decide +kernel)
theorem ne_All_SomeAlways : (("All" : Str) = "SomeAlways") = False := eq_false (by decide +kernel)
theorem ne_All_SomeEver : (("All" : Str) = "SomeEver") = False := eq_false (by decide +kernel)
theorem ne_All_SomeNext : (("All" : Str) = "SomeNext") = False := eq_false (by decide +kernel)
theorem ne_All_SomeTill : (("All" : Str) = "SomeTill") = False := eq_false (by decide +kernel)
theorem ne_Both_All : (("Both" : Str) = "All") = False := eq_false (by decide +kernel)
theorem ne_Both_EachAlways : (("Both" : Str) = "EachAlways") = False := eq_false (by decide +kernel)
theorem ne_Both_EachEver : (("Both" : Str) = "EachEver") = False := eq_false (by decide +kernel)
theorem ne_Both_EachNext : (("Both" : Str) = "EachNext") = False := eq_false (by decide +kernel)
theorem ne_Both_EachTill : (("Both" : Str) = "EachTill") = False := eq_false (by decide +kernel)
theorem ne_Both_Either : (("Both" : Str) = "Either") = False := eq_false (by decide +kernel)
theorem ne_Both_Mark : (("Both" : Str) = "Mark") = False := eq_false (by decide +kernel)
theorem ne_Both_Not : (("Both" : Str) = "Not") = False := eq_false (by decide +kernel)
theorem ne_Both_SomeAlways : (("Both" : Str) = "SomeAlways") = False := eq_false (by decide +kernel)
theorem ne_Both_SomeEver : (("Both" : Str) = "SomeEver") = False := eq_false (by decide +kernel)
theorem ne_Both_SomeNext : (("Both" : Str) = "SomeNext") = False := eq_false (by decide +kernel)
theorem ne_Both_SomeTill : (("Both" : Str) = "SomeTill") = False := eq_false (by decide +kernel)
theorem ne_EachAlways_All : (("EachAlways" : Str) = "All") = False := eq_false (by decide +kernel)
theorem ne_EachAlways_Both : (("EachAlways" : Str) = "Both") = False := eq_false (by decide +kernel)
theorem ne_EachAlways_EachEver : (("EachAlways" : Str) = "EachEver") = False := eq_false (by decide +kernel)
theorem ne_EachAlways_EachNext : (("EachAlways" : Str) = "EachNext") = False := eq_false (by decide +kernel)
theorem ne_EachAlways_EachTill : (("EachAlways" : Str) = "EachTill") = False := eq_false (by decide +kernel)
theorem ne_EachAlways_Either : (("EachAlways" : Str) = "Either") = False := eq_false (by decide +kernel)
theorem ne_EachAlways_Mark : (("EachAlways" : Str) = "Mark") = False := eq_false (by decide +kernel)
theorem ne_EachAlways_Not : (("EachAlways" : Str) = "Not") = False := eq_false (by decide +kernel)
theorem ne_EachAlways_SomeAlways : (("EachAlways" : Str) = "SomeAlways") = False := eq_false (by decide +kernel)
theorem ne_EachAlways_SomeEver : (("EachAlways" : Str) = "SomeEver") = False := eq_false (by decide +kernel)
theorem ne_EachAlways_SomeNext : (("EachAlways" : Str) = "SomeNext") = False := eq_false (by decide +kernel)
theorem ne_EachAlways_SomeTill : (("EachAlways" : Str) = "SomeTill") = False := eq_false (by decide +kernel)
theorem ne_EachEver_All : (("EachEver" : Str) = "All") = False := eq_false (by decide +kernel)
theorem ne_EachEver_Both : (("EachEver" : Str) = "Both") = False := eq_false (by decide +kernel)
theorem ne_EachEver_EachAlways : (("EachEver" : Str) = "EachAlways") = False := eq_false (by decide +kernel)
theorem ne_EachEver_EachNext : (("EachEver" : Str) = "EachNext") = False := eq_false (by decide +kernel)
theorem ne_EachEver_EachTill : (("EachEver" : Str) = "EachTill") = False := eq_false (by decide +kernel)
theorem ne_EachEver_Either : (("EachEver" : Str) = "Either") = False := eq_false (by decide +kernel)
theorem ne_EachEver_Mark : (("EachEver" : Str) = "Mark") = False := eq_false (by decide +kernel)
theorem ne_EachEver_Not : (("EachEver" : Str) = "Not") = False := eq_false (by decide +kernel)
theorem ne_EachEver_SomeAlways : (("EachEver" : Str) = "SomeAlways") = False := eq_false (by decide +kernel)
theorem ne_EachEver_SomeEver : (("EachEver" : Str) = "SomeEver") = False := eq_false (by decide +kernel)
theorem ne_EachEver_SomeNext : (("EachEver" : Str) = "SomeNext") = False := eq_false (by decide +kernel)
theorem ne_EachEver_SomeTill : (("EachEver" : Str) = "SomeTill") = False := eq_false (by decide +kernel)
theorem ne_EachNext_All : (("EachNext" : Str) = "All") = False := eq_false (by decide +kernel)
theorem ne_EachNext_Both : (("EachNext" : Str) = "Both") = False := eq_false (by decide +kernel)
theorem ne_EachNext_EachAlways : (("EachNext" : Str) = "EachAlways") = False := eq_false (by decide +kernel)
theorem ne_EachNext_EachEver : (("EachNext" : Str) = "EachEver") = False := eq_false (by decide +kernel)
theorem ne_EachNext_EachTill : (("EachNext" : Str) = "EachTill") = False := eq_false (by decide +kernel)
theorem ne_EachNext_Either : (("EachNext" : Str) = "Either") = False := eq_false (by decide +kernel)
theorem ne_EachNext_Mark : (("EachNext" : Str) = "Mark") = False := eq_false (by decide +kernel)
theorem ne_EachNext_Not : (("EachNext" : Str) = "Not") = False := eq_false (by decide +kernel)
theorem ne_EachNext_SomeAlways : (("EachNext" : Str) = "SomeAlways") = False := eq_false (by decide +kernel)
theorem ne_EachNext_SomeEver : (("EachNext" : Str) = "SomeEver") = False := eq_false (by decide +kernel)
theorem ne_EachNext_SomeNext : (("EachNext" : Str) = "SomeNext") = False := eq_false (by decide +kernel)
theorem ne_EachNext_SomeTill : (("EachNext" : Str) = "SomeTill") = False := eq_false (by decide +kernel)
theorem ne_EachTill_All : (("EachTill" : Str) = "All") = False := eq_false (by decide +kernel)
theorem ne_EachTill_Both : (("EachTill" : Str) = "Both") = False := eq_false (by decide +kernel)
theorem ne_EachTill_EachAlways : (("EachTill" : Str) = "EachAlways") = False := eq_false (by decide +kernel)
theorem ne_EachTill_EachEver : (("EachTill" : Str) = "EachEver") = False := eq_false (by decide +kernel)
theorem ne_EachTill_EachNext : (("EachTill" : Str) = "EachNext") = False := eq_false (by decide +kernel)
theorem ne_EachTill_Either : (("EachTill" : Str) = "Either") = False := eq_false (by decide +kernel)
theorem ne_EachTill_Mark : (("EachTill" : Str) = "Mark") = False := eq_false (by decide +kernel)
theorem ne_EachTill_Not : (("EachTill" : Str) = "Not") = False := eq_false (by decide +kernel)
theorem ne_EachTill_SomeAlways : (("EachTill" : Str) = "SomeAlways") = False := eq_false (by decide +kernel)
theorem ne_EachTill_SomeEver : (("EachTill" : Str) = "SomeEver") = False := eq_false (by decide +kernel)
theorem ne_EachTill_SomeNext : (("EachTill" : Str) = "SomeNext") = False := eq_false (by decide +kernel)
theorem ne_EachTill_SomeTill : (("EachTill" : Str) = "SomeTill") = False := eq_false (by decide +kernel)
theorem ne_Either_All : (("Either" : Str) = "All") = False := eq_false (by decide +kernel)
theorem ne_Either_Both : (("Either" : Str) = "Both") = False := eq_false (by decide +kernel)
theorem ne_Either_EachAlways : (("Either" : Str) = "EachAlways") = False := eq_false (by decide +kernel)
theorem ne_Either_EachEver : (("Either" : Str) = "EachEver") = False := eq_false (by decide +kernel)
theorem ne_Either_EachNext : (("Either" : Str) = "EachNext") = False := eq_false (by decide +kernel)
theorem ne_Either_EachTill : (("Either" : Str) = "EachTill") = False := eq_false (by decide +kernel)
theorem ne_Either_Mark : (("Either" : Str) = "Mark") = False := eq_false (by decide +kernel)
theorem ne_Either_Not : (("Either" : Str) = "Not") = False := eq_false (by decide +kernel)
theorem ne_Either_SomeAlways : (("Either" : Str) = "SomeAlways") = False := eq_false (by decide +kernel)
theorem ne_Either_SomeEver : (("Either" : Str) = "SomeEver") = False := eq_false (by decide +kernel)
theorem ne_Either_SomeNext : (("Either" : Str) = "SomeNext") = False := eq_false (by decide +kernel)
theorem ne_Either_SomeTill : (("Either" : Str) = "SomeTill") = False := eq_false (by decide +kernel)
theorem ne_Mark_All : (("Mark" : Str) = "All") = False := eq_false (by decide +kernel)
theorem ne_Mark_Both : (("Mark" : Str) = "Both") = False := eq_false (by decide +kernel)
theorem ne_Mark_EachAlways : (("Mark" : Str) = "EachAlways") = False := eq_false (by decide +kernel)
theorem ne_Mark_EachEver : (("Mark" : Str) = "EachEver") = False := eq_false (by decide +kernel)
theorem ne_Mark_EachNext : (("Mark" : Str) = "EachNext") = False := eq_false (by decide +kernel)
theorem ne_Mark_EachTill : (("Mark" : Str) = "EachTill") = False := eq_false (by decide +kernel)
theorem ne_Mark_Either : (("Mark" : Str) = "Either") = False := eq_false (by decide +kernel)
theorem ne_Mark_Not : (("Mark" : Str) = "Not") = False := eq_false (by decide +kernel)
theorem ne_Mark_SomeAlways : (("Mark" : Str) = "SomeAlways") = False := eq_false (by decide +kernel)
theorem ne_Mark_SomeEver : (("Mark" : Str) = "SomeEver") = False := eq_false (by decide +kernel)
theorem ne_Mark_SomeNext : (("Mark" : Str) = "SomeNext") = False := eq_false (by decide +kernel)
theorem ne_Mark_SomeTill : (("Mark" : Str) = "SomeTill") = False := eq_false (by decide +kernel)
theorem ne_Not_All : (("Not" : Str) = "All") = False := eq_false (by decide +kernel)
theorem ne_Not_Both : (("Not" : Str) = "Both") = False := eq_false (by decide +kernel)
theorem ne_Not_EachAlways : (("Not" : Str) = "EachAlways") = False := eq_false (by decide +kernel)
theorem ne_Not_EachEver : (("Not" : Str) = "EachEver") = False := eq_false (by decide +kernel)
theorem ne_Not_EachNext : (("Not" : Str) = "EachNext") = False := eq_false (by decide +kernel)
theorem ne_Not_EachTill : (("Not" : Str) = "EachTill") = False := eq_false (by decide +kernel)
theorem ne_Not_Either : (("Not" : Str) = "Either") = False := eq_false (by decide +kernel)
theorem ne_Not_Mark : (("Not" : Str) = "Mark") = False := eq_false (by decide +kernel)
theorem ne_Not_SomeAlways : (("Not" : Str) = "SomeAlways") = False := eq_false (by decide +kernel)
theorem ne_Not_SomeEver : (("Not" : Str) = "SomeEver") = False := eq_false (by decide +kernel)
theorem ne_Not_SomeNext : (("Not" : Str) = "SomeNext") = False := eq_false (by decide +kernel)
theorem ne_Not_SomeTill : (("Not" : Str) = "SomeTill") = False := eq_false (by decide +kernel)
theorem ne_SomeAlways_All : (("SomeAlways" : Str) = "All") = False := eq_false (by decide +kernel)
theorem ne_SomeAlways_Both : (("SomeAlways" : Str) = "Both") = False := eq_false (by decide +kernel)
theorem ne_SomeAlways_EachAlways : (("SomeAlways" : Str) = "EachAlways") = False := eq_false (by decide +kernel)
theorem ne_SomeAlways_EachEver : (("SomeAlways" : Str) = "EachEver") = False := eq_false (by decide +kernel)
theorem ne_SomeAlways_EachNext : (("SomeAlways" : Str) = "EachNext") = False := eq_false (by decide +kernel)
theorem ne_SomeAlways_EachTill : (("SomeAlways" : Str) = "EachTill") = False := eq_false (by decide +kernel)
theorem ne_SomeAlways_Either : (("SomeAlways" : Str) = "Either") = False := eq_false (by decide +kernel)
theorem ne_SomeAlways_Mark : (("SomeAlways" : Str) = "Mark") = False := eq_false (by decide +kernel)
theorem ne_SomeAlways_Not : (("SomeAlways" : Str) = "Not") = False := eq_false (by decide +kernel)
theorem ne_SomeAlways_SomeEver : (("SomeAlways" : Str) = "SomeEver") = False := eq_false (by decide +kernel)
theorem ne_SomeAlways_SomeNext : (("SomeAlways" : Str) = "SomeNext") = False := eq_false (by decide +kernel)
theorem ne_SomeAlways_SomeTill : (("SomeAlways" : Str) = "SomeTill") = False := eq_false (by decide +kernel)
theorem ne_SomeEver_All : (("SomeEver" : Str) = "All") = False := eq_false (by decide +kernel)
theorem ne_SomeEver_Both : (("SomeEver" : Str) = "Both") = False := eq_false (by decide +kernel)
theorem ne_SomeEver_EachAlways : (("SomeEver" : Str) = "EachAlways") = False := eq_false (by decide +kernel)
theorem ne_SomeEver_EachEver : (("SomeEver" : Str) = "EachEver") = False := eq_false (by decide +kernel)
theorem ne_SomeEver_EachNext : (("SomeEver" : Str) = "EachNext") = False := eq_false (by decide +kernel)
theorem ne_SomeEver_EachTill : (("SomeEver" : Str) = "EachTill") = False := eq_false (by decide +kernel)
theorem ne_SomeEver_Either : (("SomeEver" : Str) = "Either") = False := eq_false (by decide +kernel)
theorem ne_SomeEver_Mark : (("SomeEver" : Str) = "Mark") = False := eq_false (by decide +kernel)
theorem ne_SomeEver_Not : (("SomeEver" : Str) = "Not") = False := eq_false (by decide +kernel)
theorem ne_SomeEver_SomeAlways : (("SomeEver" : Str) = "SomeAlways") = False := eq_false (by decide +kernel)
theorem ne_SomeEver_SomeNext : (("SomeEver" : Str) = "SomeNext") = False := eq_false (by decide +kernel)
theorem ne_SomeEver_SomeTill : (("SomeEver" : Str) = "SomeTill") = False := eq_false (by decide +kernel)
theorem ne_SomeNext_All : (("SomeNext" : Str) = "All") = False := eq_false (by decide +kernel)
theorem ne_SomeNext_Both : (("SomeNext" : Str) = "Both") = False := eq_false (by decide +kernel)
theorem ne_SomeNext_EachAlways : (("SomeNext" : Str) = "EachAlways") = False := eq_false (by decide +kernel)
theorem ne_SomeNext_EachEver : (("SomeNext" : Str) = "EachEver") = False := eq_false (by decide +kernel)
theorem ne_SomeNext_EachNext : (("SomeNext" : Str) = "EachNext") = False := eq_false (by decide +kernel)
theorem ne_SomeNext_EachTill : (("SomeNext" : Str) = "EachTill") = False := eq_false (by decide +kernel)
theorem ne_SomeNext_Either : (("SomeNext" : Str) = "Either") = False := eq_false (by decide +kernel)
theorem ne_SomeNext_Mark : (("SomeNext" : Str) = "Mark") = False := eq_false (by decide +kernel)
theorem ne_SomeNext_Not : (("SomeNext" : Str) = "Not") = False := eq_false (by decide +kernel)
theorem ne_SomeNext_SomeAlways : (("SomeNext" : Str) = "SomeAlways") = False := eq_false (by decide +kernel)
theorem ne_SomeNext_SomeEver : (("SomeNext" : Str) = "SomeEver") = False := eq_false (by decide +kernel)
theorem ne_SomeNext_SomeTill : (("SomeNext" : Str) = "SomeTill") = False := eq_false (by decide +kernel)
theorem ne_SomeTill_All : (("SomeTill" : Str) = "All") = False := eq_false (by decide +kernel)
theorem ne_SomeTill_Both : (("SomeTill" : Str) = "Both") = False := eq_false (by decide +kernel)
theorem ne_SomeTill_EachAlways : (("SomeTill" : Str) = "EachAlways") = False := eq_false (by decide +kernel)
theorem ne_SomeTill_EachEver : (("SomeTill" : Str) = "EachEver") = False := eq_false (by decide +kernel)
theorem ne_SomeTill_EachNext : (("SomeTill" : Str) = "EachNext") = False := eq_false (by decide +kernel)
theorem ne_SomeTill_EachTill : (("SomeTill" : Str) = "EachTill") = False := eq_false (by decide +kernel)
theorem ne_SomeTill_Either : (("SomeTill" : Str) = "Either") = False := eq_false (by decide +kernel)
theorem ne_SomeTill_Mark : (("SomeTill" : Str) = "Mark") = False := eq_false (by decide +kernel)
theorem ne_SomeTill_Not : (("SomeTill" : Str) = "Not") = False := eq_false (by decide +kernel)
theorem ne_SomeTill_SomeAlways : (("SomeTill" : Str) = "SomeAlways") = False := eq_false (by decide +kernel)
theorem ne_SomeTill_SomeEver : (("SomeTill" : Str) = "SomeEver") = False := eq_false (by decide +kernel)
theorem ne_SomeTill_SomeNext : (("SomeTill" : Str) = "SomeNext") = False := eq_false (by decide +kernel)
theorem ne_name_part : (("name" : Str) = "part") = False := eq_false (by decide +kernel)
theorem ne_name_left : (("name" : Str) = "left") = False := eq_false (by decide +kernel)
theorem ne_name_right : (("name" : Str) = "right") = False := eq_false (by decide +kernel)
theorem ne_name_inside : (("name" : Str) = "inside") = False := eq_false (by decide +kernel)
theorem ne_name_word : (("name" : Str) = "word") = False := eq_false (by decide +kernel)
theorem ne_name_words : (("name" : Str) = "words") = False := eq_false (by decide +kernel)
theorem ne_name_within : (("name" : Str) = "within") = False := eq_false (by decide +kernel)
theorem ne_part_name : (("part" : Str) = "name") = False := eq_false (by decide +kernel)
theorem ne_part_left : (("part" : Str) = "left") = False := eq_false (by decide +kernel)
theorem ne_part_right : (("part" : Str) = "right") = False := eq_false (by decide +kernel)
theorem ne_part_inside : (("part" : Str) = "inside") = False := eq_false (by decide +kernel)
theorem ne_part_word : (("part" : Str) = "word") = False := eq_false (by decide +kernel)
theorem ne_part_words : (("part" : Str) = "words") = False := eq_false (by decide +kernel)
theorem ne_part_within : (("part" : Str) = "within") = False := eq_false (by decide +kernel)
theorem ne_left_name : (("left" : Str) = "name") = False := eq_false (by decide +kernel)
theorem ne_left_part : (("left" : Str) = "part") = False := eq_false (by decide +kernel)
theorem ne_left_right : (("left" : Str) = "right") = False := eq_false (by decide +kernel)
theorem ne_left_inside : (("left" : Str) = "inside") = False := eq_false (by decide +kernel)
theorem ne_left_word : (("left" : Str) = "word") = False := eq_false (by decide +kernel)
theorem ne_left_words : (("left" : Str) = "words") = False := eq_false (by decide +kernel)
theorem ne_left_within : (("left" : Str) = "within") = False := eq_false (by decide +kernel)
theorem ne_right_name : (("right" : Str) = "name") = False := eq_false (by decide +kernel)
theorem ne_right_part : (("right" : Str) = "part") = False := eq_false (by decide +kernel)
theorem ne_right_left : (("right" : Str) = "left") = False := eq_false (by decide +kernel)
theorem ne_right_inside : (("right" : Str) = "inside") = False := eq_false (by decide +kernel)
theorem ne_right_word : (("right" : Str) = "word") = False := eq_false (by decide +kernel)
theorem ne_right_words : (("right" : Str) = "words") = False := eq_false (by decide +kernel)
theorem ne_right_within : (("right" : Str) = "within") = False := eq_false (by decide +kernel)
theorem ne_not {a b : Str} (h : (a = b) = False) : decide (¬ a = b) = true := by simp [h]
def fEls (b : DE) (env : List T) : Option (T × List T) → Option (T × List T)
  | some r => some r
  | none => b env
--ev
theorem fEls_s (b env r) : fEls b env (some r) = some r := rfl
--ev
theorem fEls_n (b env) : fEls b env none = b env := rfl
--ev
theorem elsE_ev (a b env) : elsE a b env = fEls b env (a env) := by unfold elsE fEls; cases a env <;> rfl
theorem oOr_l {p q : T → Option T} {t u : T} (h : p t = some u) : oOr p q t = some u := by unfold oOr; rw [h]
theorem oOr_r {p q : T → Option T} {t : T} (h : p t = none) : oOr p q t = q t := by unfold oOr; rw [h]
theorem oIs1_y (c b o ns xs) : oIs1 c b (.nd o (.ins c ns) xs) = some (.lf (.bl b)) := if_pos rfl
theorem oIs1_n {c c' : Str} (b o ns xs) (h : (c' = c) = False) : oIs1 c b (.nd o (.ins c' ns) xs) = none := if_neg (by intro e; rw [← h]; exact Option.some.inj e)
theorem oFld_n {c c' : Str} (f o ns xs) (h : (c' = c) = False) : oFld c f (.nd o (.ins c' ns) xs) = none := if_neg (by intro e; rw [← h]; exact e)
theorem mOr_l {p q : T → List T → Option (T × T)} {t : T} {ts : List T} {u : T × T} (h : p t ts = some u) : mOr p q t ts = some u := by unfold mOr; rw [h]
theorem mOr_r {p q : T → List T → Option (T × T)} {t : T} {ts : List T} (h : p t ts = none) : mOr p q t ts = q t ts := by unfold mOr; rw [h]
theorem dMake_cls (c f bs dv da env) : dMake c f bs dv da env = (da env).bind (fMake c f bs dv) := dMake_ev c f bs dv da env
def fOO (q : T → Option T) (t : T) : Option T → Option T
  | some u => some u
  | none => q t
--ev
theorem fOO_s (q t u) : fOO q t (some u) = some u := rfl
--ev
theorem fOO_n (q t) : fOO q t none = q t := rfl
--ev
theorem oOr_ev (p q t) : oOr p q t = fOO q t (p t) := by unfold oOr fOO; cases p t <;> rfl
def fMO (q : T → List T → Option (T × T)) (t : T) (ts : List T) : Option (T × T) → Option (T × T)
  | some u => some u
  | none => q t ts
--ev
theorem fMO_s (q t ts u) : fMO q t ts (some u) = some u := rfl
--ev
theorem fMO_n (q t ts) : fMO q t ts none = q t ts := rfl
--ev
theorem mOr_ev (p q t ts) : mOr p q t ts = fMO q t ts (p t ts) := by unfold mOr fMO; cases p t ts <;> rfl
--ev
theorem oIs1_nd (c b o c' ns xs) : oIs1 c b (.nd o (.ins c' ns) xs) = if c' = c then some (.lf (.bl b)) else none := by
  unfold oIs1 clsOf; by_cases h : c' = c <;> simp [h]
theorem oFld_nd (c f o c' ns xs) : oFld c f (.nd o (.ins c' ns) xs) = if c' = c then getF ns xs f else none := rfl
theorem getF_cons (n ns x xs f) : getF (n :: ns) (x :: xs) f = if n = f then some x else getF ns xs f := rfl
theorem mFld_nd (c f c' ns xs t) (h : ns.length < 1000) : mFld c f (.nd true (.ins c' ns) xs) [t] = if c' = c then some (.lf .non, .nd true (.ins c' (putFT ns xs f t).1) (putFT ns xs f t).2) else none := by
  unfold mFld; by_cases e : c' = c <;> simp [h, e]
theorem dLr_y {dg : DG} {de : DE} {vs : List Nat} {t u : T} {ts acc env e e2 : List T} (h1 : dg t env = some e) (h2 : de e = some (u, e2)) (hl : acc.length ≤ 1000) : dLr dg dYes de vs (t :: ts) acc env = dLr dg dYes de vs ts (acc ++ [u]) (wipeT e2 vs) := by
  have hlt : acc.length < sizeLine := small hl
  have h3 : dYes e = some (.lf (.bl true), e) := rfl
  rw [dLr, h1, Option.bind_some]
  simp only [h3, h2, Option.bind_some, hlt, if_true]
/-- a loop that answers at the first of these -/
theorem lp_fst {α : Type} {dg : DG} {d : DS} (Iv : List T → Prop) (p : α → Bool) (c r : α → T) : ∀ (xs : List α) (env : List T), Iv env →
    (∀ x ∈ xs, ∀ env, Iv env → ∃ e', turn dg d (c x) env = some (if p x = true then .rt (r x) else .nx, e') ∧ Iv e') → ∃ e, Iv e ∧ dFr dg d (xs.map c) env = some ((match xs.find? p with | some x => .rt (r x) | none => .nx), e)
  | [], env, h0, _ => ⟨env, h0, rfl⟩
  | x :: xs, env, h0, hs => by
    obtain ⟨e', h1, h2⟩ := hs x (List.mem_cons_self ..) env h0
    rw [List.map_cons, dFr_cons, h1, Option.bind_some]
    cases hp : p x with
    | true => exact ⟨e', h2, by simp [hp, fFr_rt]⟩
    | false =>
      obtain ⟨e9, g1, g2⟩ := lp_fst Iv p c r xs e' h2 fun u hu => hs u (List.mem_cons_of_mem _ hu)
      exact ⟨e9, g1, by simpa [hp, fFr_nx] using g2⟩
--ev
theorem dNew_ev (c env) : dNew c env = some (.nd true (.ins c []) [], env) := rfl
end Tr



set_option Elab.async false
set_option linter.all false
set_option autoImplicit false
set_option maxRecDepth 100000
set_option maxHeartbeats 4000000
/-! EV5: what D18 brings, reckoned. -/
namespace Tr
open PySem PySem.Spec PyProof.Rows L2 Pm
def fFzk (i : Nat) (d : DE) (env : List T) (t : T) : Option (T × List T) := match t with
  | .nd true k xs => d (env.set i (.nd true k (frzs xs)))
  | _ => none
--ev
theorem fFzk_ev (i d env k xs) : fFzk i d env (.nd true k xs) = d (env.set i (.nd true k (frzs xs))) := rfl
--ev
theorem fzk_ev (i d env) : fzk i d env = env[i]?.bind (fFzk i d env) := by
  unfold fzk fFzk
  cases env[i]? with
  | none => rfl
  | some t => cases t with
    | no => rfl
    | lf v => rfl
    | nd o k xs => cases o <;> rfl
def fDfz (p : T × List T) : Option (T × List T) := some (frz p.1, p.2)
--ev
theorem fDfz_ev (t e) : fDfz (t, e) = some (frz t, e) := rfl
--ev
theorem dfz_ev (d env) : dfz d env = (d env).bind fDfz := by
  unfold dfz fDfz
  cases d env <;> rfl
--ev
theorem z_eqbl (a b : Bool) : oEq (.lf (.bl a)) (.lf (.bl b)) = some (.lf (.bl (a == b))) := by
  unfold oEq
  have h : ∀ x : Bool, SeqAt.shaped (.bool x) = true := fun x => by cases x <;> decide
  simp only [toD, Option.bind_some, h, and_self, if_true, PyData.eqv]
--ev
theorem z_nebl (a b : Bool) : oNe (.lf (.bl a)) (.lf (.bl b)) = some (.lf (.bl (!(a == b)))) := by
  unfold oNe
  have h : ∀ x : Bool, SeqAt.shaped (.bool x) = true := fun x => by cases x <;> decide
  simp only [toD, Option.bind_some, h, and_self, if_true, PyData.eqv]
--ev
theorem z_beqtt : (true == true) = true := rfl
--ev
theorem z_beqff : (false == false) = true := rfl
--ev
theorem z_beqtf : (true == false) = false := rfl
--ev
theorem z_beqft : (false == true) = false := rfl
--ev
theorem z_isNll (o xs) : oIsN (ll o xs) (.lf .non) = some (.lf (.bl false)) := rfl
--ev
theorem z_isNli (o xs) : oIsN (li o xs) (.lf .non) = some (.lf (.bl false)) := rfl
--ev
theorem z_catnd (o o' xs ys) (h : xs.length + ys.length ≤ 1000) : oCat (.nd o .lst xs) (.nd o' .lst ys) = if clns xs = true ∧ clns ys = true then some (.nd true .lst (xs ++ ys)) else none := by
  have := small h
  show (if clns xs = true ∧ clns ys = true ∧ xs.length + ys.length ≤ sizeLine then some (T.nd true .lst (xs ++ ys)) else none) = _
  by_cases h1 : clns xs = true <;> by_cases h2 : clns ys = true <;> simp [h1, h2] <;> omega
end Tr


set_option Elab.async false
set_option linter.all false
set_option autoImplicit false
set_option maxRecDepth 100000
set_option maxHeartbeats 4000000
/-! EV6: what D19 to D22 bring, reckoned; texts joined. -/
namespace Tr
open PySem PySem.Spec PyProof.Rows L2 Pm
/-! zip -/
def fZip (p : List T × List T) : Option (List T × List T) := (itemsZ p.1).bind (fIt' p.2)
--ev
theorem dZip_ev (da env) : dZip da env = (da env).bind fZip := by
  unfold dZip fZip
  cases da env with
  | none => rfl
  | some p => simp only [Option.bind_some]; cases itemsZ p.1 <;> rfl
--ev
theorem fZip_ev (o o' xs ys e) : fZip ([.nd o .lst xs, .nd o' .lst ys], e) = some (zpT (frzs xs) (frzs ys), e) := rfl
theorem zpT_map {α : Type} (f g : α → T) : ∀ xs : List α, zpT (xs.map f) (xs.map g) = xs.map fun x => .nd false .tup [f x, g x]
  | [] => rfl
  | x :: xs => by simp only [List.map_cons, zpT, zpT_map f g xs]
def zipC (t0 u0 : T) : Option (List T) := match itemsC t0, itemsC u0 with
  | some a, some b => if cln u0 = true then some (zpT a b) else none
  | _, _ => none
def fForZ3 (i : Nat) (t0 : T) (p : Fl × List T) : Option (Fl × List T) := match p.2[i]? with
  | some .no => some (p.1, p.2.set i t0)
  | _ => none
def fForZ2 (i : Nat) (dg : DG) (d : DS) (env : List T) (t0 : T) (its : List T) : Option (Fl × List T) := (dFr dg d its (env.set i .no)).bind (fForZ3 i t0)
def fForZ1 (i : Nat) (dg : DG) (d : DS) (env : List T) (t0 : T) (u0 : T) : Option (Fl × List T) := (zipC t0 u0).bind (fForZ2 i dg d env t0)
def fForZ (i j : Nat) (dg : DG) (d : DS) (env : List T) (t0 : T) : Option (Fl × List T) := (gV j env).bind (fForZ1 i dg d env t0)
--ev
theorem fForZ_ev (i j dg d env t0) : fForZ i j dg d env t0 = (gV j env).bind (fForZ1 i dg d env t0) := rfl
--ev
theorem fForZ1_ev (i dg d env t0 u0) : fForZ1 i dg d env t0 u0 = (zipC t0 u0).bind (fForZ2 i dg d env t0) := rfl
--ev
theorem fForZ2_ev (i dg d env t0 its) : fForZ2 i dg d env t0 its = (dFr dg d its (env.set i .no)).bind (fForZ3 i t0) := rfl
theorem fForZ3_ev (i t0 r e) (h : e[i]? = some .no) : fForZ3 i t0 (r, e) = some (r, e.set i t0) := by unfold fForZ3; simp only [h]
--ev
theorem dForZ_ev (i j dg d env) : dForZ i j dg d env = (gV i env).bind (fForZ i j dg d env) := by
  unfold dForZ fForZ fForZ1 fForZ2 fForZ3 zipC
  cases gV i env with
  | none => rfl
  | some t0 =>
    simp only [Option.bind_some]
    cases gV j env with
    | none => rfl
    | some u0 =>
      simp only [Option.bind_some]
      cases itemsC t0 with
      | none => rfl
      | some a =>
        cases itemsC u0 with
        | none => rfl
        | some b =>
          simp only
          split
          · simp only [Option.bind_some]
            cases dFr dg d (zpT a b) (env.set i .no) with
            | none => rfl
            | some p => rfl
          · rfl
def fFzS (i : Nat) (d : DS) (env : List T) (t : T) : Option (Fl × List T) := d (env.set i (frz t))
--ev
theorem fFzS_ev (i d env t) : fFzS i d env t = d (env.set i (frz t)) := rfl
--ev
theorem fzS_ev (i d env) : fzS i d env = env[i]?.bind (fFzS i d env) := by unfold fzS; cases env[i]? <;> rfl
/-! reversed(range(n)) -/
def rvT (n : Nat) : List T := (rgI n).reverse.map lfI
theorem rv_eq (n : Nat) : ((List.range n).map fun (k : Nat) => lfI ((n : Int) - 1 - k)) = rvT n := by
  unfold rvT rgI
  refine List.ext_getElem (by simp) fun i h1 h2 => ?_
  have hi : i < n := by simpa using h1
  simp only [List.getElem_map, List.getElem_range, List.getElem_reverse, List.length_map, List.length_range]
  congr 1
  omega
def fRevR : T × List T → Option (List T × List T)
  | (.lf (.int j), e) => if -(2 ^ 61) ≤ j ∧ j < 2 ^ 61 then some ((List.range j.toNat).map fun (k : Nat) => lfI (j - 1 - k), e) else none
  | _ => none
theorem fRevR_ev (j e) : fRevR (.lf (.int j), e) = if -(2 ^ 61) ≤ j ∧ j < 2 ^ 61 then some ((List.range j.toNat).map fun (k : Nat) => lfI (j - 1 - k), e) else none := rfl
--ev
theorem fRevR_nat (n : Nat) (e) (h : n ≤ 1000) : fRevR (.lf (.int (n : Int)), e) = some (rvT n, e) := by
  rw [fRevR_ev, if_pos (by omega), Int.toNat_natCast, rv_eq]
--ev
theorem dRevR_ev (d env) : dRevR d env = (d env).bind fRevR := by
  unfold dRevR; split <;> rename_i h
  · rw [h]; rfl
  · cases hd : d env with
    | none => rfl
    | some p =>
      obtain ⟨t, e⟩ := p; rw [Option.bind_some]; unfold fRevR; split
      · rename_i hp; cases hp; exact (h _ _ hd).elim
      · rfl
/-! d.get -/
def f3V2 (o : T → T → T → Option T) (c : DV) (env : List T) (x y : T) : Option T := (c env).bind (o x y)
def f3V1 (o : T → T → T → Option T) (b c : DV) (env : List T) (x : T) : Option T := (b env).bind (f3V2 o c env x)
--ev
theorem f3V2_ev (o c env x y) : f3V2 o c env x y = (c env).bind (o x y) := rfl
--ev
theorem f3V1_ev (o b c env x) : f3V1 o b c env x = (b env).bind (f3V2 o c env x) := rfl
--ev
theorem o3V_ev (o a b c env) : o3V o a b c env = (a env).bind (f3V1 o b c env) := rfl
def fGetE2 (env : List T) (x y : T) : Option (T × List T) := (oGet x y (.nd true .lst [])).bind (fP env)
def fGetE1 (b : DV) (env : List T) (x : T) : Option (T × List T) := (b env).bind (fGetE2 env x)
--ev
theorem fGetE2_ev (env x y) : fGetE2 env x y = (oGet x y (.nd true .lst [])).bind (fP env) := rfl
--ev
theorem fGetE1_ev (b env x) : fGetE1 b env x = (b env).bind (fGetE2 env x) := rfl
--ev
theorem dGetE_ev (a b env) : dGetE a b env = (a env).bind (fGetE1 b env) := by
  unfold dGetE fGetE1 fGetE2
  cases a env with
  | none => rfl
  | some x =>
    simp only [Option.bind_some]
    cases b env with
    | none => rfl
    | some y => simp only [Option.bind_some]; cases oGet x y (.nd true .lst []) <;> rfl
/-! slices, displays -/
--ev
theorem z_sllo (o xs i) : oSlLo (li o xs) (.lf (.int i)) = some (li true (cutT xs (some i) none)) := z_slli o xs (some i) none
def fDisp (ks : List Key) (p : List T × List T) : Option (T × List T) := if nodupK ks = true ∧ ks.length = p.1.length ∧ ks.length ≤ 15 then some (.nd true (.dK ks) p.1, p.2) else none
--ev
theorem dDisp_ev (ks da env) : dDisp ks da env = (da env).bind (fDisp ks) := rfl
theorem fDisp_ev (ks ts e) (h : nodupK ks = true) (h2 : ks.length = ts.length) (h3 : ks.length ≤ 15) : fDisp ks (ts, e) = some (.nd true (.dK ks) ts, e) := if_pos ⟨h, h2, h3⟩
/-! stores at places -/
def fPutP4 (put : T → List T) (r : T × T) : Option (Fl × List T) := some (.nx, put r.2)
def fPutP3 (mk : V → T → List T → Option (T × T)) (t u : T) (put : T → List T) : T → Option (Fl × List T)
  | .lf k => if cln t = true then (mk k u [t]).bind (fPutP4 put) else none
  | _ => none
def fPutP2 (mk : V → T → List T → Option (T × T)) (dk : DV) (t : T) (e : List T) (p : T × (T → List T)) : Option (Fl × List T) := (dk e).bind (fPutP3 mk t p.1 p.2)
def fPutP1 (dp : DP) (mk : V → T → List T → Option (T × T)) (dk : DV) (p : T × List T) : Option (Fl × List T) := (dp p.2).bind (fPutP2 mk dk p.1 p.2)
--ev
theorem fPutP4_ev (put x y) : fPutP4 put (x, y) = some (.nx, put y) := rfl
--ev
theorem fPutP3_ev (mk t u put k) : fPutP3 mk t u put (.lf k) = if cln t = true then (mk k u [t]).bind (fPutP4 put) else none := rfl
--ev
theorem fPutP2_ev (mk dk t e u put) : fPutP2 mk dk t e (u, put) = (dk e).bind (fPutP3 mk t u put) := rfl
--ev
theorem fPutP1_ev (dp mk dk t e) : fPutP1 dp mk dk (t, e) = (dp e).bind (fPutP2 mk dk t e) := rfl
--ev
theorem dPutP_ev (dp mk dv dk env) : dPutP dp mk dv dk env = (dv env).bind (fPutP1 dp mk dk) := by
  unfold dPutP
  cases dv env with
  | none => rfl
  | some p =>
    obtain ⟨t, e⟩ := p
    simp only [Option.bind_some]
    unfold fPutP1
    cases dp e with
    | none => rfl
    | some q =>
      obtain ⟨u, put⟩ := q
      simp only [Option.bind_some]
      unfold fPutP2
      cases dk e with
      | none => rfl
      | some z =>
        cases z with
        | lf k =>
          show (if cln t = true then (mk k u [t]).map fun r => (Fl.nx, put r.2) else none) = (if cln t = true then (mk k u [t]).bind (fPutP4 put) else none)
          split
          · cases mk k u [t] <;> rfl
          · rfl
        | no => rfl
        | nd _ _ _ => rfl
def fDpV (i : Nat) (env : List T) (t : T) : Option (T × (T → List T)) := some (t, fun t' => env.set i t')
--ev
theorem dpV_ev (i env) : dpV i env = (gV i env).bind (fDpV i env) := by unfold dpV fDpV; cases gV i env <;> rfl
--ev
theorem fDpV_ev (i env t) : fDpV i env t = some (t, fun t' => env.set i t') := rfl
/-! joined texts -/
theorem strsOf_tx : ∀ ws : List (List Nat), strsOf (ws.map tx) = some (ws.map fun w => (⟨w.toArray⟩ : Str))
  | [] => rfl
  | w :: ws => by
    show (strsOf (ws.map tx)).map _ = _
    rw [strsOf_tx ws]; rfl
theorem joinL_nil : ∀ ws : List (List Nat), TL.joinL [] ws = ws.flatten
  | [] => rfl
  | [p] => by simp [TL.joinL]
  | p :: q :: r => by
    show p ++ ([] ++ TL.joinL [] (q :: r)) = _
    rw [joinL_nil (q :: r)]; simp
theorem join_nil (ws : List (List Nat)) : Txt.join ⟨#[]⟩ (ws.map fun w => (⟨w.toArray⟩ : Str)) = ⟨ws.flatten.toArray⟩ := by
  have h := TL.tl_join (⟨#[]⟩ : Str) (ws.map fun w => (⟨w.toArray⟩ : Str))
  rw [← TL.join_eq] at h
  have e1 : (ws.map fun w => (⟨w.toArray⟩ : Str)).map TL.tl = ws := by
    rw [List.map_map]
    conv => rhs; rw [← List.map_id ws]
    refine List.map_congr_left fun w _ => ?_
    show (⟨w.toArray⟩ : Str).cps.toList = w
    simp
  rw [e1] at h
  have e2 : TL.tl (⟨#[]⟩ : Str) = [] := rfl
  rw [e2, joinL_nil] at h
  generalize Txt.join ⟨#[]⟩ (ws.map fun w => (⟨w.toArray⟩ : Str)) = s at *
  obtain ⟨c⟩ := s
  have : c.toList = ws.flatten := h
  rw [← this]
def fJoin2 (a : List Nat) (p : T × List T) : Option (T × List T) := (oJoin ⟨a.toArray⟩ p.1).bind (fP p.2)
def fJoin1 (de : DE) (env : List T) : T → Option (T × List T)
  | .lf (.str a) => (de env).bind (fJoin2 a.cps.toList)
  | _ => none
--ev
theorem fJoin2_ev (a t e) : fJoin2 a (t, e) = (oJoin ⟨a.toArray⟩ t).bind (fP e) := rfl
--ev
theorem fJoin1_ev (de env l) : fJoin1 de env (tx l) = (de env).bind (fJoin2 l) := by
  show (de env).bind (fJoin2 l.toArray.toList) = _
  rw [List.toList_toArray]
--ev
theorem dJoin_ev (vo de env) : dJoin vo de env = (vo env).bind (fJoin1 de env) := by
  unfold dJoin
  cases h : vo env with
  | none => rfl
  | some t =>
    cases t with
    | no => rfl
    | nd _ _ _ => rfl
    | lf v =>
      cases v with
      | str a =>
        show (de env).bind _ = (de env).bind (fJoin2 a.cps.toList)
        cases de env with
        | none => rfl
        | some p => simp only [Option.bind_some, fJoin2, Array.toArray_toList]; cases oJoin a p.1 <;> rfl
      | _ => rfl
theorem z_join (o : Bool) (ws : List (List Nat)) (h : (ws.map List.length).sum ≤ 1000) : oJoin ⟨([] : List Nat).toArray⟩ (.nd o .lst (ws.map tx)) = some (tx ws.flatten) := by
  have e0 : (⟨([] : List Nat).toArray⟩ : Str) = ⟨#[]⟩ := rfl
  rw [e0]
  unfold oJoin
  simp only [isSq, if_true, strsOf_tx, Option.bind_some]
  rw [join_nil]
  have e : ((ws.map fun w => (⟨w.toArray⟩ : Str)).map (·.length)) = ws.map List.length := by
    rw [List.map_map]
    exact List.map_congr_left fun w _ => str_len w
  have z : (⟨#[]⟩ : Str).length = 0 := rfl
  rw [e, z, if_pos (by omega)]
  rfl
/-! tuples of one's own, locked dicts -/
def fTupO (p : List T × List T) : Option (T × List T) := if p.1.length ≤ sizeLine then some (.nd true .tup p.1, p.2) else none
--ev
theorem fTupO_ev (ts e) (h : ts.length ≤ 1000) : fTupO (ts, e) = some (.nd true .tup ts, e) := if_pos (Nat.le_of_lt (small h))
--ev
theorem dTupO_ev (da env) : dTupO da env = (da env).bind fTupO := rfl
def fLkK1 (env : List T) (p : T × List T) : Option (T × List T) := if pureT p.1 = true then some (p.1, env) else none
def fLkK (i : Nat) (d : DE) (env : List T) : T → Option (T × List T)
  | .nd true (.dK ks) xs => (d ((frzs env).set i (.nd false (.dL ks) (frzs xs)))).bind (fLkK1 env)
  | _ => none
--ev
theorem fLkK1_ev (env t e) : fLkK1 env (t, e) = if pureT t = true then some (t, env) else none := rfl
theorem fLkK_ev (i d env ks xs) : fLkK i d env (.nd true (.dK ks) xs) = (d ((frzs env).set i (.nd false (.dL ks) (frzs xs)))).bind (fLkK1 env) := rfl
--ev
theorem lkK_ev (i d env) : lkK i d env = env[i]?.bind (fLkK i d env) := by
  unfold lkK
  cases env[i]? with
  | none => rfl
  | some t =>
    cases t with
    | no => rfl
    | lf _ => rfl
    | nd o k xs =>
      cases o with
      | false => rfl
      | true =>
        cases k with
        | dK ks =>
          show (match d ((frzs env).set i (.nd false (.dL ks) (frzs xs))) with
            | some (t, _) => if pureT t = true then some (t, env) else none
            | none => none) = (d ((frzs env).set i (.nd false (.dL ks) (frzs xs)))).bind (fLkK1 env)
          cases d ((frzs env).set i (.nd false (.dL ks) (frzs xs))) with
          | none => rfl
          | some p => rfl
        | _ => rfl
end Tr


set_option Elab.async false
set_option linter.all false
set_option autoImplicit false
set_option maxRecDepth 100000
set_option maxHeartbeats 4000000
/-! DJ: names drawn with one place that differs (_law_name). -/
namespace Pm
open PySem PySem.Spec PyProof.Rows L2 Tr Wk
local macro_rules | `(tactic| exists $es,*) => do { let ls ← es.getElems.mapM fun e => `(Lean.Parser.Tactic.simpLemma| $e:term); `(tactic| simp -implicitDefEqProofs (disch := (first | assumption | omega | decide | (simp only [List.length_cons, List.length_nil, List.length_append, List.length_map, Tr.rgI_len]; omega) | (simp only [List.length_cons, List.length_nil, List.length_append, List.length_map, Int.toNat_natCast] at *; omega))) only [Tr.okT_lf, Tr.okT_nd, Tr.okT_li, Tr.okT_ll, Tr.okT_dk, Tr.okT_mks, Tr.okT_mk1, Tr.okT_mch, Tr.okT_scr, Tr.okT_tp, Tr.okO_some, Tr.gV_ev, Tr.gC_ev, Tr.gG_ev, Tr.fM_ev, Tr.fS_ev, Tr.gM_ev, Tr.gS_ev, Tr.fP_ev, Tr.fQ_ev, Tr.vr_ev, Tr.fRe_ev, Tr.re_ev, Tr.fO1_ev, Tr.o1V_ev, Tr.o1_ev, Tr.fO2V_ev, Tr.o2V_ev, Tr.fO2v'_ev, Tr.fO2v_ev, Tr.o2v_ev, Tr.fO2o'_ev, Tr.fO2o_ev, Tr.o2o_ev, Tr.fO2c'_ev, Tr.fO2c_ev, Tr.o2c_ev, Tr.fO2n''_ev, Tr.fO2n'_ev, Tr.fO2n_ev, Tr.o2n_ev, Tr.fAnd_ev, Tr.fOr_ev, Tr.dAnd_ev, Tr.dOr_ev, Tr.ite_BB, Tr.ite_decF, Tr.ite_Tdec, Tr.z_cast, Tr.z_ndec, Tr.ite_TF, Tr.ite_FT, Tr.bind_ite, Tr.aNil_ev, Tr.fCons'_ev, Tr.fCons_ev, Tr.aCons_ev, Tr.fCall'_ev, Tr.fCall_ev, Tr.dCall_ev, Tr.wb_nil, Tr.wb_none, Tr.fWb_ev, Tr.wb_some, Tr.fMeth'_ev, Tr.fMeth_ev, Tr.dMeth_ev, Tr.fMake'_ev, Tr.fMake_ev, Tr.dMake_ev, Tr.fSeq_nx, Tr.fSeq_rt, Tr.fSeq_bk, Tr.fSeq_ct, Tr.dSeq_ev, Tr.fIf_ev, Tr.dIf_ev, Tr.fSet_ev, Tr.dSet_ev, Tr.fRet_ev, Tr.dRet_ev, Tr.fEx_ev, Tr.dEx_ev, Tr.dRetN_ev, Tr.dNx_ev, Tr.dBk_ev, Tr.dCt_ev, Tr.dFail_ev, Tr.fPut''_ev, Tr.fPut'_ev, Tr.fPut1_ev, Tr.fPut_ev, Tr.dPut_ev, Tr.fMut3_ev, Tr.fMut2_ev, Tr.fMut1_ev, Tr.fMut_ev, Tr.dMut_ev, Tr.fLst_ev, Tr.fTup_ev, Tr.dLst_ev, Tr.dTup_ev, Tr.dDic_ev, Tr.fBw_ev, Tr.bw_ev, Tr.fFz_ev, Tr.fz_ev, Tr.fAug''_ev, Tr.fAug'_ev, Tr.fAug_ev, Tr.dAug_ev, Tr.z_ex, Tr.z_exT, Tr.fRng_nat, Tr.dRng_ev, Tr.fIt'_ev, Tr.fIt_ev, Tr.dIt_ev, Tr.fFor_ev, Tr.dFor_ev, Tr.gN_ev, Tr.fG_ev, Tr.gT2_ev, Tr.gT2_mk1, Tr.dFr_nil, Tr.turn_ev, Tr.fFr_nx, Tr.fFr_ct, Tr.fFr_bk, Tr.fFr_rt, Tr.dFr_cons, Tr.fLc'_ev, Tr.fLc_ev, Tr.dLc_ev, Tr.dLr_nil, Tr.wipeT_nil, Tr.wipeT_cons, Tr.backT_nil, Tr.backT_cons, Tr.cleanAt_nil, Tr.cleanAt_cons, Tr.fFun_rt, Tr.fFun_nx, Tr.dFun_ev, Tr.outs_cons, Tr.outs_nil, Tr.frzs_nil, Tr.frzs_cons, Tr.z_frz1, Tr.z_frz2, Tr.z_frz3, Tr.z_frz4, Tr.z_frz5, Tr.z_frz6, Tr.z_frz7, Tr.z_frz8, Tr.z_frz9, Tr.z_frz10, Tr.z_frz11, Tr.z_cln1, Tr.z_cln2, Tr.z_cln3, Tr.z_cln4, Tr.z_cln5, Tr.z_cln6, Tr.z_cln7, Tr.z_cln8, Tr.z_cln9, Tr.z_cln10, Tr.z_clns1, Tr.z_clns2, Tr.z_clns3, Tr.z_pure1, Tr.z_pure2, Tr.z_pure3, Tr.z_pure4, Tr.z_pure5, Tr.z_pure6, Tr.z_pure7, Tr.z_lfI, Tr.z_li, Tr.z_add, Tr.z_sub, Tr.z_mulr, Tr.z_mod, Tr.z_div, Tr.z_lt, Tr.z_le, Tr.z_gt, Tr.z_ge, Tr.z_eq, Tr.z_ne, Tr.z_neg, Tr.z_eqli, Tr.z_neli, Tr.z_eqnil, Tr.z_nenil, Tr.z_inli, Tr.z_ninli, Tr.z_indk, Tr.z_nindk, Tr.z_ll, Tr.z_mks, Tr.z_nil, Tr.z_appll, Tr.z_int1, Tr.z_int2, Tr.z_len1, Tr.z_len2, Tr.z_len3, Tr.z_len4, Tr.z_len5, Tr.z_len6, Tr.z_len7, Tr.z_not, Tr.z_isi1, Tr.z_isi2, Tr.z_isi3, Tr.z_isi4, Tr.z_isi5, Tr.z_isi6, Tr.z_list1, Tr.z_sort1, Tr.z_sort2, Tr.z_app1, Tr.z_app2, Tr.z_pop1, Tr.z_clr1, Tr.z_clr2, Tr.z_rev1, Tr.z_ext1, Tr.z_cat1, Tr.z_it1, Tr.z_it2, Tr.z_it3, Tr.z_it4, Tr.z_ty1, Tr.z_ty2, Tr.z_ty3, Tr.z_ty4, Tr.z_fst, Tr.z_fma, Tr.z_ffa, Tr.z_ins1, Tr.z_ins2, Tr.z_ins3, Tr.z_ins4, Tr.z_ins5, Tr.z_ixli, Tr.z_ixll, Tr.z_ixlast, Tr.z_setdk, Tr.fDic1_ev, Tr.fDic1'_ev, Tr.dDic1_ev, Tr.fLRg_nat, Tr.dLRg_ev, Tr.z_len8, Tr.z_bind_some, Tr.z_get0, Tr.z_gets, Tr.z_getD0, Tr.z_getDs, Tr.z_set0, Tr.z_sets, Tr.z_app, Tr.z_nil_app, Tr.z_app_nil, Tr.z_map0, Tr.z_mapc, Tr.z_rep0, Tr.z_reps, Tr.z_lenc, Tr.z_lenn, Tr.z_c0, Tr.z_c1, Tr.z_c2, Tr.z_c3, Tr.z_okoV, Tr.z_okrk, Tr.z_okrl, Tr.z_frzoV, Tr.z_clnoV, Tr.z_pureoV, Tr.z_frzrk, Tr.z_clnrk, Tr.z_frzrl, Tr.z_clnrl, Tr.z_ixrl, Tr.z_lenrl, Tr.z_isirl, Tr.z_tyrl, Tr.z_clrrl, Tr.z_oVs, Tr.z_oVn, Tr.z_rks, Tr.z_rkn, Tr.z_ixt0, Tr.z_ixt1, Tr.z_isN1, Tr.z_isN2, Tr.z_isN3, Tr.z_notN1, Tr.z_notN2, Tr.z_notN3, Tr.z_isN4, Tr.z_notN4, Tr.z_isN5, Tr.z_notN5, Tr.fCh3_ev, Tr.fCh2_ev, Tr.fCh1_ev, Tr.z_ch, Tr.z_okdls, Tr.z_frzdls, Tr.z_clndls, Tr.z_ixdls, Tr.z_indls, Tr.z_okdds, Tr.z_frzdds, Tr.z_clndds, Tr.z_ixdds, Tr.fAsg'_ev, Tr.fAsg_ev, Tr.dAsg_ev, Tr.fBwS_ev, Tr.bwS_ev, Tr.fPt_ev, Tr.ptT_no, Tr.ptT_so, Tr.fSl2_ev, Tr.fSl1_ev, Tr.fSl_ev, Tr.dSl_ev, Tr.z_slli, Tr.z_cutTail, Tr.z_cutInit, Tr.z_okst, Tr.z_frzst, Tr.z_clnst, Tr.z_purest, Tr.z_addst, Tr.z_lenst, Tr.z_inst1, Tr.z_ninst1, Tr.z_ixst, Tr.eqL_self, Tr.eqL_nn, Tr.eqL_nc, Tr.eqL_cn, Tr.eqL_cc, Tr.z_eqst, Tr.z_nest, Tr.z_insl, Tr.z_ninsl, Tr.z_sq1, Tr.z_sq2, Tr.z_sq3, Tr.z_itst, Tr.z_isist, Tr.z_slst, Tr.z_cutOne, Tr.lit_all, Tr.lit_not, Tr.lit_both, Tr.lit_either, Tr.lit_somenext, Tr.lit_eachnext, Tr.lit_sometill, Tr.lit_eachtill, Tr.lit_someever, Tr.lit_eachever, Tr.lit_somealways, Tr.lit_eachalways, Tr.lit_mark, Tr.lit_loop, Tr.lit_rank, Tr.lit_walk, Tr.lit_shut, Tr.lit_out, Tr.lit_here, Tr.lit_dead, Tr.lit_plain, Tr.lit_step, Tr.lit_none, Tr.lit_fair, Tr.lit_answer, Tr.lit_p, Tr.lit_wet, Tr.lit_darkness, Tr.lit_x, Tr.lit_q, Tr.lit_empty, Tr.lit_in, Tr.lit_letters, Tr.z_kept, Tr.z_catX12, Tr.z_catT12, Tr.z_ixt2, Tr.z_frzsg, Tr.z_clnsg, Tr.z_oksg, Tr.z_oktl, Tr.z_frztl, Tr.z_clntl, Tr.z_insT_told, Tr.z_insT_joint, Tr.z_insT_over_walks, Tr.z_insT_contrary, Tr.z_insT_good, Tr.z_insT_some_next, Tr.z_insT_some_till, Tr.z_insT_each_till, Tr.z_fldT_machine, Tr.z_fldT_every, Tr.z_fldT_live, Tr.fEls_s, Tr.fEls_n, Tr.elsE_ev, Tr.fOO_s, Tr.fOO_n, Tr.oOr_ev, Tr.fMO_s, Tr.fMO_n, Tr.mOr_ev, Tr.oIs1_nd, Tr.dNew_ev, Tr.fFzk_ev, Tr.fzk_ev, Tr.fDfz_ev, Tr.dfz_ev, Tr.z_eqbl, Tr.z_nebl, Tr.z_beqtt, Tr.z_beqff, Tr.z_beqtf, Tr.z_beqft, Tr.z_isNll, Tr.z_isNli, Tr.z_catnd, Tr.dZip_ev, Tr.fZip_ev, Tr.fForZ_ev, Tr.fForZ1_ev, Tr.fForZ2_ev, Tr.dForZ_ev, Tr.fFzS_ev, Tr.fzS_ev, Tr.fRevR_nat, Tr.dRevR_ev, Tr.f3V2_ev, Tr.f3V1_ev, Tr.o3V_ev, Tr.fGetE2_ev, Tr.fGetE1_ev, Tr.dGetE_ev, Tr.z_sllo, Tr.dDisp_ev, Tr.fPutP4_ev, Tr.fPutP3_ev, Tr.fPutP2_ev, Tr.fPutP1_ev, Tr.dPutP_ev, Tr.dpV_ev, Tr.fDpV_ev, Tr.fJoin2_ev, Tr.fJoin1_ev, Tr.dJoin_ev, Tr.fTupO_ev, Tr.dTupO_ev, Tr.fLkK1_ev, Tr.lkK_ev, ↓reduceIte, ite_true, ite_false, Nat.reduceAdd, Nat.reduceSub, Nat.reduceLT, Nat.reduceLeDiff, Nat.zero_add, Nat.lt_add_one, Nat.zero_lt_succ, decide_true, decide_false, decide_eq_true_eq, decide_eq_false_iff_not, Bool.not_eq_true, Bool.not_eq_false, Bool.not_true, Bool.not_false, Bool.not_eq_true', Bool.and_true, Bool.true_and, Bool.and_self, Bool.and_eq_true, Bool.or_eq_true, not_true_eq_false, not_false_eq_true, eq_self, and_self, and_true, true_and, false_and, and_false, or_true, true_or, or_false, false_or, reduceCtorEq, Bool.false_eq_true, Int.toNat_natCast, Int.reduceToNat, Int.reduceEq, Int.reduceLT, Int.reduceLE, Int.reduceNeg, Int.reduceAdd, Int.reduceSub, Int.reduceMul, List.length_map, Bool.not_not, Bool.not_eq_eq_eq_not, Decidable.not_not, Nat.reduceEqDiff, Bool.false_and, Bool.and_false, Option.isSome_some, Option.isSome_none, Option.isNone_some, Option.isNone_none, $ls,*]) }

theorem abc_at (i : Int) (h0 : 0 ≤ i) (h : i < 26) : oIx (tx ABC) (.lf (.int i)) = some (tx [ABC.getD i.toNat 0]) := z_ixst ABC i (by decide) h0 (by show i.toNat < 26; omega)
theorem abc_lt (i : Nat) (h : i < 26) : ABC.getD i 0 < 1114112 := by
  have : ∀ j < 26, ABC.getD j 0 < 1114112 := by decide
  exact this i h
theorem join_rep (o : Bool) (n : Nat) (b : Nat) (h : n ≤ 900) : oJoin ⟨([] : List Nat).toArray⟩ (.nd o .lst ((List.replicate n [b]).map tx)) = some (tx (List.replicate n b)) := by
  rw [z_join o (List.replicate n [b]) (by simp; omega)]
  congr 2
  induction n with
  | zero => rfl
  | succ n ih => rw [List.replicate_succ, List.flatten_cons, ih (by omega), List.replicate_succ]; rfl
theorem okc_rep (n b : Nat) (h : b < 1114112) : Okc (List.replicate n b) = true := by
  unfold Okc
  rw [List.all_eq_true]
  intro c hc
  rw [(List.mem_replicate.mp hc).2]
  exact decide_eq_true h
theorem okc_app {a b : List Nat} (ha : Okc a = true) (hb : Okc b = true) : Okc (a ++ b) = true := by
  unfold Okc at *
  rw [List.all_append, ha, hb]; rfl
end Pm


set_option Elab.async false
set_option linter.all false
set_option autoImplicit false
set_option maxRecDepth 100000
set_option maxHeartbeats 4000000
/-! EV7: changes at places; lists of texts as they are; tables. -/
namespace Tr
open PySem PySem.Spec PyProof.Rows L2 Pm
/-! places -/
theorem ixN_of {n : Nat} {i : Int} (h0 : 0 ≤ i) (h : i.toNat < n) : ixN n i = some i.toNat := by
  unfold ixN
  rw [if_pos h0, if_pos (by omega)]
/-- a list at a place that is a list of lists -/
theorem dpIx_ll {dp : DP} {db : DV} {env : List T} {put : T → List T} (xs : List (List Int)) (i : Int) (h : dp env = some (ll true xs, put)) (hb : db env = some (.lf (.int i))) (h0 : 0 ≤ i) (hi : i.toNat < xs.length) :
    dpIx dp db env = some (li true (xs.getD i.toNat []), fun t' => put (.nd true .lst ((xs.map (li true)).set i.toNat t'))) := by
  unfold dpIx
  rw [h, hb]
  show ((ixN (xs.map (li true)).length i).bind fun j => ((xs.map (li true))[j]?).map fun t => (t, fun t' => put (.nd true .lst ((xs.map (li true)).set j t')))) = _
  rw [ixN_of h0 (by rw [List.length_map]; exact hi), Option.bind_some, List.getElem?_map]
  simp [hi]
theorem mutP_ll {j : Nat} {db dv : DV} {env : List T} (xs : List (List Int)) (i x : Int) (h : env[j]? = some (ll true xs)) (hb : db env = some (.lf (.int i))) (hv : dv env = some (.lf (.int x))) (h0 : 0 ≤ i) (hi : i.toNat < xs.length) (hl : (xs.getD i.toNat []).length ≤ 1000) :
    dMutP "list" (dpIx (dpV j) db) mAppend dv env = some (.lf .non, env.set j (ll true (xs.set i.toNat (xs.getD i.toNat [] ++ [x])))) := by
  have hp : dpV j env = some (ll true xs, fun t' => env.set j t') := by
    unfold dpV
    rw [E_V h (by intro e; cases e)]; rfl
  have d := dpIx_ll xs i hp hb h0 hi
  unfold dMutP
  rw [d]
  simp only [Option.bind_some, hv]
  rw [if_pos ⟨rfl, cln_lf _⟩, ap_li _ x hl]
  simp only [Option.map_some]
  congr 3
  unfold ll
  rw [List.map_set]
/-! places, reckoned -/
def fDpIx2 : T → (T → List T) → T → Option (T × (T → List T))
  | .nd o .lst xs, put, .lf (.int i) => (ixN xs.length i).bind fun j => (xs[j]?).map fun t => (t, fun t' => put (.nd o .lst (xs.set j t')))
  | .nd o .tup xs, put, .lf (.int i) => (ixN xs.length i).bind fun j => (xs[j]?).map fun t => (t, fun t' => put (.nd o .tup (xs.set j t')))
  | _, _, _ => none
def fDpIx (db : DV) (env : List T) : T × (T → List T) → Option (T × (T → List T)) := fun p => (db env).bind (fDpIx2 p.1 p.2)
--ev
theorem fDpIx_ev (db env t put) : fDpIx db env (t, put) = (db env).bind (fDpIx2 t put) := rfl
--ev
theorem dpIx_ev (da db env) : dpIx da db env = (da env).bind (fDpIx db env) := by
  unfold dpIx fDpIx
  cases da env with
  | none => rfl
  | some p =>
    obtain ⟨t, put⟩ := p
    cases db env with
    | none => cases t with
      | nd o k xs => cases k <;> rfl
      | _ => rfl
    | some u =>
      cases t with
      | nd o k xs => cases k <;> (cases u with | lf v => cases v <;> rfl | _ => rfl)
      | _ => rfl
--ev
theorem fDpIx2_ll (xs put) (i : Int) (h0 : 0 ≤ i) (h : i.toNat < xs.length) : fDpIx2 (ll true xs) put (.lf (.int i)) = some (li true (xs.getD i.toNat []), fun t' => put (.nd true .lst ((xs.map (li true)).set i.toNat t'))) := by
  show ((ixN (xs.map (li true)).length i).bind fun j => ((xs.map (li true))[j]?).map fun t => (t, fun t' => put (.nd true .lst ((xs.map (li true)).set j t')))) = _
  rw [ixN_of h0 (by rw [List.length_map]; exact h), Option.bind_some, List.getElem?_map]
  simp [h]
--ev
theorem z_setll (xs : List (List Int)) (j : Nat) (y) : (.nd true .lst ((xs.map (li true)).set j (li true y)) : T) = ll true (xs.set j y) := by unfold ll; rw [List.map_set]
--ev
theorem fDpIx2_t1 (o a b put) : fDpIx2 (.nd o .tup [a, b]) put (.lf (.int 1)) = some (b, fun t' => put (.nd o .tup [a, t'])) := rfl
--ev
theorem fDpIx2_t0 (o a b put) : fDpIx2 (.nd o .tup [a, b]) put (.lf (.int 0)) = some (a, fun t' => put (.nd o .tup [t', b])) := rfl
def fMP3 (put : T → List T) (q : T × T) : Option (T × List T) := some (q.1, put q.2)
--ev
theorem fMP3_ev (put x y) : fMP3 put (x, y) = some (x, put y) := rfl
def fMP2 (ty : String) (op : T → List T → Option (T × T)) (t : T) (put : T → List T) (u : T) : Option (T × List T) := if isTy ty t = true ∧ cln u = true then (op t [u]).bind (fMP3 put) else none
--ev
theorem fMP2_ev (ty op t put u) : fMP2 ty op t put u = if isTy ty t = true ∧ cln u = true then (op t [u]).bind (fMP3 put) else none := rfl
def fMP1 (ty : String) (op : T → List T → Option (T × T)) (da : DV) (env : List T) (p : T × (T → List T)) : Option (T × List T) := (da env).bind (fMP2 ty op p.1 p.2)
--ev
theorem fMP1_ev (ty op da env t put) : fMP1 ty op da env (t, put) = (da env).bind (fMP2 ty op t put) := rfl
--ev
theorem dMutP_ev (ty dp op da env) : dMutP ty dp op da env = (dp env).bind (fMP1 ty op da env) := by
  unfold dMutP fMP1 fMP2
  cases dp env with
  | none => rfl
  | some p =>
    simp only [Option.bind_some]
    cases da env with
    | none => rfl
    | some u =>
      simp only [Option.bind_some]
      split
      · cases op p.1 [u] <;> rfl
      · rfl
def fMB2 (ty : String) (op : T → List T → Option (T × T)) (t : T) (put : T → List T) (u : List T × List T) : Option (T × List T) := if isTy ty t = true ∧ pureTs u.1 = true then (op t u.1).bind (fMP3 put) else none
--ev
theorem fMB2_ev (ty op t put us e) : fMB2 ty op t put (us, e) = if isTy ty t = true ∧ pureTs us = true then (op t us).bind (fMP3 put) else none := rfl
def fMB1 (ty : String) (op : T → List T → Option (T × T)) (da : DA) (env : List T) (p : T × (T → List T)) : Option (T × List T) := (da (frzs env)).bind (fMB2 ty op p.1 p.2)
--ev
theorem fMB1_ev (ty op da env t put) : fMB1 ty op da env (t, put) = (da (frzs env)).bind (fMB2 ty op t put) := rfl
--ev
theorem dMutPB_ev (ty dp op da env) : dMutPB ty dp op da env = (dp env).bind (fMB1 ty op da env) := by
  unfold dMutPB fMB1 fMB2
  cases dp env with
  | none => rfl
  | some p =>
    simp only [Option.bind_some]
    cases da (frzs env) with
    | none => rfl
    | some u =>
      simp only [Option.bind_some]
      split
      · cases op p.1 u.1 <;> rfl
      · rfl
--ev
theorem z_min (i j : Int) : oMin (.lf (.int i)) (.lf (.int j)) = some (.lf (.int (if j < i then j else i))) := rfl
/-! lists of texts -/
def lS (o : Bool) (xs : List Str) : T := .nd o .lst (xs.map lfS)
--ev
theorem z_oklS (o xs) : okT (lS o xs) = some (lS o xs) := rfl
theorem frzs_lS (xs : List Str) : frzs (xs.map lfS) = xs.map lfS := by rw [frzs_map, List.map_map]; exact List.map_congr_left fun x _ => frz_lf _
--ev
theorem z_frzlS (o xs) : frz (lS o xs) = lS false xs := by unfold lS; rw [frz_nd, frzs_lS]
--ev
theorem z_clnlS (xs) : cln (lS false xs) = true := by rw [← z_frzlS true]; exact cln_frz _
--ev
theorem z_purelS (xs) : pureT (lS true xs) = true := by
  unfold lS; rw [pure_nd, pureTs_of]
  intro t ht
  obtain ⟨x, _, rfl⟩ := List.mem_map.mp ht
  exact pure_lf _
--ev
theorem z_itlS (o xs) : itemsL (lS o xs) = some (xs.map lfS) := by show some (frzs (xs.map lfS)) = _; rw [frzs_lS]
theorem any_S (x : Str) (ws : List Str) : (ws.map lfS).any (eqT (.str x)) = decide (x ∈ ws) := by
  induction ws with
  | nil => rfl
  | cons y ys ih =>
    rw [List.map_cons, List.any_cons, ih]
    show (y == x || _) = _
    by_cases h : y = x
    · subst h; simp
    · have h1 : ¬ x = y := fun e => h e.symm
      have h2 : (y == x) = false := by rw [beq_eq_false_iff_ne]; exact h
      rw [h2]; simp [h1]
theorem inB_lS (x : Str) (o : Bool) (ws : List Str) : inB (.lf (.str x)) (lS o ws) = some (decide (x ∈ ws)) := by
  show (if flatV (V.str x) = true ∧ (ws.map lfS).all flT = true then some ((ws.map lfS).any (eqT (.str x))) else none) = _
  rw [any_S, if_pos ⟨rfl, by rw [List.all_map, List.all_eq_true]; intro _ _; rfl⟩]
--ev
theorem z_inlS (x o ws) : oIn (.lf (.str x)) (lS o ws) = some (.lf (.bl (decide (x ∈ ws)))) := by unfold oIn; rw [inB_lS]; rfl
--ev
theorem z_ninlS (x o ws) : oNotIn (.lf (.str x)) (lS o ws) = some (.lf (.bl (!decide (x ∈ ws)))) := by unfold oNotIn; rw [inB_lS]; rfl
theorem strsOf_lS : ∀ ws : List Str, strsOf (ws.map lfS) = some ws
  | [] => rfl
  | w :: ws => by
    show (strsOf (ws.map lfS)).map _ = _
    rw [strsOf_lS ws]; rfl
theorem z_sortlS (o ws) (h : ws.length < 64) : oSortS (.nd o .lst (ws.map lfS)) = some (lS true (ssort ws)) := by
  show (strsOf (ws.map lfS)).bind _ = _
  rw [strsOf_lS, Option.bind_some, if_pos h]; rfl
--ev
theorem z_lfS (x) : lfS x = .lf (.str x) := rfl
--ev
theorem z_isiS (x) : oIsi "str" (.lf (.str x)) = some (.lf (.bl true)) := by simp [oIsi, tyN, isiB]
--ev
theorem z_isNS (x) : oIsN (.lf (.str x)) (.lf .non) = some (.lf (.bl false)) := rfl
--ev
theorem z_notNS (x) : oNotN (.lf (.str x)) (.lf .non) = some (.lf (.bl true)) := rfl
--ev
theorem z_oksl (o k ws) : okT (sl o k ws) = some (sl o k ws) := rfl
theorem tx_eq (x : Str) : (.lf (.str x) : T) = tx (cpl x) := rfl
theorem str_tx (l : List Nat) : (.lf (.str ⟨l.toArray⟩) : T) = tx l := rfl
/-! a triple into names -/
def fG3' (c : DG) (z : T) (e : List T) : Option (List T) := c z e
--ev
theorem fG3'_ev (c z e) : fG3' c z e = c z e := rfl
def fG3 (b c : DG) (y z : T) (e : List T) : Option (List T) := (b y e).bind (fG3' c z)
--ev
theorem fG3_ev (b c y z e) : fG3 b c y z e = (b y e).bind (fG3' c z) := rfl
--ev
theorem gT3_ev (a b c o x y z env) : gT3 a b c (.nd o .tup [x, y, z]) env = (a x env).bind (fG3 b c y z) := rfl
end Tr
namespace Tr
open PySem PySem.Spec PyProof.Rows L2 Pm
/-- a comprehension over things that are made of others -/
theorem lc_sel {α : Type} {dg : DG} {dc de : DE} {vs : List Nat} (env : List T) (c f : α → T) (p : α → Bool) : ∀ (xs : List α) (acc : List T), acc.length + xs.length ≤ 1000 →
    (∀ x ∈ xs, ∃ e e1, dg (c x) env = some e ∧ dc e = some (.lf (.bl (p x)), e1) ∧ (p x = true → ∃ e2, de e1 = some (f x, e2) ∧ wipeT e2 vs = env) ∧ (p x = false → wipeT e1 vs = env)) →
    dLr dg dc de vs (xs.map c) acc env = some (acc ++ (xs.filter p).map f, env)
  | [], acc, _, _ => by simp [dLr]
  | x :: xs, acc, hl, hs => by
    obtain ⟨e, e1, h1, h2, h3, h4⟩ := hs x (List.mem_cons_self ..)
    have hl' : acc.length + (xs.length + 1) ≤ 1000 := by simpa using hl
    have hlt : acc.length < sizeLine := small (by omega)
    rw [List.map_cons, dLr, h1, Option.bind_some]
    cases hp : p x with
    | true =>
      obtain ⟨e2, h5, h6⟩ := h3 hp
      rw [hp] at h2
      simp only [h2, h5, Option.bind_some, hlt, if_true, h6]
      rw [lc_sel env c f p xs (acc ++ [f x]) (by simp; omega) fun u hu => hs u (List.mem_cons_of_mem _ hu)]
      simp [hp]
    | false =>
      rw [hp] at h2
      simp only [h2, h4 hp]
      rw [lc_sel env c f p xs acc (by omega) fun u hu => hs u (List.mem_cons_of_mem _ hu)]
      simp [hp]
theorem lc_sel0 {α : Type} {dg : DG} {dc de : DE} {vs : List Nat} (env : List T) (c f : α → T) (p : α → Bool) (xs : List α) (hl : xs.length ≤ 1000)
    (hs : ∀ x ∈ xs, ∃ e e1, dg (c x) env = some e ∧ dc e = some (.lf (.bl (p x)), e1) ∧ (p x = true → ∃ e2, de e1 = some (f x, e2) ∧ wipeT e2 vs = env) ∧ (p x = false → wipeT e1 vs = env)) :
    dLr dg dc de vs (xs.map c) [] env = some ((xs.filter p).map f, env) := by
  have := lc_sel env c f p xs [] (by simpa using hl) hs
  rwa [List.nil_append] at this
/-- a loop over things that are made of others -/
theorem lp_of {α : Type} {dg : DG} {d : DS} (c : α → T) (xs : List α) (Iv : Nat → List T → Prop) (env : List T) (h0 : Iv 0 env)
    (hs : ∀ i (hi : i < xs.length) env, Iv i env → ∃ e', turn dg d (c xs[i]) env = some (.nx, e') ∧ Iv (i + 1) e') : ∃ env', dFr dg d (xs.map c) env = some (.nx, env') ∧ Iv xs.length env' := by
  have := lp (dg := dg) (d := d) (xs.map c) Iv env h0 fun i t env h k => by
    rw [List.getElem?_map] at h
    obtain ⟨u, hu, rfl⟩ := Option.map_eq_some_iff.mp h
    obtain ⟨hi, rfl⟩ := List.getElem?_eq_some_iff.mp hu
    obtain ⟨e', h1, h2⟩ := hs i hi env k
    exact ⟨e', .inl h1, h2⟩
  simpa using this
theorem oSome (x : Option Int) : oNotN (oV x) (.lf .non) = some (.lf (.bl x.isSome)) := by cases x <;> rfl
end Tr


set_option Elab.async false
set_option linter.all false
set_option autoImplicit false
set_option maxRecDepth 100000
set_option maxHeartbeats 4000000
/-! EV8: what D27, D28 bring, reckoned. -/
namespace Tr
open PySem PySem.Spec PyProof.Rows L2 Pm
def fMutN2 (i : Nat) (ts e : List T) (t : T) : Option (T × List T) := (mSetdN t ts).bind (fMut3 i e)
def fMutN1 (i : Nat) : List T × List T → Option (T × List T) := fun p => (gV i p.2).bind (fMutN2 i p.1 p.2)
def fMutN (i : Nat) (da : DA) (env : List T) (t0 : T) : Option (T × List T) := if isDN t0 = true then (da env).bind (fMutN1 i) else none
--ev
theorem fMutN2_ev (i ts e t) : fMutN2 i ts e t = (mSetdN t ts).bind (fMut3 i e) := rfl
--ev
theorem fMutN1_ev (i ts e) : fMutN1 i (ts, e) = (gV i e).bind (fMutN2 i ts e) := rfl
--ev
theorem fMutN_ev (i da env t0) : fMutN i da env t0 = if isDN t0 = true then (da env).bind (fMutN1 i) else none := rfl
--ev
theorem dMutN_ev (i da env) : dMutN i da env = (gV i env).bind (fMutN i da env) := by
  unfold dMutN fMutN fMutN1 fMutN2
  cases gV i env with
  | none => rfl
  | some t0 =>
    simp only [Option.bind_some]
    split
    · cases da env with
      | none => rfl
      | some p =>
        simp only [Option.bind_some]
        cases gV i p.2 with
        | none => rfl
        | some t => simp only [Option.bind_some]; cases mSetdN t p.1 <;> rfl
    · rfl
--ev
theorem z_sset (o xs) (h : xs.length < 63) : oSortSet (li o xs) = some (li true (setS xs)) := by
  show (intsOf (xs.map lfI)).bind _ = _
  rw [intsOf_li, Option.bind_some, if_pos h]; rfl
--ev
theorem z_tupli (o) (xs : List Int) : oTupL (li o xs) = some (.nd false .tup (xs.map lfI)) := by
  show (if clns (xs.map lfI) = true then some (T.nd false .tup (xs.map lfI)) else none) = _
  rw [clns_ints]; rfl
theorem ap_llB (xs : List (List Int)) (x : List Int) (h : xs.length ≤ 4000) : mAppend (ll true xs) [li true x] = some (.lf .non, ll true (xs ++ [x])) := by
  unfold ll mAppend
  have : xs.length < sizeLine := by rw [sizeLine_eq]; omega
  simp [this]
/-! what is followed in a list lent whole -/
def fLdW2 (i : Nat) (W : List Nat) (env : List T) (t : T) (p : Fl × List T) : Option (Fl × List T) := if okFl p.1 = true then some (p.1, (mixW 0 W env p.2).set i t) else none
def fLdW1 (i : Nat) (W : List Nat) (d : DS) (env : List T) (t : T) : Option (Fl × List T) := (d (env.set i (frz t))).bind (fLdW2 i W env t)
--ev
theorem fLdW2_ev (i W env t r e) : fLdW2 i W env t (r, e) = if okFl r = true then some (r, (mixW 0 W env e).set i t) else none := rfl
--ev
theorem fLdW1_ev (i W d env t) : fLdW1 i W d env t = (d (env.set i (frz t))).bind (fLdW2 i W env t) := rfl
--ev
theorem ldW_ev (i W d env) : ldW i W d env = env[i]?.bind (fLdW1 i W d env) := by
  unfold ldW fLdW1 fLdW2
  cases env[i]? with
  | none => rfl
  | some t =>
    simp only [Option.bind_some]
    cases d (env.set i (frz t)) <;> rfl
--ev
theorem z_okFlnx : okFl .nx = true := rfl
theorem mixW_cons (j W t0 ts0 t ts) : mixW j W (t0 :: ts0) (t :: ts) = (if j ∉ W ∧ cln t0 = true then t0 else pz t) :: mixW (j + 1) W ts0 ts := rfl
theorem mixW_nil (j W) (ts : List T) : mixW j W [] ts = ts.map pz := by cases ts <;> rfl
/-! what an expression hands out, changed -/
def fMutT3 (e : List T) (q : T × T) : Option (T × List T) := some (q.1, e)
def fMutT2 (ty : String) (op : T → List T → Option (T × T)) (t : T) (e : List T) (u : T) : Option (T × List T) := if isTy ty t = true ∧ cln u = true then (op t [u]).bind (fMutT3 e) else none
def fMutT1 (ty : String) (op : T → List T → Option (T × T)) (da : DV) : T × List T → Option (T × List T) := fun p => (da p.2).bind (fMutT2 ty op p.1 p.2)
--ev
theorem fMutT3_ev (e x y) : fMutT3 e (x, y) = some (x, e) := rfl
--ev
theorem fMutT2_ev (ty op t e u) : fMutT2 ty op t e u = if isTy ty t = true ∧ cln u = true then (op t [u]).bind (fMutT3 e) else none := rfl
--ev
theorem fMutT1_ev (ty op da t e) : fMutT1 ty op da (t, e) = (da e).bind (fMutT2 ty op t e) := rfl
--ev
theorem dMutT_ev (ty d op da env) : dMutT ty d op da env = (d env).bind (fMutT1 ty op da) := by
  unfold dMutT fMutT1 fMutT2
  cases d env with
  | none => rfl
  | some p =>
    simp only [Option.bind_some]
    cases da p.2 with
    | none => rfl
    | some u =>
      simp only [Option.bind_some]
      split
      · cases op p.1 [u] <;> rfl
      · rfl
end Tr


set_option Elab.async false
set_option linter.all false
set_option autoImplicit false
set_option maxRecDepth 100000
set_option maxHeartbeats 4000000
/-! EV9: what D31 brings, reckoned. -/
namespace Tr
open PySem PySem.Spec PyProof.Rows L2 Pm
def fSpl3 (env : List T) (u : T) : Option (T × List T) := some (u, env)
--ev
theorem fSpl3_ev (env u) : fSpl3 env u = some (u, env) := rfl
def fSpl2 (env : List T) (t u : T) : Option (T × List T) := match t, u with
  | .lf (.str a), .lf (.str b) => (oSplit a b).bind (fSpl3 env)
  | _, _ => none
--ev
theorem fSpl2_ev (env : List T) (a b : List Nat) : fSpl2 env (tx a) (tx b) = (oSplit ⟨a.toArray⟩ ⟨b.toArray⟩).bind (fSpl3 env) := rfl
def fSpl1 (ve : DV) (env : List T) (t : T) : Option (T × List T) := (ve env).bind (fSpl2 env t)
--ev
theorem fSpl1_ev (ve env t) : fSpl1 ve env t = (ve env).bind (fSpl2 env t) := rfl
--ev
theorem dSplit_ev (vo ve env) : dSplit vo ve env = (vo env).bind (fSpl1 ve env) := by
  unfold dSplit fSpl1 fSpl2
  cases vo env with
  | none => rfl
  | some t =>
    cases ve env with
    | none => cases t with
      | lf v => cases v <;> rfl
      | _ => rfl
    | some u =>
      cases t with
      | lf v => cases v with
        | str a => cases u with
          | lf w => cases w with
            | str b => simp only [Option.bind_some]; unfold fSpl3; cases oSplit a b <;> rfl
            | _ => rfl
          | _ => rfl
        | _ => rfl
      | _ => rfl
end Tr


set_option Elab.async false
set_option linter.all false
set_option autoImplicit false
set_option maxRecDepth 100000
set_option maxHeartbeats 4000000
/-! NLx: lists of texts. -/
namespace Pm
open PySem PySem.Spec PyProof.Rows L2 Tr

def NL (o : Bool) (ws : List (List Nat)) : T := .nd o .lst (ws.map tx)
theorem frz_NL (o ws) : frz (NL o ws) = NL false ws := by
  unfold NL
  rw [frz_nd, frzs_map, List.map_map]
  exact congrArg (T.nd false .lst) (List.map_congr_left fun x _ => z_frzst x)
theorem ok_NL (o ws) : okT (NL o ws) = some (NL o ws) := rfl
theorem len_NL (o ws) : oLen (NL o ws) = some (.lf (.int ((ws.length : Nat) : Int))) := by
  show some (T.lf (.int ((((ws.map tx).length : Nat) : Int)))) = _
  rw [List.length_map]
theorem ix_NL (ws : List (List Nat)) (i : Int) (h0 : 0 ≤ i) (h : i.toNat < ws.length) : ∃ w ∈ ws, oIx (NL false ws) (.lf (.int i)) = some (tx w) := by
  refine ⟨ws[i.toNat], List.getElem_mem h, ?_⟩
  show L2.atI (ws.map tx) i = _
  rw [atI_of h0 (by simpa using h), List.getElem?_map, List.getElem?_eq_getElem h]; rfl
theorem ok_nd3 (o k xs) : okT (.nd o k xs) = some (.nd o k xs) := rfl
theorem ty_NL (o ws) : isTy "list" (NL o ws) = true := rfl
theorem it_NL (o ws) : itemsL (NL o ws) = some (ws.map tx) := by
  show some (frzs (ws.map tx)) = _
  rw [frzs_map, List.map_map]
  exact congrArg some (List.map_congr_left fun x _ => z_frzst x)
theorem cln_NL (ws) : cln (NL false ws) = true := by rw [← frz_NL true]; exact cln_frz _
theorem pure_NL (ws) : pureT (NL true ws) = true := by
  unfold NL
  rw [pureT, pureTs_of]
  · rfl
  · intro t ht
    obtain ⟨x, _, rfl⟩ := List.mem_map.mp ht
    exact pure_lf _
theorem clns_tx (ws : List (List Nat)) : clns (ws.map tx) = true := by
  have := cln_NL ws
  unfold NL at this
  rwa [cln_nd] at this
theorem ext_NL (a b : List (List Nat)) (o) (h : a.length + b.length ≤ 1000) : mExtend (NL true a) [NL o b] = some (.lf .non, NL true (a ++ b)) := by
  have := small h
  show (if (a.map tx).length + (b.map tx).length ≤ sizeLine then some (T.lf .non, T.nd true .lst (a.map tx ++ b.map tx)) else none) = _
  rw [if_pos (by simp; omega), ← List.map_append]; rfl
theorem cat_NL (a b : List (List Nat)) (o o') (h : a.length + b.length ≤ 1000) : oCat (NL o a) (NL o' b) = some (NL true (a ++ b)) := by
  have := small h
  show (if clns (a.map tx) = true ∧ clns (b.map tx) = true ∧ (a.map tx).length + (b.map tx).length ≤ sizeLine then some (T.nd true .lst (a.map tx ++ b.map tx)) else none) = _
  rw [if_pos ⟨clns_tx a, clns_tx b, by simp; omega⟩, ← List.map_append]; rfl
theorem nl1 (o a) : (.nd o .lst [tx a] : T) = NL o [a] := rfl
theorem isi_NL (o ws) : oIsi "list" (NL o ws) = some (.lf (.bl true)) := isi_list o _
end Pm


set_option Elab.async false
set_option linter.all false
set_option autoImplicit false
set_option maxRecDepth 100000
set_option maxHeartbeats 4000000
/-! EV10: what D32 brings, reckoned. -/
namespace Tr
open PySem PySem.Spec PyProof.Rows L2 Pm
--ev
theorem z_bno {α β : Type} (f : α → Option β) : (none : Option α).bind f = none := rfl
def fXs (ax bx : DX) (env : List T) : Option (Fl × List T) → Option (Str × List T)
  | some (.nx, e) => bx e
  | some _ => none
  | none => ax env
--ev
theorem fXs_nx (ax bx env e) : fXs ax bx env (some (.nx, e)) = bx e := rfl
--ev
theorem fXs_rt (ax bx env t e) : fXs ax bx env (some (.rt t, e)) = none := rfl
--ev
theorem fXs_no (ax bx env) : fXs ax bx env none = ax env := rfl
--ev
theorem xSeq_ev (a ax bx env) : xSeq a ax bx env = fXs ax bx env (a env) := by
  unfold xSeq fXs
  cases a env with
  | none => rfl
  | some p => obtain ⟨r, e⟩ := p; cases r <;> rfl
def fXif (a b : DX) : T × List T → Option (Str × List T)
  | (.lf (.bl true), e) => a e
  | (.lf (.bl false), e) => b e
  | _ => none
--ev
theorem fXif_ev (a b x e) : fXif a b (.lf (.bl x), e) = if x = true then a e else b e := by cases x <;> rfl
--ev
theorem xIf_ev (c a b env) : xIf c a b env = (c env).bind (fXif a b) := by
  unfold xIf
  cases h : c env with
  | none => rfl
  | some p => obtain ⟨t, e⟩ := p; rw [Option.bind_some]; unfold fXif; split <;> simp_all
--ev
theorem xRz_ev (c env) : xRz c env = some (c, env) := rfl
--ev
theorem xNo_ev (env) : xNo env = none := rfl
def fXc2 (e : List T) (c : Str) : Option (Str × List T) := some (c, e)
--ev
theorem fXc2_ev (e c) : fXc2 e c = some (c, e) := rfl
def fXc (g : FX) (dv : List V) : List T × List T → Option (Str × List T) := fun p => (g (p.1 ++ dv.map .lf)).bind (fXc2 p.2)
--ev
theorem fXc_ev (g dv ts e) : fXc g dv (ts, e) = (g (ts ++ dv.map .lf)).bind (fXc2 e) := rfl
--ev
theorem xCall_ev (g dv da env) : xCall g dv da env = (da env).bind (fXc g dv) := by
  unfold xCall fXc
  cases da env with
  | none => rfl
  | some p => simp only [Option.bind_some]; cases g (p.1 ++ dv.map .lf) <;> rfl
def fXfor (dg : DG) (d : DS) (dx : DX) : List T × List T → Option (Str × List T) := fun p => dFrX dg d dx p.1 p.2
--ev
theorem fXfor_ev (dg d dx its e) : fXfor dg d dx (its, e) = dFrX dg d dx its e := rfl
--ev
theorem xFor_ev (di dg d dx env) : xFor di dg d dx env = (di env).bind (fXfor dg d dx) := rfl
def fXfun : Str × List T → Option Str := fun p => some p.1
--ev
theorem fXfun_ev (c e) : fXfun (c, e) = some c := rfl
--ev
theorem dFunX_ev (keep n d ts) : dFunX keep n d ts = if ts.length = keep.length then (d (ts ++ List.replicate (n - keep.length) .no)).bind fXfun else none := by
  unfold dFunX fXfun
  split
  · cases d (ts ++ List.replicate (n - keep.length) .no) <;> rfl
  · rfl
def fTry2 (i : Nat) (e : List T) (v : V) : Option (Fl × List T) := if i < e.length ∧ sc v = true then some (.rt (.lf v), e.set i .no) else none
--ev
theorem fTry2_bl (i e b) : fTry2 i e (.bl b) = if i < e.length then some (.rt (.lf (.bl b)), e.set i .no) else none := by
  unfold fTry2
  by_cases h : i < e.length <;> simp [h, sc]
--ev
theorem fTry2_str (i e b) : fTry2 i e (.str b) = if i < e.length then some (.rt (.lf (.str b)), e.set i .no) else none := by
  unfold fTry2
  by_cases h : i < e.length <;> simp [h, sc]
def fTry1 (i : Nat) (sx : Str → Option V) : Str × List T → Option (Fl × List T) := fun p => (sx p.1).bind (fTry2 i p.2)
--ev
theorem fTry1_ev (i sx c e) : fTry1 i sx (c, e) = (sx c).bind (fTry2 i e) := rfl
def fTry (i : Nat) (sx : Str → Option V) (dx : DX) (env : List T) : Option (Fl × List T) → Option (Fl × List T)
  | some p => some p
  | none => (dx env).bind (fTry1 i sx)
--ev
theorem fTry_so (i sx dx env p) : fTry i sx dx env (some p) = some p := rfl
--ev
theorem fTry_no (i sx dx env) : fTry i sx dx env none = (dx env).bind (fTry1 i sx) := rfl
--ev
theorem dTry_ev (i sx d dx env) : dTry i sx d dx env = fTry i sx dx env (d env) := by
  unfold dTry fTry
  cases d env with
  | some p => rfl
  | none =>
    simp only
    cases dx env with
    | none => rfl
    | some p =>
      obtain ⟨c, e⟩ := p
      simp only [Option.bind_some, fTry1]
      cases sx c with
      | none => rfl
      | some v => rfl
def fFre : T × List T → Option (T × List T) := fun p => some (frz p.1, p.2)
--ev
theorem fFre_ev (t e) : fFre (t, e) = some (frz t, e) := rfl
--ev
theorem fre_ev (d env) : fre d env = (d env).bind fFre := by
  unfold fre fFre
  cases d env <;> rfl
/-- a walk that raises in its turn k -/
theorem lpX {dg : DG} {d : DS} {dx : DX} {c : Str} (Iv : Nat → List T → Prop) : ∀ (its : List T) (k : Nat) (env : List T), k < its.length → Iv 0 env →
    (∀ i t env, i < k → its[i]? = some t → Iv i env → ∃ e e2, dg t env = some e ∧ d e = some (.nx, e2) ∧ Iv (i + 1) e2) →
    (∀ t env, its[k]? = some t → Iv k env → ∃ e e', dg t env = some e ∧ d e = none ∧ dx e = some (c, e')) →
    dFr dg d its env = none ∧ ∃ e', dFrX dg d dx its env = some (c, e')
  | [], k, env, hk, _, _, _ => absurd hk (by simp)
  | t :: ts, 0, env, _, h0, _, hl => by
    obtain ⟨e, e', h1, h2, h3⟩ := hl t env rfl h0
    rw [dFr, dFrX]
    simp only [h1, h2, h3]
    exact ⟨trivial, _, rfl⟩
  | t :: ts, k + 1, env, hk, h0, hs, hl => by
    obtain ⟨e, e2, h1, h2, h3⟩ := hs 0 t env (by omega) rfl h0
    have ih := lpX (dg := dg) (d := d) (dx := dx) (c := c) (fun i => Iv (i + 1)) ts k e2 (by simpa using hk) h3 (fun i u v hi hu => hs (i + 1) u v (by omega) (by simpa using hu)) (fun u v hu => hl u v (by simpa using hu))
    rw [dFr, dFrX]
    simp only [h1, h2]
    exact ih
end Tr


set_option Elab.async false
set_option linter.all false
set_option autoImplicit false
set_option maxRecDepth 100000
set_option maxHeartbeats 4000000
/-! EV11: what D35 brings, reckoned. -/
namespace Tr
open PySem PySem.Spec PyProof.Rows L2 Pm
def fForE (dg : DG) (d : DS) : T × List T → Option (Fl × List T)
  | (.nd true .lst its, e) => dFr dg d its e
  | _ => none
--ev
theorem fForE_ev (dg d its e) : fForE dg d (.nd true .lst its, e) = dFr dg d its e := rfl
--ev
theorem dForE_ev (de dg d env) : dForE de dg d env = (de env).bind (fForE dg d) := by
  unfold dForE
  cases h : de env with
  | none => rfl
  | some p => obtain ⟨t, e⟩ := p; rw [Option.bind_some]; unfold fForE; split <;> simp_all
end Tr


set_option Elab.async false
set_option linter.all false
set_option autoImplicit false
set_option maxRecDepth 100000
set_option maxHeartbeats 4000000
/-! KA: what k01 draws. -/
namespace Pm
open PySem PySem.Spec PyProof.Rows L2 Tr Wk
local macro_rules | `(tactic| exists $es,*) => do { let ls ← es.getElems.mapM fun e => `(Lean.Parser.Tactic.simpLemma| $e:term); `(tactic| simp -implicitDefEqProofs (disch := (first | assumption | omega | decide | (simp only [List.length_cons, List.length_nil, List.length_append, List.length_map, Tr.rgI_len]; omega) | (simp only [List.length_cons, List.length_nil, List.length_append, List.length_map, Int.toNat_natCast] at *; omega))) only [Tr.okT_lf, Tr.okT_nd, Tr.okT_li, Tr.okT_ll, Tr.okT_dk, Tr.okT_mks, Tr.okT_mk1, Tr.okT_mch, Tr.okT_scr, Tr.okT_tp, Tr.okO_some, Tr.gV_ev, Tr.gC_ev, Tr.gG_ev, Tr.fM_ev, Tr.fS_ev, Tr.gM_ev, Tr.gS_ev, Tr.fP_ev, Tr.fQ_ev, Tr.vr_ev, Tr.fRe_ev, Tr.re_ev, Tr.fO1_ev, Tr.o1V_ev, Tr.o1_ev, Tr.fO2V_ev, Tr.o2V_ev, Tr.fO2v'_ev, Tr.fO2v_ev, Tr.o2v_ev, Tr.fO2o'_ev, Tr.fO2o_ev, Tr.o2o_ev, Tr.fO2c'_ev, Tr.fO2c_ev, Tr.o2c_ev, Tr.fO2n''_ev, Tr.fO2n'_ev, Tr.fO2n_ev, Tr.o2n_ev, Tr.fAnd_ev, Tr.fOr_ev, Tr.dAnd_ev, Tr.dOr_ev, Tr.ite_BB, Tr.ite_decF, Tr.ite_Tdec, Tr.z_cast, Tr.z_ndec, Tr.ite_TF, Tr.ite_FT, Tr.bind_ite, Tr.aNil_ev, Tr.fCons'_ev, Tr.fCons_ev, Tr.aCons_ev, Tr.fCall'_ev, Tr.fCall_ev, Tr.dCall_ev, Tr.wb_nil, Tr.wb_none, Tr.fWb_ev, Tr.wb_some, Tr.fMeth'_ev, Tr.fMeth_ev, Tr.dMeth_ev, Tr.fMake'_ev, Tr.fMake_ev, Tr.dMake_ev, Tr.fSeq_nx, Tr.fSeq_rt, Tr.fSeq_bk, Tr.fSeq_ct, Tr.dSeq_ev, Tr.fIf_ev, Tr.dIf_ev, Tr.fSet_ev, Tr.dSet_ev, Tr.fRet_ev, Tr.dRet_ev, Tr.fEx_ev, Tr.dEx_ev, Tr.dRetN_ev, Tr.dNx_ev, Tr.dBk_ev, Tr.dCt_ev, Tr.dFail_ev, Tr.fPut''_ev, Tr.fPut'_ev, Tr.fPut1_ev, Tr.fPut_ev, Tr.dPut_ev, Tr.fMut3_ev, Tr.fMut2_ev, Tr.fMut1_ev, Tr.fMut_ev, Tr.dMut_ev, Tr.fLst_ev, Tr.fTup_ev, Tr.dLst_ev, Tr.dTup_ev, Tr.dDic_ev, Tr.fBw_ev, Tr.bw_ev, Tr.fFz_ev, Tr.fz_ev, Tr.fAug''_ev, Tr.fAug'_ev, Tr.fAug_ev, Tr.dAug_ev, Tr.z_ex, Tr.z_exT, Tr.fRng_nat, Tr.dRng_ev, Tr.fIt'_ev, Tr.fIt_ev, Tr.dIt_ev, Tr.fFor_ev, Tr.dFor_ev, Tr.gN_ev, Tr.fG_ev, Tr.gT2_ev, Tr.gT2_mk1, Tr.dFr_nil, Tr.turn_ev, Tr.fFr_nx, Tr.fFr_ct, Tr.fFr_bk, Tr.fFr_rt, Tr.dFr_cons, Tr.fLc'_ev, Tr.fLc_ev, Tr.dLc_ev, Tr.dLr_nil, Tr.wipeT_nil, Tr.wipeT_cons, Tr.backT_nil, Tr.backT_cons, Tr.cleanAt_nil, Tr.cleanAt_cons, Tr.fFun_rt, Tr.fFun_nx, Tr.dFun_ev, Tr.outs_cons, Tr.outs_nil, Tr.frzs_nil, Tr.frzs_cons, Tr.z_frz1, Tr.z_frz2, Tr.z_frz3, Tr.z_frz4, Tr.z_frz5, Tr.z_frz6, Tr.z_frz7, Tr.z_frz8, Tr.z_frz9, Tr.z_frz10, Tr.z_frz11, Tr.z_cln1, Tr.z_cln2, Tr.z_cln3, Tr.z_cln4, Tr.z_cln5, Tr.z_cln6, Tr.z_cln7, Tr.z_cln8, Tr.z_cln9, Tr.z_cln10, Tr.z_clns1, Tr.z_clns2, Tr.z_clns3, Tr.z_pure1, Tr.z_pure2, Tr.z_pure3, Tr.z_pure4, Tr.z_pure5, Tr.z_pure6, Tr.z_pure7, Tr.z_lfI, Tr.z_li, Tr.z_add, Tr.z_sub, Tr.z_mulr, Tr.z_mod, Tr.z_div, Tr.z_lt, Tr.z_le, Tr.z_gt, Tr.z_ge, Tr.z_eq, Tr.z_ne, Tr.z_neg, Tr.z_eqli, Tr.z_neli, Tr.z_eqnil, Tr.z_nenil, Tr.z_inli, Tr.z_ninli, Tr.z_indk, Tr.z_nindk, Tr.z_ll, Tr.z_mks, Tr.z_nil, Tr.z_appll, Tr.z_int1, Tr.z_int2, Tr.z_len1, Tr.z_len2, Tr.z_len3, Tr.z_len4, Tr.z_len5, Tr.z_len6, Tr.z_len7, Tr.z_not, Tr.z_isi1, Tr.z_isi2, Tr.z_isi3, Tr.z_isi4, Tr.z_isi5, Tr.z_isi6, Tr.z_list1, Tr.z_sort1, Tr.z_sort2, Tr.z_app1, Tr.z_app2, Tr.z_pop1, Tr.z_clr1, Tr.z_clr2, Tr.z_rev1, Tr.z_ext1, Tr.z_cat1, Tr.z_it1, Tr.z_it2, Tr.z_it3, Tr.z_it4, Tr.z_ty1, Tr.z_ty2, Tr.z_ty3, Tr.z_ty4, Tr.z_fst, Tr.z_fma, Tr.z_ffa, Tr.z_ins1, Tr.z_ins2, Tr.z_ins3, Tr.z_ins4, Tr.z_ins5, Tr.z_ixli, Tr.z_ixll, Tr.z_ixlast, Tr.z_setdk, Tr.fDic1_ev, Tr.fDic1'_ev, Tr.dDic1_ev, Tr.fLRg_nat, Tr.dLRg_ev, Tr.z_len8, Tr.z_bind_some, Tr.z_get0, Tr.z_gets, Tr.z_getD0, Tr.z_getDs, Tr.z_set0, Tr.z_sets, Tr.z_app, Tr.z_nil_app, Tr.z_app_nil, Tr.z_map0, Tr.z_mapc, Tr.z_rep0, Tr.z_reps, Tr.z_lenc, Tr.z_lenn, Tr.z_bno, Tr.fXs_nx, Tr.fXs_rt, Tr.fXs_no, Tr.xSeq_ev, Tr.fXif_ev, Tr.xIf_ev, Tr.xRz_ev, Tr.xNo_ev, Tr.fXc2_ev, Tr.fXc_ev, Tr.xCall_ev, Tr.fXfor_ev, Tr.xFor_ev, Tr.fXfun_ev, Tr.dFunX_ev, Tr.fTry2_bl, Tr.fTry2_str, Tr.fTry1_ev, Tr.fTry_so, Tr.fTry_no, Tr.dTry_ev, Tr.fFre_ev, Tr.fre_ev, Tr.fForE_ev, Tr.dForE_ev, Tr.z_c0, Tr.z_c1, Tr.z_c2, Tr.z_c3, Tr.z_okoV, Tr.z_okrk, Tr.z_okrl, Tr.z_frzoV, Tr.z_clnoV, Tr.z_pureoV, Tr.z_frzrk, Tr.z_clnrk, Tr.z_frzrl, Tr.z_clnrl, Tr.z_ixrl, Tr.z_lenrl, Tr.z_isirl, Tr.z_tyrl, Tr.z_clrrl, Tr.z_oVs, Tr.z_oVn, Tr.z_rks, Tr.z_rkn, Tr.z_ixt0, Tr.z_ixt1, Tr.z_isN1, Tr.z_isN2, Tr.z_isN3, Tr.z_notN1, Tr.z_notN2, Tr.z_notN3, Tr.z_isN4, Tr.z_notN4, Tr.z_isN5, Tr.z_notN5, Tr.fCh3_ev, Tr.fCh2_ev, Tr.fCh1_ev, Tr.z_ch, Tr.z_okdls, Tr.z_frzdls, Tr.z_clndls, Tr.z_ixdls, Tr.z_indls, Tr.z_okdds, Tr.z_frzdds, Tr.z_clndds, Tr.z_ixdds, Tr.fAsg'_ev, Tr.fAsg_ev, Tr.dAsg_ev, Tr.fBwS_ev, Tr.bwS_ev, Tr.fPt_ev, Tr.ptT_no, Tr.ptT_so, Tr.fSl2_ev, Tr.fSl1_ev, Tr.fSl_ev, Tr.dSl_ev, Tr.z_slli, Tr.z_cutTail, Tr.z_cutInit, Tr.z_okst, Tr.z_frzst, Tr.z_clnst, Tr.z_purest, Tr.z_addst, Tr.z_lenst, Tr.z_inst1, Tr.z_ninst1, Tr.z_ixst, Tr.eqL_self, Tr.eqL_nn, Tr.eqL_nc, Tr.eqL_cn, Tr.eqL_cc, Tr.z_eqst, Tr.z_nest, Tr.z_insl, Tr.z_ninsl, Tr.z_sq1, Tr.z_sq2, Tr.z_sq3, Tr.z_itst, Tr.z_isist, Tr.z_slst, Tr.z_cutOne, Tr.lit_all, Tr.lit_not, Tr.lit_both, Tr.lit_either, Tr.lit_somenext, Tr.lit_eachnext, Tr.lit_sometill, Tr.lit_eachtill, Tr.lit_someever, Tr.lit_eachever, Tr.lit_somealways, Tr.lit_eachalways, Tr.lit_mark, Tr.lit_loop, Tr.lit_rank, Tr.lit_walk, Tr.lit_shut, Tr.lit_out, Tr.lit_here, Tr.lit_dead, Tr.lit_plain, Tr.lit_step, Tr.lit_none, Tr.lit_fair, Tr.lit_answer, Tr.lit_p, Tr.lit_wet, Tr.lit_darkness, Tr.lit_x, Tr.lit_q, Tr.lit_empty, Tr.lit_in, Tr.lit_letters, Tr.z_kept, Tr.z_catX12, Tr.z_catT12, Tr.z_ixt2, Tr.z_frzsg, Tr.z_clnsg, Tr.z_oksg, Tr.z_oktl, Tr.z_frztl, Tr.z_clntl, Tr.z_insT_told, Tr.z_insT_joint, Tr.z_insT_over_walks, Tr.z_insT_contrary, Tr.z_insT_good, Tr.z_insT_some_next, Tr.z_insT_some_till, Tr.z_insT_each_till, Tr.z_fldT_machine, Tr.z_fldT_every, Tr.z_fldT_live, Tr.fEls_s, Tr.fEls_n, Tr.elsE_ev, Tr.fOO_s, Tr.fOO_n, Tr.oOr_ev, Tr.fMO_s, Tr.fMO_n, Tr.mOr_ev, Tr.oIs1_nd, Tr.dNew_ev, Tr.fFzk_ev, Tr.fzk_ev, Tr.fDfz_ev, Tr.dfz_ev, Tr.z_eqbl, Tr.z_nebl, Tr.z_beqtt, Tr.z_beqff, Tr.z_beqtf, Tr.z_beqft, Tr.z_isNll, Tr.z_isNli, Tr.z_catnd, Tr.dZip_ev, Tr.fZip_ev, Tr.fForZ_ev, Tr.fForZ1_ev, Tr.fForZ2_ev, Tr.dForZ_ev, Tr.fFzS_ev, Tr.fzS_ev, Tr.fRevR_nat, Tr.dRevR_ev, Tr.f3V2_ev, Tr.f3V1_ev, Tr.o3V_ev, Tr.fGetE2_ev, Tr.fGetE1_ev, Tr.dGetE_ev, Tr.z_sllo, Tr.dDisp_ev, Tr.fPutP4_ev, Tr.fPutP3_ev, Tr.fPutP2_ev, Tr.fPutP1_ev, Tr.dPutP_ev, Tr.dpV_ev, Tr.fDpV_ev, Tr.fJoin2_ev, Tr.fJoin1_ev, Tr.dJoin_ev, Tr.fTupO_ev, Tr.dTupO_ev, Tr.fLkK1_ev, Tr.lkK_ev, Tr.fDpIx_ev, Tr.dpIx_ev, Tr.fDpIx2_ll, Tr.z_setll, Tr.fDpIx2_t1, Tr.fDpIx2_t0, Tr.fMP3_ev, Tr.fMP2_ev, Tr.fMP1_ev, Tr.dMutP_ev, Tr.fMB2_ev, Tr.fMB1_ev, Tr.dMutPB_ev, Tr.z_min, Tr.z_oklS, Tr.z_frzlS, Tr.z_clnlS, Tr.z_purelS, Tr.z_itlS, Tr.z_inlS, Tr.z_ninlS, Tr.z_lfS, Tr.z_isiS, Tr.z_isNS, Tr.z_notNS, Tr.z_oksl, Tr.fG3'_ev, Tr.fG3_ev, Tr.gT3_ev, Tr.fMutN2_ev, Tr.fMutN1_ev, Tr.fMutN_ev, Tr.dMutN_ev, Tr.z_sset, Tr.z_tupli, Tr.fLdW2_ev, Tr.fLdW1_ev, Tr.ldW_ev, Tr.z_okFlnx, Tr.fMutT3_ev, Tr.fMutT2_ev, Tr.fMutT1_ev, Tr.dMutT_ev, Tr.fSpl3_ev, Tr.fSpl2_ev, Tr.fSpl1_ev, Tr.dSplit_ev, ↓reduceIte, ite_true, ite_false, Nat.reduceAdd, Nat.reduceSub, Nat.reduceLT, Nat.reduceLeDiff, Nat.zero_add, Nat.lt_add_one, Nat.zero_lt_succ, decide_true, decide_false, decide_eq_true_eq, decide_eq_false_iff_not, Bool.not_eq_true, Bool.not_eq_false, Bool.not_true, Bool.not_false, Bool.not_eq_true', Bool.and_true, Bool.true_and, Bool.and_self, Bool.and_eq_true, Bool.or_eq_true, not_true_eq_false, not_false_eq_true, eq_self, and_self, and_true, true_and, false_and, and_false, or_true, true_or, or_false, false_or, reduceCtorEq, Bool.false_eq_true, Int.toNat_natCast, Int.reduceToNat, Int.reduceEq, Int.reduceLT, Int.reduceLE, Int.reduceNeg, Int.reduceAdd, Int.reduceSub, Int.reduceMul, List.length_map, Bool.not_not, Bool.not_eq_eq_eq_not, Decidable.not_not, Nat.reduceEqDiff, Bool.false_and, Bool.and_false, Option.isSome_some, Option.isSome_none, Option.isNone_some, Option.isNone_none, $ls,*]) }

theorem p40x : ∃ P : Int, 0 < P ∧ oPow (.lf (.int 10)) (.lf (.int 40)) = some (.lf (.int P)) := by
  refine ⟨10 ^ (40 : Int).toNat, Int.pow_pos (by omega), ?_⟩
  unfold oPow oI
  rfl
noncomputable def P40 : Int := Classical.choose p40x
theorem p40 : 0 < P40 ∧ oPow (.lf (.int 10)) (.lf (.int 40)) = some (.lf (.int P40)) := Classical.choose_spec p40x
theorem mixed_ok (c k : Int) (h : 0 ≤ k ∧ k ≤ 1000) : ∃ r : Int, m_law_mixed [.lf (.int c), .lf (.int k)] = some (.lf (.int r), [.lf (.int c), .lf (.int k)]) := by
  have pw := p40.2
  have pp := p40.1
  generalize P40 = P at *
  have m1 : ∀ i : Int, oMul (.lf (.int i)) (.lf (.int 7046029254386353131)) = some (.lf (.int (i * 7046029254386353131))) := fun i => I_mul (by constructor <;> decide)
  have m2 : oMul (.lf (.int 2)) (.lf (.int k)) = some (.lf (.int (2 * k))) := z_mulr _ _ (by omega)
  have m3 : oMul (.lf (.int (c % P))) (.lf (.int (2 * k + 3))) = some (.lf (.int (c % P * (2 * k + 3)))) := z_mulr _ _ (by omega)
  have c0 := Int.emod_nonneg c (b := 97) (by omega)
  have c1 := Int.emod_lt_of_pos c (b := 97) (by omega)
  have m4 : oMul (.lf (.int ((k + 1) * 7046029254386353131))) (.lf (.int (1 + c % 97))) = some (.lf (.int ((k + 1) * 7046029254386353131 * (1 + c % 97)))) := z_mulr _ _ (by omega)
  refine ⟨c % P * (2 * k + 3) + (k + 1) * 7046029254386353131 * (1 + c % 97), ?_⟩
  exists m_law_mixed, bn_law_mixed, pw, pp, m1, m2, m3, m4
theorem cellA (ns : List Int) (k : Int) (h : 0 ≤ k) : m_law_cell_at [scrT ns, .lf (.int k)] = some (.lf (.int (cell ns k.toNat)), [scrT ns, .lf (.int k)]) := by
  have := cell_at ns k.toNat
  rwa [show ((k.toNat : Nat) : Int) = k by omega] at this
theorem law_some_ok (c : Int) (n : Nat) (hn0 : 0 < n) (hn : n ≤ 60) : ∃ xs, Okl n xs ∧ ∃ a b, m_law_some [.lf (.int c), .lf (.int (n : Int))] = some (li true xs, [a, b]) := by
  have np : (0 : Int) < (n : Int) := by omega
  have r2 : ∀ e : List T, fRng ((.lf (.int (n : Int)) : T), e) = some (rngT n, e) := fun e => by rw [fRng_int _ _ (by omega), Int.toNat_natCast]
  obtain ⟨env', h1, xs, r, x5, hP, rfl⟩ := lp_rng (dg := gN 5) (d := l_law_some_1) n (fun i env => ∃ (xs : List Int) (r : Int) (x5 : T), Pk n (c / 4 % (n : Int)) i xs ∧ env = [.lf (.int c), .lf (.int (n : Int)), .lf (.int r), .lf (.int (c / 4 % (n : Int))), li true xs, x5]) [.lf (.int c), .lf (.int (n : Int)), .lf (.int (c / 4)), .lf (.int (c / 4 % (n : Int))), li true [], .no] ⟨[], _, _, ⟨by simp, List.Pairwise.nil, fun _ h => by cases h⟩, rfl⟩ (by
    rintro i hi env ⟨xs, r, x5, hP, rfl⟩
    have := hP.le
    generalize c / 4 % (n : Int) = s at *
    by_cases hr : r % 2 = 1
    · refine ⟨_, ?_, xs ++ [(s + i) % n], r / 2, .lf (.int (i : Int)), hP.snoc hi, rfl⟩
      exists l_law_some_1, hr, np
    · refine ⟨_, ?_, xs, r / 2, .lf (.int (i : Int)), hP.up, rfl⟩
      exists l_law_some_1, hr, np)
  have ok : Okl n xs := ⟨hP.nd, by have := hP.le; omega, fun x hx => by
    obtain ⟨j, _, rfl⟩ := hP.fr x hx
    exact ⟨Int.emod_nonneg _ (by omega), Int.emod_lt_of_pos _ np⟩⟩
  by_cases h3 : c % 4 = 1
  · refine ⟨xs.reverse, ⟨(List.reverse_perm xs).nodup_iff.mpr ok.nd, by rw [List.length_reverse]; exact ok.le, fun x hx => ok.bd x (List.mem_reverse.mp hx)⟩, ?_⟩
    exists m_law_some, bn_law_some, np, r2, h1, h3
    exact ⟨_, _, rfl⟩
  · refine ⟨xs, ok, ?_⟩
    exists m_law_some, bn_law_some, np, r2, h1, h3
    exact ⟨_, _, rfl⟩
theorem law_steps_ok (ns : List Int) (n : Nat) (hn0 : 0 < n) (hn : n ≤ 60) : ∃ rs, Stps n rs ∧ ∃ a b, m_law_steps [scrT ns, .lf (.int (n : Int))] = some (ll true rs, [a, b]) := by
  have np : (0 : Int) < (n : Int) := by omega
  have r2 : ∀ e : List T, fRng ((.lf (.int (n : Int)) : T), e) = some (rngT n, e) := fun e => by rw [fRng_int _ _ (by omega), Int.toNat_natCast]
  have fS : frz (scrT ns) = scrT ns := frz_scr ns
  have oS : okT (scrT ns) = some (scrT ns) := rfl
  obtain ⟨env', h1, rs, x3, x4, x5, hl, ho, rfl⟩ := lp_rng (dg := gN 3) (d := l_law_steps_1) n (fun i env => ∃ (rs : List (List Int)) (x3 x4 x5 : T), rs.length = i ∧ (∀ r ∈ rs, Okl n r ∧ r ≠ []) ∧ env = [scrT ns, .lf (.int (n : Int)), ll true rs, x3, x4, x5]) [scrT ns, .lf (.int (n : Int)), ll true [], .no, .no, .no] ⟨[], _, _, _, rfl, (fun _ h => absurd h List.not_mem_nil), rfl⟩ (by
    rintro i hi env ⟨rs, x3, x4, x5, hl, ho, rfl⟩
    have i0 := Int.emod_nonneg (i : Int) (b := 40) (by omega)
    have ca := cellA ns (3 + (i : Int) % 40) (by omega)
    generalize cell ns (3 + (i : Int) % 40).toNat = c at ca
    obtain ⟨m, mx⟩ := mixed_ok c (i : Int) (by omega)
    obtain ⟨xs, ok, a, b, sm⟩ := law_some_ok m n hn0 hn
    generalize scrT ns = S at *
    by_cases hx : xs = []
    · subst hx
      have v0 := Int.emod_nonneg m (b := (n : Int)) (by omega)
      have v1 := Int.emod_lt_of_pos m np
      have ap := z_app2 rs [m % (n : Int)] (by omega)
      have l1 : (.nd true .lst [.lf (.int (m % (n : Int)))] : T) = li true [m % (n : Int)] := rfl
      refine ⟨[S, .lf (.int (n : Int)), ll true (rs ++ [[m % (n : Int)]]), .no, .lf (.int m), .no], ?_, rs ++ [[m % (n : Int)]], _, _, _, by simp [hl], fun r hr => ?_, rfl⟩
      · exists l_law_steps_1, ca, mx, sm, np, l1, ap, fS, oS
      · rcases List.mem_append.mp hr with hr | hr
        · exact ho r hr
        · rw [List.mem_singleton.mp hr]
          exact ⟨⟨by simp, by simp, fun x hx => by rw [List.mem_singleton.mp hx]; exact ⟨v0, v1⟩⟩, by simp⟩
    · have ap := z_app2 rs xs (by omega)
      refine ⟨[S, .lf (.int (n : Int)), ll true (rs ++ [xs]), .no, .lf (.int m), .no], ?_, rs ++ [xs], _, _, _, by simp [hl], fun r hr => ?_, rfl⟩
      · exists l_law_steps_1, ca, mx, sm, np, hx, ap, fS, oS
      · rcases List.mem_append.mp hr with hr | hr
        · exact ho r hr
        · rw [List.mem_singleton.mp hr]
          exact ⟨ok, hx⟩)
  refine ⟨rs, ⟨hl, hn0, hn, fun r hr => (ho r hr).1, fun r hr => (ho r hr).2⟩, ?_⟩
  have lh : ll true [] = li true [] := rfl
  rw [lh] at h1
  have okR : okT (ll true rs) = some (ll true rs) := rfl
  generalize rngT n = I1 at *
  generalize ll true rs = RR at *
  generalize scrT ns = S at *
  exists m_law_steps, bn_law_steps, r2, h1, okR
  exact ⟨_, _, rfl⟩
end Pm


set_option Elab.async false
set_option linter.all false
set_option autoImplicit false
set_option maxRecDepth 100000
set_option maxHeartbeats 4000000
/-! KB: the machine that k01 draws. -/
namespace Pm
open PySem PySem.Spec PyProof.Rows L2 Tr Wk
local macro_rules | `(tactic| exists $es,*) => do { let ls ← es.getElems.mapM fun e => `(Lean.Parser.Tactic.simpLemma| $e:term); `(tactic| simp -implicitDefEqProofs (disch := (first | assumption | omega | decide | (simp only [List.length_cons, List.length_nil, List.length_append, List.length_map, Tr.rgI_len]; omega) | (simp only [List.length_cons, List.length_nil, List.length_append, List.length_map, Int.toNat_natCast] at *; omega))) only [Tr.okT_lf, Tr.okT_nd, Tr.okT_li, Tr.okT_ll, Tr.okT_dk, Tr.okT_mks, Tr.okT_mk1, Tr.okT_mch, Tr.okT_scr, Tr.okT_tp, Tr.okO_some, Tr.gV_ev, Tr.gC_ev, Tr.gG_ev, Tr.fM_ev, Tr.fS_ev, Tr.gM_ev, Tr.gS_ev, Tr.fP_ev, Tr.fQ_ev, Tr.vr_ev, Tr.fRe_ev, Tr.re_ev, Tr.fO1_ev, Tr.o1V_ev, Tr.o1_ev, Tr.fO2V_ev, Tr.o2V_ev, Tr.fO2v'_ev, Tr.fO2v_ev, Tr.o2v_ev, Tr.fO2o'_ev, Tr.fO2o_ev, Tr.o2o_ev, Tr.fO2c'_ev, Tr.fO2c_ev, Tr.o2c_ev, Tr.fO2n''_ev, Tr.fO2n'_ev, Tr.fO2n_ev, Tr.o2n_ev, Tr.fAnd_ev, Tr.fOr_ev, Tr.dAnd_ev, Tr.dOr_ev, Tr.ite_BB, Tr.ite_decF, Tr.ite_Tdec, Tr.z_cast, Tr.z_ndec, Tr.ite_TF, Tr.ite_FT, Tr.bind_ite, Tr.aNil_ev, Tr.fCons'_ev, Tr.fCons_ev, Tr.aCons_ev, Tr.fCall'_ev, Tr.fCall_ev, Tr.dCall_ev, Tr.wb_nil, Tr.wb_none, Tr.fWb_ev, Tr.wb_some, Tr.fMeth'_ev, Tr.fMeth_ev, Tr.dMeth_ev, Tr.fMake'_ev, Tr.fMake_ev, Tr.dMake_ev, Tr.fSeq_nx, Tr.fSeq_rt, Tr.fSeq_bk, Tr.fSeq_ct, Tr.dSeq_ev, Tr.fIf_ev, Tr.dIf_ev, Tr.fSet_ev, Tr.dSet_ev, Tr.fRet_ev, Tr.dRet_ev, Tr.fEx_ev, Tr.dEx_ev, Tr.dRetN_ev, Tr.dNx_ev, Tr.dBk_ev, Tr.dCt_ev, Tr.dFail_ev, Tr.fPut''_ev, Tr.fPut'_ev, Tr.fPut1_ev, Tr.fPut_ev, Tr.dPut_ev, Tr.fMut3_ev, Tr.fMut2_ev, Tr.fMut1_ev, Tr.fMut_ev, Tr.dMut_ev, Tr.fLst_ev, Tr.fTup_ev, Tr.dLst_ev, Tr.dTup_ev, Tr.dDic_ev, Tr.fBw_ev, Tr.bw_ev, Tr.fFz_ev, Tr.fz_ev, Tr.fAug''_ev, Tr.fAug'_ev, Tr.fAug_ev, Tr.dAug_ev, Tr.z_ex, Tr.z_exT, Tr.fRng_nat, Tr.dRng_ev, Tr.fIt'_ev, Tr.fIt_ev, Tr.dIt_ev, Tr.fFor_ev, Tr.dFor_ev, Tr.gN_ev, Tr.fG_ev, Tr.gT2_ev, Tr.gT2_mk1, Tr.dFr_nil, Tr.turn_ev, Tr.fFr_nx, Tr.fFr_ct, Tr.fFr_bk, Tr.fFr_rt, Tr.dFr_cons, Tr.fLc'_ev, Tr.fLc_ev, Tr.dLc_ev, Tr.dLr_nil, Tr.wipeT_nil, Tr.wipeT_cons, Tr.backT_nil, Tr.backT_cons, Tr.cleanAt_nil, Tr.cleanAt_cons, Tr.fFun_rt, Tr.fFun_nx, Tr.dFun_ev, Tr.outs_cons, Tr.outs_nil, Tr.frzs_nil, Tr.frzs_cons, Tr.z_frz1, Tr.z_frz2, Tr.z_frz3, Tr.z_frz4, Tr.z_frz5, Tr.z_frz6, Tr.z_frz7, Tr.z_frz8, Tr.z_frz9, Tr.z_frz10, Tr.z_frz11, Tr.z_cln1, Tr.z_cln2, Tr.z_cln3, Tr.z_cln4, Tr.z_cln5, Tr.z_cln6, Tr.z_cln7, Tr.z_cln8, Tr.z_cln9, Tr.z_cln10, Tr.z_clns1, Tr.z_clns2, Tr.z_clns3, Tr.z_pure1, Tr.z_pure2, Tr.z_pure3, Tr.z_pure4, Tr.z_pure5, Tr.z_pure6, Tr.z_pure7, Tr.z_lfI, Tr.z_li, Tr.z_add, Tr.z_sub, Tr.z_mulr, Tr.z_mod, Tr.z_div, Tr.z_lt, Tr.z_le, Tr.z_gt, Tr.z_ge, Tr.z_eq, Tr.z_ne, Tr.z_neg, Tr.z_eqli, Tr.z_neli, Tr.z_eqnil, Tr.z_nenil, Tr.z_inli, Tr.z_ninli, Tr.z_indk, Tr.z_nindk, Tr.z_ll, Tr.z_mks, Tr.z_nil, Tr.z_appll, Tr.z_int1, Tr.z_int2, Tr.z_len1, Tr.z_len2, Tr.z_len3, Tr.z_len4, Tr.z_len5, Tr.z_len6, Tr.z_len7, Tr.z_not, Tr.z_isi1, Tr.z_isi2, Tr.z_isi3, Tr.z_isi4, Tr.z_isi5, Tr.z_isi6, Tr.z_list1, Tr.z_sort1, Tr.z_sort2, Tr.z_app1, Tr.z_app2, Tr.z_pop1, Tr.z_clr1, Tr.z_clr2, Tr.z_rev1, Tr.z_ext1, Tr.z_cat1, Tr.z_it1, Tr.z_it2, Tr.z_it3, Tr.z_it4, Tr.z_ty1, Tr.z_ty2, Tr.z_ty3, Tr.z_ty4, Tr.z_fst, Tr.z_fma, Tr.z_ffa, Tr.z_ins1, Tr.z_ins2, Tr.z_ins3, Tr.z_ins4, Tr.z_ins5, Tr.z_ixli, Tr.z_ixll, Tr.z_ixlast, Tr.z_setdk, Tr.fDic1_ev, Tr.fDic1'_ev, Tr.dDic1_ev, Tr.fLRg_nat, Tr.dLRg_ev, Tr.z_len8, Tr.z_bind_some, Tr.z_get0, Tr.z_gets, Tr.z_getD0, Tr.z_getDs, Tr.z_set0, Tr.z_sets, Tr.z_app, Tr.z_nil_app, Tr.z_app_nil, Tr.z_map0, Tr.z_mapc, Tr.z_rep0, Tr.z_reps, Tr.z_lenc, Tr.z_lenn, Tr.z_bno, Tr.fXs_nx, Tr.fXs_rt, Tr.fXs_no, Tr.xSeq_ev, Tr.fXif_ev, Tr.xIf_ev, Tr.xRz_ev, Tr.xNo_ev, Tr.fXc2_ev, Tr.fXc_ev, Tr.xCall_ev, Tr.fXfor_ev, Tr.xFor_ev, Tr.fXfun_ev, Tr.dFunX_ev, Tr.fTry2_bl, Tr.fTry2_str, Tr.fTry1_ev, Tr.fTry_so, Tr.fTry_no, Tr.dTry_ev, Tr.fFre_ev, Tr.fre_ev, Tr.fForE_ev, Tr.dForE_ev, Tr.z_c0, Tr.z_c1, Tr.z_c2, Tr.z_c3, Tr.z_okoV, Tr.z_okrk, Tr.z_okrl, Tr.z_frzoV, Tr.z_clnoV, Tr.z_pureoV, Tr.z_frzrk, Tr.z_clnrk, Tr.z_frzrl, Tr.z_clnrl, Tr.z_ixrl, Tr.z_lenrl, Tr.z_isirl, Tr.z_tyrl, Tr.z_clrrl, Tr.z_oVs, Tr.z_oVn, Tr.z_rks, Tr.z_rkn, Tr.z_ixt0, Tr.z_ixt1, Tr.z_isN1, Tr.z_isN2, Tr.z_isN3, Tr.z_notN1, Tr.z_notN2, Tr.z_notN3, Tr.z_isN4, Tr.z_notN4, Tr.z_isN5, Tr.z_notN5, Tr.fCh3_ev, Tr.fCh2_ev, Tr.fCh1_ev, Tr.z_ch, Tr.z_okdls, Tr.z_frzdls, Tr.z_clndls, Tr.z_ixdls, Tr.z_indls, Tr.z_okdds, Tr.z_frzdds, Tr.z_clndds, Tr.z_ixdds, Tr.fAsg'_ev, Tr.fAsg_ev, Tr.dAsg_ev, Tr.fBwS_ev, Tr.bwS_ev, Tr.fPt_ev, Tr.ptT_no, Tr.ptT_so, Tr.fSl2_ev, Tr.fSl1_ev, Tr.fSl_ev, Tr.dSl_ev, Tr.z_slli, Tr.z_cutTail, Tr.z_cutInit, Tr.z_okst, Tr.z_frzst, Tr.z_clnst, Tr.z_purest, Tr.z_addst, Tr.z_lenst, Tr.z_inst1, Tr.z_ninst1, Tr.z_ixst, Tr.eqL_self, Tr.eqL_nn, Tr.eqL_nc, Tr.eqL_cn, Tr.eqL_cc, Tr.z_eqst, Tr.z_nest, Tr.z_insl, Tr.z_ninsl, Tr.z_sq1, Tr.z_sq2, Tr.z_sq3, Tr.z_itst, Tr.z_isist, Tr.z_slst, Tr.z_cutOne, Tr.lit_all, Tr.lit_not, Tr.lit_both, Tr.lit_either, Tr.lit_somenext, Tr.lit_eachnext, Tr.lit_sometill, Tr.lit_eachtill, Tr.lit_someever, Tr.lit_eachever, Tr.lit_somealways, Tr.lit_eachalways, Tr.lit_mark, Tr.lit_loop, Tr.lit_rank, Tr.lit_walk, Tr.lit_shut, Tr.lit_out, Tr.lit_here, Tr.lit_dead, Tr.lit_plain, Tr.lit_step, Tr.lit_none, Tr.lit_fair, Tr.lit_answer, Tr.lit_p, Tr.lit_wet, Tr.lit_darkness, Tr.lit_x, Tr.lit_q, Tr.lit_empty, Tr.lit_in, Tr.lit_letters, Tr.z_kept, Tr.z_catX12, Tr.z_catT12, Tr.z_ixt2, Tr.z_frzsg, Tr.z_clnsg, Tr.z_oksg, Tr.z_oktl, Tr.z_frztl, Tr.z_clntl, Tr.z_insT_told, Tr.z_insT_joint, Tr.z_insT_over_walks, Tr.z_insT_contrary, Tr.z_insT_good, Tr.z_insT_some_next, Tr.z_insT_some_till, Tr.z_insT_each_till, Tr.z_fldT_machine, Tr.z_fldT_every, Tr.z_fldT_live, Tr.fEls_s, Tr.fEls_n, Tr.elsE_ev, Tr.fOO_s, Tr.fOO_n, Tr.oOr_ev, Tr.fMO_s, Tr.fMO_n, Tr.mOr_ev, Tr.oIs1_nd, Tr.dNew_ev, Tr.fFzk_ev, Tr.fzk_ev, Tr.fDfz_ev, Tr.dfz_ev, Tr.z_eqbl, Tr.z_nebl, Tr.z_beqtt, Tr.z_beqff, Tr.z_beqtf, Tr.z_beqft, Tr.z_isNll, Tr.z_isNli, Tr.z_catnd, Tr.dZip_ev, Tr.fZip_ev, Tr.fForZ_ev, Tr.fForZ1_ev, Tr.fForZ2_ev, Tr.dForZ_ev, Tr.fFzS_ev, Tr.fzS_ev, Tr.fRevR_nat, Tr.dRevR_ev, Tr.f3V2_ev, Tr.f3V1_ev, Tr.o3V_ev, Tr.fGetE2_ev, Tr.fGetE1_ev, Tr.dGetE_ev, Tr.z_sllo, Tr.dDisp_ev, Tr.fPutP4_ev, Tr.fPutP3_ev, Tr.fPutP2_ev, Tr.fPutP1_ev, Tr.dPutP_ev, Tr.dpV_ev, Tr.fDpV_ev, Tr.fJoin2_ev, Tr.fJoin1_ev, Tr.dJoin_ev, Tr.fTupO_ev, Tr.dTupO_ev, Tr.fLkK1_ev, Tr.lkK_ev, Tr.fDpIx_ev, Tr.dpIx_ev, Tr.fDpIx2_ll, Tr.z_setll, Tr.fDpIx2_t1, Tr.fDpIx2_t0, Tr.fMP3_ev, Tr.fMP2_ev, Tr.fMP1_ev, Tr.dMutP_ev, Tr.fMB2_ev, Tr.fMB1_ev, Tr.dMutPB_ev, Tr.z_min, Tr.z_oklS, Tr.z_frzlS, Tr.z_clnlS, Tr.z_purelS, Tr.z_itlS, Tr.z_inlS, Tr.z_ninlS, Tr.z_lfS, Tr.z_isiS, Tr.z_isNS, Tr.z_notNS, Tr.z_oksl, Tr.fG3'_ev, Tr.fG3_ev, Tr.gT3_ev, Tr.fMutN2_ev, Tr.fMutN1_ev, Tr.fMutN_ev, Tr.dMutN_ev, Tr.z_sset, Tr.z_tupli, Tr.fLdW2_ev, Tr.fLdW1_ev, Tr.ldW_ev, Tr.z_okFlnx, Tr.fMutT3_ev, Tr.fMutT2_ev, Tr.fMutT1_ev, Tr.dMutT_ev, Tr.fSpl3_ev, Tr.fSpl2_ev, Tr.fSpl1_ev, Tr.dSplit_ev, ↓reduceIte, ite_true, ite_false, Nat.reduceAdd, Nat.reduceSub, Nat.reduceLT, Nat.reduceLeDiff, Nat.zero_add, Nat.lt_add_one, Nat.zero_lt_succ, decide_true, decide_false, decide_eq_true_eq, decide_eq_false_iff_not, Bool.not_eq_true, Bool.not_eq_false, Bool.not_true, Bool.not_false, Bool.not_eq_true', Bool.and_true, Bool.true_and, Bool.and_self, Bool.and_eq_true, Bool.or_eq_true, not_true_eq_false, not_false_eq_true, eq_self, and_self, and_true, true_and, false_and, and_false, or_true, true_or, or_false, false_or, reduceCtorEq, Bool.false_eq_true, Int.toNat_natCast, Int.reduceToNat, Int.reduceEq, Int.reduceLT, Int.reduceLE, Int.reduceNeg, Int.reduceAdd, Int.reduceSub, Int.reduceMul, List.length_map, Bool.not_not, Bool.not_eq_eq_eq_not, Decidable.not_not, Nat.reduceEqDiff, Bool.false_and, Bool.and_false, Option.isSome_some, Option.isSome_none, Option.isNone_some, Option.isNone_none, $ls,*]) }

theorem law_name_ok (k : Nat) (seed : Int) : ∃ a b, m_law_name [.lf (.int (k : Int)), .lf (.int seed)] = some (tx (nmT (bN seed) (cN seed k) (pN seed) (qN seed)), [a, b]) := by
  have kl : (.lf (.str "abcdefghijklmnopqrstuvwxyz") : T) = tx ABC := lit_letters
  have s0 := Int.emod_nonneg seed (b := 8) (by omega)
  have s8 := Int.emod_lt_of_pos seed (b := 8) (by omega)
  obtain ⟨n, hn, n1, n8⟩ : ∃ n : Nat, 1 + seed % 8 = (n : Int) ∧ 1 ≤ n ∧ n ≤ 8 := ⟨(1 + seed % 8).toNat, by omega, by omega, by omega⟩
  have np : 0 < (n : Int) := by omega
  have p0 := Int.emod_nonneg (seed / 8) (b := (n : Int)) (by omega)
  have p1 := Int.emod_lt_of_pos (seed / 8) np
  obtain ⟨p, hp, pn⟩ : ∃ p : Nat, seed / 8 % (n : Int) = (p : Int) ∧ p < n := ⟨(seed / 8 % (n : Int)).toNat, by omega, by omega⟩
  obtain ⟨q, hq, hq2⟩ : ∃ q : Nat, (n : Int) - (p : Int) - 1 = (q : Int) ∧ q + p + 1 = n := ⟨n - p - 1, by omega, by omega⟩
  have ep : pN seed = p := by unfold pN; rw [hn, hp]; omega
  have eq : qN seed = q := by unfold qN; rw [ep, hn]; omega
  rw [ep, eq]
  have b0 := Int.emod_nonneg (seed / 1664) (b := 26) (by omega)
  have b1 := Int.emod_lt_of_pos (seed / 1664) (b := 26) (by omega)
  have ab : oIx (tx ABC) (.lf (.int (seed / 1664 % 26))) = some (tx [bN seed]) := abc_at (seed / 1664 % 26) b0 b1
  have c0 := Int.emod_nonneg (seed / 64 + k) (b := 26) (by omega)
  have c1 := Int.emod_lt_of_pos (seed / 64 + k) (b := 26) (by omega)
  have ac : oIx (tx ABC) (.lf (.int ((seed / 64 + k) % 26))) = some (tx [cN seed k]) := abc_at ((seed / 64 + k) % 26) c0 c1
  have bm := bN_mem seed
  have cm := cN_mem seed k
  generalize bN seed = b at *
  generalize cN seed k = c at *
  have lc : ∀ (m : Nat) (X : T), m ≤ 900 → dLr (gN 7) dYes x_law_name_1 [7] (rngT m) [] [.lf (.int (k : Int)), .lf (.int seed), tx ABC, .lf (.int (n : Int)), .lf (.int (p : Int)), tx [b], X, .no] = some ((List.replicate m [b]).map tx, [.lf (.int (k : Int)), .lf (.int seed), tx ABC, .lf (.int (n : Int)), .lf (.int (p : Int)), tx [b], X, .no]) := fun m X hm => by
    rw [rngT_eq, lc_all _ (rgI m) lfI (fun _ => tx [b]) (by rw [rgI_len]; omega) fun x hx => ⟨[.lf (.int (k : Int)), .lf (.int seed), tx ABC, .lf (.int (n : Int)), .lf (.int (p : Int)), tx [b], X, .lf (.int x)], [.lf (.int (k : Int)), .lf (.int seed), tx ABC, .lf (.int (n : Int)), .lf (.int (p : Int)), tx [b], X, .lf (.int x)], rfl, (by exists x_law_name_1, ok_nd3), rfl⟩]
    congr 2
    rw [List.map_replicate, List.map_const', rgI_len]
  have e12 : x_law_name_2 = x_law_name_1 := rfl
  have l1 := lc p .no (by omega)
  have l2 := fun X => lc q X (by omega)
  have j1 := fun o => join_rep o p b (by omega)
  have j2 := fun o => join_rep o q b (by omega)
  have r1 : (List.replicate p b).length = p := by simp
  have r2 : (List.replicate q b).length = q := by simp
  have z1 : (List.replicate p b).length + [c].length ≤ 1000 := by rw [r1]; simp; omega
  have z2 : (List.replicate p b ++ [c]).length + (List.replicate q b).length ≤ 1000 := by rw [List.length_append, r1, r2]; simp; omega
  have rp : ∀ e : List T, fRng ((.lf (.int (p : Int)) : T), e) = some (rngT p, e) := fun e => fRng_int p _ (by omega)
  have rq : ∀ e : List T, fRng ((.lf (.int (q : Int)) : T), e) = some (rngT q, e) := fun e => fRng_int q _ (by omega)
  have a1 := z_addst (List.replicate p b) [c] z1
  have a2 : oAdd (tx (List.replicate p b ++ [c])) (tx (List.replicate q b)) = some (tx (nmT b c p q)) := z_addst _ _ z2
  exists m_law_name, bn_law_name, kl, hn, hp, hq, ab, ac, np, rp, rq, e12, l1, l2, j1, j2, a1, a2
  exact ⟨_, _, rfl⟩

def msS (ms : List (List Nat × List Int)) : List (Str × List Int) := ms.map fun m => ((⟨m.1.toArray⟩ : Str), m.2)
def PTx (o : Bool) (rs : List (List Int)) (ms : List (List Nat × List Int)) (fs : List (List Int)) : T := .nd false .tup [ll o rs, mks o (msS ms), ll o fs]
structure MW (n : Nat) (rs : List (List Int)) (ms : List (List Nat × List Int)) (fs : List (List Int)) : Prop where
  hr : Stps n rs
  hm : ∀ m ∈ ms, Nm m.1 ∧ Okl n m.2
  hd : (ms.map (·.1)).Nodup
  hl : ms.length ≤ 60
  hf : Frs n fs
theorem MW.mks {n : Nat} {rs : List (List Int)} {ms : List (List Nat × List Int)} {fs : List (List Int)} (h : MW n rs ms fs) : Mks n (msS ms) := by
  refine ⟨fun m hm => ?_, ?_, fun m hm => ?_, by unfold msS; rw [List.length_map]; exact h.hl⟩
  · obtain ⟨x, hx, rfl⟩ := List.mem_map.mp hm
    exact is_mark_ok _ (h.hm x hx).1
  · unfold msS
    rw [List.map_map]
    have := h.hd
    show List.Pairwise _ _
    rw [List.pairwise_map]
    have h2 : List.Pairwise _ _ := this
    rw [List.pairwise_map] at h2
    exact h2.imp fun {a b} hab e => hab (str_inj.mp e)
  · obtain ⟨x, hx, rfl⟩ := List.mem_map.mp hm
    exact (h.hm x hx).2
theorem ap_mksR (ms : List (List Nat × List Int)) (w : List Nat) (s : List Int) (h : ms.length ≤ 900) : mAppend (mks true (msS ms)) [.nd false .tup [tx w, li true s]] = some (.lf .non, mks true (msS (ms ++ [(w, s)]))) := by
  have hl : (msS ms).length = ms.length := by unfold msS; rw [List.length_map]
  have := small (n := (msS ms).length) (by omega)
  show (if ((msS ms).map (mk1 true)).length < sizeLine then some (T.lf .non, T.nd true .lst ((msS ms).map (mk1 true) ++ [mk1 true (⟨w.toArray⟩, s)])) else none) = _
  rw [List.length_map, if_pos this]
  unfold mks msS; rw [List.map_append, List.map_append]; rfl
structure Dm (n : Nat) (seed : Int) (i : Nat) (ms : List (List Nat × List Int)) : Prop where
  nm : ms.map (·.1) = (List.range i).map (nmF seed)
  okl : ∀ m ∈ ms, Okl n m.2
theorem Dm.len {n : Nat} {seed : Int} {i : Nat} {ms : List (List Nat × List Int)} (h : Dm n seed i ms) : ms.length = i := by
  have := congrArg List.length h.nm
  simpa using this
theorem Dm.snoc {n : Nat} {seed : Int} {i : Nat} {ms : List (List Nat × List Int)} (h : Dm n seed i ms) {s : List Int} (hs : Okl n s) : Dm n seed (i + 1) (ms ++ [(nmF seed i, s)]) :=
  ⟨by rw [List.map_append, h.nm, List.range_succ, List.map_append]; rfl, fun m hm => by
    rcases List.mem_append.mp hm with hm | hm
    · exact h.okl m hm
    · rw [List.mem_singleton.mp hm]; exact hs⟩
theorem lp1 (ns : List Int) (n : Nat) (hn0 : 0 < n) (hn : n ≤ 60) (C RS : T) (seed : Int) (K : Nat) (hK : K ≤ 20) :
    ∃ ms y6 y8, Dm n seed K ms ∧ cln y6 = true ∧ dFr (gN 6) l_law_parts_1 (rngT K) [scrT ns, C, .lf (.int (n : Int)), .lf (.int seed), RS, mks true (msS []), .no, .no, .no] = some (.nx, [scrT ns, C, .lf (.int (n : Int)), .lf (.int seed), RS, mks true (msS ms), y6, .no, y8]) := by
  have fS : frz (scrT ns) = scrT ns := frz_scr ns
  have oS : okT (scrT ns) = some (scrT ns) := rfl
  obtain ⟨env', h1, ms, y6, y8, hD, c6, rfl⟩ := lp_rng (dg := gN 6) (d := l_law_parts_1) K (fun i env => ∃ (ms : List (List Nat × List Int)) (y6 y8 : T), Dm n seed i ms ∧ cln y6 = true ∧ env = [scrT ns, C, .lf (.int (n : Int)), .lf (.int seed), RS, mks true (msS ms), y6, .no, y8]) [scrT ns, C, .lf (.int (n : Int)), .lf (.int seed), RS, mks true (msS []), .no, .no, .no] ⟨[], _, _, ⟨rfl, (fun _ h => absurd h List.not_mem_nil)⟩, rfl, rfl⟩ (by
    rintro i hi env ⟨ms, y6, y8, hD, _, rfl⟩
    have ca := cellA ns (11 + (i : Int)) (by omega)
    generalize cell ns (11 + (i : Int)).toNat = c at ca
    obtain ⟨m, mx⟩ := mixed_ok c ((i : Int) + 70) (by omega)
    obtain ⟨xs, ok, a, b, sm⟩ := law_some_ok m n hn0 hn
    obtain ⟨a2, b2, nmO⟩ := law_name_ok i seed
    have hl := hD.len
    have ap := ap_mksR ms (nmF seed i) xs (by omega)
    have okM : okT (mks true (msS ms)) = some (mks true (msS ms)) := rfl
    have tyM : isTy "list" (mks true (msS ms)) = true := rfl
    refine ⟨[scrT ns, C, .lf (.int (n : Int)), .lf (.int seed), RS, mks true (msS (ms ++ [(nmF seed i, xs)])), .lf (.int (i : Int)), .no, .no], ?_, ms ++ [(nmF seed i, xs)], _, _, hD.snoc ok, rfl, rfl⟩
    have nmm := nmF_nm seed i
    have fA : nmF seed i = if nmT (bN seed) (cN seed i) (pN seed) (qN seed) = [97, 108, 108] then [97, 108, 108, 97, 108, 108] else nmT (bN seed) (cN seed i) (pN seed) (qN seed) := rfl
    have tw := nmT_two (bN seed) (cN seed i) (pN seed) (qN seed)
    have bm := bN_mem seed
    have cm := cN_mem seed i
    have okc : Okc (nmT (bN seed) (cN seed i) (pN seed) (qN seed)) = true := by
      unfold Okc
      rw [List.all_eq_true]
      intro x hx
      have : ∀ c ∈ ABC, c < 1114112 := by decide
      exact decide_eq_true (this x ((tw x hx).elim (fun e => e ▸ bm) fun e => e ▸ cm))
    have k1 : Okc [97, 108, 108] = true := by decide
    have la : (.lf (.str "all") : T) = tx [97, 108, 108] := rfl
    have la2 : (.lf (.str "allall") : T) = tx [97, 108, 108, 97, 108, 108] := rfl
    rw [fA] at ap ⊢
    clear nmm fA tw bm cm
    generalize nmT (bN seed) (cN seed i) (pN seed) (qN seed) = NT at *
    have eA : oEq (tx NT) (tx [97, 108, 108]) = some (.lf (.bl (decide (NT = [97, 108, 108])))) := by
      unfold tx
      rw [oEq_str (strOk_st okc) (strOk_st k1)]
      have e : decide ((⟨NT.toArray⟩ : Str) = ⟨[97, 108, 108].toArray⟩) = decide (NT = [97, 108, 108]) := decide_eq_decide.mpr str_inj
      rw [e]
    generalize scrT ns = S at *
    by_cases hA : NT = [97, 108, 108]
    · rw [if_pos hA] at ap ⊢
      rw [decide_eq_true hA] at eA
      generalize mks true (msS (ms ++ [([97, 108, 108, 97, 108, 108], xs)])) = M2 at *
      generalize mks true (msS ms) = M1 at *
      exists l_law_parts_1, ca, mx, sm, nmO, la, la2, eA, ap, okM, tyM, fS, oS
    · rw [if_neg hA] at ap ⊢
      rw [decide_eq_false hA] at eA
      generalize mks true (msS (ms ++ [(NT, xs)])) = M2 at *
      generalize mks true (msS ms) = M1 at *
      exists l_law_parts_1, ca, mx, sm, nmO, la, la2, eA, ap, okM, tyM, fS, oS)
  exact ⟨ms, y6, y8, hD, c6, h1⟩
theorem lp2 (ns : List Int) (n : Nat) (hn0 : 0 < n) (hn : n ≤ 60) (C RS MM : T) (seed : Int) (K : Nat) (hK : K ≤ 20) (x6 y8 : T) (h6 : cln x6 = true) :
    ∃ fs y6, fs.length = K ∧ (∀ r ∈ fs, Okl n r) ∧ dFr (gN 6) l_law_parts_2 (rngT K) [scrT ns, C, .lf (.int (n : Int)), .lf (.int seed), RS, MM, x6, ll true [], y8] = some (.nx, [scrT ns, C, .lf (.int (n : Int)), .lf (.int seed), RS, MM, y6, ll true fs, y8]) := by
  have fS : frz (scrT ns) = scrT ns := frz_scr ns
  have oS : okT (scrT ns) = some (scrT ns) := rfl
  obtain ⟨env', h1, fs, y6, hl, ho, c6, rfl⟩ := lp_rng (dg := gN 6) (d := l_law_parts_2) K (fun i env => ∃ (fs : List (List Int)) (y6 : T), fs.length = i ∧ (∀ r ∈ fs, Okl n r) ∧ cln y6 = true ∧ env = [scrT ns, C, .lf (.int (n : Int)), .lf (.int seed), RS, MM, y6, ll true fs, y8]) [scrT ns, C, .lf (.int (n : Int)), .lf (.int seed), RS, MM, x6, ll true [], y8] ⟨[], _, rfl, (fun _ h => absurd h List.not_mem_nil), h6, rfl⟩ (by
    rintro i hi env ⟨fs, y6, hl, ho, _, rfl⟩
    have ca := cellA ns (23 + (i : Int)) (by omega)
    generalize cell ns (23 + (i : Int)).toNat = c at ca
    obtain ⟨m, mx⟩ := mixed_ok c ((i : Int) + 90) (by omega)
    obtain ⟨xs, ok, a, b, sm⟩ := law_some_ok m n hn0 hn
    have ap := z_app2 fs xs (by omega)
    generalize scrT ns = S at *
    refine ⟨[S, C, .lf (.int (n : Int)), .lf (.int seed), RS, MM, .lf (.int (i : Int)), ll true (fs ++ [xs]), y8], ?_, fs ++ [xs], _, by simp [hl], fun r hr => ?_, rfl, rfl⟩
    · exists l_law_parts_2, ca, mx, sm, ap, fS, oS
    · rcases List.mem_append.mp hr with hr | hr
      · exact ho r hr
      · rw [List.mem_singleton.mp hr]; exact ok)
  exact ⟨fs, y6, hl, ho, h1⟩
theorem parts_ok (ns : List Int) : ∃ n rs ms fs, MW n rs ms fs ∧ ∃ a, m_law_parts [scrT ns] = some (PTx true rs ms fs, [a]) := by
  have ca0 := cellA ns 0 (by omega)
  have ca1 := cellA ns 1 (by omega)
  have ca2 := cellA ns 2 (by omega)
  generalize cell ns (0 : Int).toNat = c at ca0
  generalize cell ns (1 : Int).toNat = seed at ca1
  generalize cell ns (2 : Int).toNat = c2 at ca2
  obtain ⟨Mx, hM, hM2⟩ : ∃ Mx : Int, (∀ o, oIx (li o [8, 8, 8, 60]) (.lf (.int (c % 4))) = some (.lf (.int Mx))) ∧ (Mx = 8 ∨ Mx = 60) := by
    have a0 := Int.emod_nonneg c (b := 4) (by omega)
    have a1 := Int.emod_lt_of_pos c (b := 4) (by omega)
    refine ⟨[8, 8, 8, 60].getD (c % 4).toNat 0, fun o => z_ixli o [8, 8, 8, 60] _ a0 (by show _ < 4; omega), ?_⟩
    have : (c % 4).toNat = 0 ∨ (c % 4).toNat = 1 ∨ (c % 4).toNat = 2 ∨ (c % 4).toNat = 3 := by omega
    rcases this with h | h | h | h <;> rw [h] <;> simp
  have hM3 : ∀ o, oIx (.nd o .lst [.lf (.int 8), .lf (.int 8), .lf (.int 8), .lf (.int 60)]) (.lf (.int (c % 4))) = some (.lf (.int Mx)) := hM
  have Mp : 0 < Mx := by omega
  obtain ⟨n, hn, n1, n60⟩ : ∃ n : Nat, 1 + c / 4 % Mx = (n : Int) ∧ 1 ≤ n ∧ n ≤ 60 := by
    have a0 := Int.emod_nonneg (c / 4) (b := Mx) (by omega)
    have a1 := Int.emod_lt_of_pos (c / 4) Mp
    exact ⟨(1 + c / 4 % Mx).toNat, by omega, by omega, by omega⟩
  obtain ⟨K, hK, K6⟩ : ∃ K : Nat, c2 % 13 = (K : Int) ∧ K ≤ 12 := by
    have a0 := Int.emod_nonneg c2 (b := 13) (by omega)
    have a1 := Int.emod_lt_of_pos c2 (b := 13) (by omega)
    exact ⟨(c2 % 13).toNat, by omega, by omega⟩
  obtain ⟨L, hL, L3⟩ : ∃ L : Nat, c2 / 13 % 7 = (L : Int) ∧ L ≤ 6 := by
    have a0 := Int.emod_nonneg (c2 / 13) (b := 7) (by omega)
    have a1 := Int.emod_lt_of_pos (c2 / 13) (b := 7) (by omega)
    exact ⟨(c2 / 13 % 7).toNat, by omega, by omega⟩
  obtain ⟨rs, hr, aa, ab, st⟩ := law_steps_ok ns n n1 n60
  obtain ⟨ms, y6, y8, hD, c6, g1⟩ := lp1 ns n n1 n60 (.lf (.int c)) (ll true rs) seed K (by omega)
  obtain ⟨fs, z6, fl, fo, g2⟩ := lp2 ns n n1 n60 (.lf (.int c)) (ll true rs) (mks true (msS ms)) seed L (by omega) y6 y8 c6
  have rK : ∀ e : List T, fRng ((.lf (.int (K : Int)) : T), e) = some (rngT K, e) := fun e => by rw [fRng_int _ _ (by omega), Int.toNat_natCast]
  have rL : ∀ e : List T, fRng ((.lf (.int (L : Int)) : T), e) = some (rngT L, e) := fun e => by rw [fRng_int _ _ (by omega), Int.toNat_natCast]
  have ml := hD.len
  refine ⟨n, rs, ms, fs, ⟨hr, fun m hm => ⟨?_, hD.okl m hm⟩, ?_, by omega, ⟨fo, by omega⟩⟩, ?_⟩
  · have : m.1 ∈ ms.map (·.1) := List.mem_map.mpr ⟨m, hm, rfl⟩
    rw [hD.nm] at this
    obtain ⟨k, _, e⟩ := List.mem_map.mp this
    rw [← e]
    exact nmF_nm seed k
  · rw [hD.nm]
    show List.Pairwise _ _
    rw [List.pairwise_map]
    exact List.Pairwise.imp_of_mem (fun {a b} ha hb hab e => hab (nmF_inj seed (by have := List.mem_range.mp ha; omega) (by have := List.mem_range.mp hb; omega) e)) List.nodup_range
  · have okR : okT (ll true rs) = some (ll true rs) := rfl
    have okM : okT (mks true (msS ms)) = some (mks true (msS ms)) := rfl
    have okF : okT (ll true fs) = some (ll true fs) := rfl
    have lh : ll true [] = li true [] := rfl
    have mh : mks true (msS []) = li true [] := rfl
    rw [lh] at g2
    rw [mh] at g1
    have fS : frz (scrT ns) = scrT ns := frz_scr ns
    have oS : okT (scrT ns) = some (scrT ns) := rfl
    unfold PTx
    generalize mks true (msS ms) = MM at *
    generalize ll true rs = RR at *
    generalize ll true fs = FF at *
    generalize rngT K = I2 at *
    generalize rngT L = I3 at *
    generalize scrT ns = S at *
    exists m_law_parts, bn_law_parts, ca0, ca1, ca2, hM, hM3, Mp, hn, hK, hL, rK, rL, st, g1, g2, okR, okM, okF, fS, oS, c6
    exact ⟨_, rfl⟩
end Pm


set_option Elab.async false
set_option linter.all false
set_option autoImplicit false
set_option maxRecDepth 100000
set_option maxHeartbeats 4000000
/-! KC: a machine made of copies that are emptied behind (k01). -/
namespace Pm
open PySem PySem.Spec PyProof.Rows L2 Tr Wk
local macro_rules | `(tactic| exists $es,*) => do { let ls ← es.getElems.mapM fun e => `(Lean.Parser.Tactic.simpLemma| $e:term); `(tactic| simp -implicitDefEqProofs (disch := (first | assumption | omega | decide | (simp only [List.length_cons, List.length_nil, List.length_append, List.length_map, Tr.rgI_len]; omega) | (simp only [List.length_cons, List.length_nil, List.length_append, List.length_map, Int.toNat_natCast] at *; omega))) only [Tr.okT_lf, Tr.okT_nd, Tr.okT_li, Tr.okT_ll, Tr.okT_dk, Tr.okT_mks, Tr.okT_mk1, Tr.okT_mch, Tr.okT_scr, Tr.okT_tp, Tr.okO_some, Tr.gV_ev, Tr.gC_ev, Tr.gG_ev, Tr.fM_ev, Tr.fS_ev, Tr.gM_ev, Tr.gS_ev, Tr.fP_ev, Tr.fQ_ev, Tr.vr_ev, Tr.fRe_ev, Tr.re_ev, Tr.fO1_ev, Tr.o1V_ev, Tr.o1_ev, Tr.fO2V_ev, Tr.o2V_ev, Tr.fO2v'_ev, Tr.fO2v_ev, Tr.o2v_ev, Tr.fO2o'_ev, Tr.fO2o_ev, Tr.o2o_ev, Tr.fO2c'_ev, Tr.fO2c_ev, Tr.o2c_ev, Tr.fO2n''_ev, Tr.fO2n'_ev, Tr.fO2n_ev, Tr.o2n_ev, Tr.fAnd_ev, Tr.fOr_ev, Tr.dAnd_ev, Tr.dOr_ev, Tr.ite_BB, Tr.ite_decF, Tr.ite_Tdec, Tr.z_cast, Tr.z_ndec, Tr.ite_TF, Tr.ite_FT, Tr.bind_ite, Tr.aNil_ev, Tr.fCons'_ev, Tr.fCons_ev, Tr.aCons_ev, Tr.fCall'_ev, Tr.fCall_ev, Tr.dCall_ev, Tr.wb_nil, Tr.wb_none, Tr.fWb_ev, Tr.wb_some, Tr.fMeth'_ev, Tr.fMeth_ev, Tr.dMeth_ev, Tr.fMake'_ev, Tr.fMake_ev, Tr.dMake_ev, Tr.fSeq_nx, Tr.fSeq_rt, Tr.fSeq_bk, Tr.fSeq_ct, Tr.dSeq_ev, Tr.fIf_ev, Tr.dIf_ev, Tr.fSet_ev, Tr.dSet_ev, Tr.fRet_ev, Tr.dRet_ev, Tr.fEx_ev, Tr.dEx_ev, Tr.dRetN_ev, Tr.dNx_ev, Tr.dBk_ev, Tr.dCt_ev, Tr.dFail_ev, Tr.fPut''_ev, Tr.fPut'_ev, Tr.fPut1_ev, Tr.fPut_ev, Tr.dPut_ev, Tr.fMut3_ev, Tr.fMut2_ev, Tr.fMut1_ev, Tr.fMut_ev, Tr.dMut_ev, Tr.fLst_ev, Tr.fTup_ev, Tr.dLst_ev, Tr.dTup_ev, Tr.dDic_ev, Tr.fBw_ev, Tr.bw_ev, Tr.fFz_ev, Tr.fz_ev, Tr.fAug''_ev, Tr.fAug'_ev, Tr.fAug_ev, Tr.dAug_ev, Tr.z_ex, Tr.z_exT, Tr.fRng_nat, Tr.dRng_ev, Tr.fIt'_ev, Tr.fIt_ev, Tr.dIt_ev, Tr.fFor_ev, Tr.dFor_ev, Tr.gN_ev, Tr.fG_ev, Tr.gT2_ev, Tr.gT2_mk1, Tr.dFr_nil, Tr.turn_ev, Tr.fFr_nx, Tr.fFr_ct, Tr.fFr_bk, Tr.fFr_rt, Tr.dFr_cons, Tr.fLc'_ev, Tr.fLc_ev, Tr.dLc_ev, Tr.dLr_nil, Tr.wipeT_nil, Tr.wipeT_cons, Tr.backT_nil, Tr.backT_cons, Tr.cleanAt_nil, Tr.cleanAt_cons, Tr.fFun_rt, Tr.fFun_nx, Tr.dFun_ev, Tr.outs_cons, Tr.outs_nil, Tr.frzs_nil, Tr.frzs_cons, Tr.z_frz1, Tr.z_frz2, Tr.z_frz3, Tr.z_frz4, Tr.z_frz5, Tr.z_frz6, Tr.z_frz7, Tr.z_frz8, Tr.z_frz9, Tr.z_frz10, Tr.z_frz11, Tr.z_cln1, Tr.z_cln2, Tr.z_cln3, Tr.z_cln4, Tr.z_cln5, Tr.z_cln6, Tr.z_cln7, Tr.z_cln8, Tr.z_cln9, Tr.z_cln10, Tr.z_clns1, Tr.z_clns2, Tr.z_clns3, Tr.z_pure1, Tr.z_pure2, Tr.z_pure3, Tr.z_pure4, Tr.z_pure5, Tr.z_pure6, Tr.z_pure7, Tr.z_lfI, Tr.z_li, Tr.z_add, Tr.z_sub, Tr.z_mulr, Tr.z_mod, Tr.z_div, Tr.z_lt, Tr.z_le, Tr.z_gt, Tr.z_ge, Tr.z_eq, Tr.z_ne, Tr.z_neg, Tr.z_eqli, Tr.z_neli, Tr.z_eqnil, Tr.z_nenil, Tr.z_inli, Tr.z_ninli, Tr.z_indk, Tr.z_nindk, Tr.z_ll, Tr.z_mks, Tr.z_nil, Tr.z_appll, Tr.z_int1, Tr.z_int2, Tr.z_len1, Tr.z_len2, Tr.z_len3, Tr.z_len4, Tr.z_len5, Tr.z_len6, Tr.z_len7, Tr.z_not, Tr.z_isi1, Tr.z_isi2, Tr.z_isi3, Tr.z_isi4, Tr.z_isi5, Tr.z_isi6, Tr.z_list1, Tr.z_sort1, Tr.z_sort2, Tr.z_app1, Tr.z_app2, Tr.z_pop1, Tr.z_clr1, Tr.z_clr2, Tr.z_rev1, Tr.z_ext1, Tr.z_cat1, Tr.z_it1, Tr.z_it2, Tr.z_it3, Tr.z_it4, Tr.z_ty1, Tr.z_ty2, Tr.z_ty3, Tr.z_ty4, Tr.z_fst, Tr.z_fma, Tr.z_ffa, Tr.z_ins1, Tr.z_ins2, Tr.z_ins3, Tr.z_ins4, Tr.z_ins5, Tr.z_ixli, Tr.z_ixll, Tr.z_ixlast, Tr.z_setdk, Tr.fDic1_ev, Tr.fDic1'_ev, Tr.dDic1_ev, Tr.fLRg_nat, Tr.dLRg_ev, Tr.z_len8, Tr.z_bind_some, Tr.z_get0, Tr.z_gets, Tr.z_getD0, Tr.z_getDs, Tr.z_set0, Tr.z_sets, Tr.z_app, Tr.z_nil_app, Tr.z_app_nil, Tr.z_map0, Tr.z_mapc, Tr.z_rep0, Tr.z_reps, Tr.z_lenc, Tr.z_lenn, Tr.z_bno, Tr.fXs_nx, Tr.fXs_rt, Tr.fXs_no, Tr.xSeq_ev, Tr.fXif_ev, Tr.xIf_ev, Tr.xRz_ev, Tr.xNo_ev, Tr.fXc2_ev, Tr.fXc_ev, Tr.xCall_ev, Tr.fXfor_ev, Tr.xFor_ev, Tr.fXfun_ev, Tr.dFunX_ev, Tr.fTry2_bl, Tr.fTry2_str, Tr.fTry1_ev, Tr.fTry_so, Tr.fTry_no, Tr.dTry_ev, Tr.fFre_ev, Tr.fre_ev, Tr.fForE_ev, Tr.dForE_ev, Tr.z_c0, Tr.z_c1, Tr.z_c2, Tr.z_c3, Tr.z_okoV, Tr.z_okrk, Tr.z_okrl, Tr.z_frzoV, Tr.z_clnoV, Tr.z_pureoV, Tr.z_frzrk, Tr.z_clnrk, Tr.z_frzrl, Tr.z_clnrl, Tr.z_ixrl, Tr.z_lenrl, Tr.z_isirl, Tr.z_tyrl, Tr.z_clrrl, Tr.z_oVs, Tr.z_oVn, Tr.z_rks, Tr.z_rkn, Tr.z_ixt0, Tr.z_ixt1, Tr.z_isN1, Tr.z_isN2, Tr.z_isN3, Tr.z_notN1, Tr.z_notN2, Tr.z_notN3, Tr.z_isN4, Tr.z_notN4, Tr.z_isN5, Tr.z_notN5, Tr.fCh3_ev, Tr.fCh2_ev, Tr.fCh1_ev, Tr.z_ch, Tr.z_okdls, Tr.z_frzdls, Tr.z_clndls, Tr.z_ixdls, Tr.z_indls, Tr.z_okdds, Tr.z_frzdds, Tr.z_clndds, Tr.z_ixdds, Tr.fAsg'_ev, Tr.fAsg_ev, Tr.dAsg_ev, Tr.fBwS_ev, Tr.bwS_ev, Tr.fPt_ev, Tr.ptT_no, Tr.ptT_so, Tr.fSl2_ev, Tr.fSl1_ev, Tr.fSl_ev, Tr.dSl_ev, Tr.z_slli, Tr.z_cutTail, Tr.z_cutInit, Tr.z_okst, Tr.z_frzst, Tr.z_clnst, Tr.z_purest, Tr.z_addst, Tr.z_lenst, Tr.z_inst1, Tr.z_ninst1, Tr.z_ixst, Tr.eqL_self, Tr.eqL_nn, Tr.eqL_nc, Tr.eqL_cn, Tr.eqL_cc, Tr.z_eqst, Tr.z_nest, Tr.z_insl, Tr.z_ninsl, Tr.z_sq1, Tr.z_sq2, Tr.z_sq3, Tr.z_itst, Tr.z_isist, Tr.z_slst, Tr.z_cutOne, Tr.lit_all, Tr.lit_not, Tr.lit_both, Tr.lit_either, Tr.lit_somenext, Tr.lit_eachnext, Tr.lit_sometill, Tr.lit_eachtill, Tr.lit_someever, Tr.lit_eachever, Tr.lit_somealways, Tr.lit_eachalways, Tr.lit_mark, Tr.lit_loop, Tr.lit_rank, Tr.lit_walk, Tr.lit_shut, Tr.lit_out, Tr.lit_here, Tr.lit_dead, Tr.lit_plain, Tr.lit_step, Tr.lit_none, Tr.lit_fair, Tr.lit_answer, Tr.lit_p, Tr.lit_wet, Tr.lit_darkness, Tr.lit_x, Tr.lit_q, Tr.lit_empty, Tr.lit_in, Tr.lit_letters, Tr.z_kept, Tr.z_catX12, Tr.z_catT12, Tr.z_ixt2, Tr.z_frzsg, Tr.z_clnsg, Tr.z_oksg, Tr.z_oktl, Tr.z_frztl, Tr.z_clntl, Tr.z_insT_told, Tr.z_insT_joint, Tr.z_insT_over_walks, Tr.z_insT_contrary, Tr.z_insT_good, Tr.z_insT_some_next, Tr.z_insT_some_till, Tr.z_insT_each_till, Tr.z_fldT_machine, Tr.z_fldT_every, Tr.z_fldT_live, Tr.fEls_s, Tr.fEls_n, Tr.elsE_ev, Tr.fOO_s, Tr.fOO_n, Tr.oOr_ev, Tr.fMO_s, Tr.fMO_n, Tr.mOr_ev, Tr.oIs1_nd, Tr.dNew_ev, Tr.fFzk_ev, Tr.fzk_ev, Tr.fDfz_ev, Tr.dfz_ev, Tr.z_eqbl, Tr.z_nebl, Tr.z_beqtt, Tr.z_beqff, Tr.z_beqtf, Tr.z_beqft, Tr.z_isNll, Tr.z_isNli, Tr.z_catnd, Tr.dZip_ev, Tr.fZip_ev, Tr.fForZ_ev, Tr.fForZ1_ev, Tr.fForZ2_ev, Tr.dForZ_ev, Tr.fFzS_ev, Tr.fzS_ev, Tr.fRevR_nat, Tr.dRevR_ev, Tr.f3V2_ev, Tr.f3V1_ev, Tr.o3V_ev, Tr.fGetE2_ev, Tr.fGetE1_ev, Tr.dGetE_ev, Tr.z_sllo, Tr.dDisp_ev, Tr.fPutP4_ev, Tr.fPutP3_ev, Tr.fPutP2_ev, Tr.fPutP1_ev, Tr.dPutP_ev, Tr.dpV_ev, Tr.fDpV_ev, Tr.fJoin2_ev, Tr.fJoin1_ev, Tr.dJoin_ev, Tr.fTupO_ev, Tr.dTupO_ev, Tr.fLkK1_ev, Tr.lkK_ev, Tr.fDpIx_ev, Tr.dpIx_ev, Tr.fDpIx2_ll, Tr.z_setll, Tr.fDpIx2_t1, Tr.fDpIx2_t0, Tr.fMP3_ev, Tr.fMP2_ev, Tr.fMP1_ev, Tr.dMutP_ev, Tr.fMB2_ev, Tr.fMB1_ev, Tr.dMutPB_ev, Tr.z_min, Tr.z_oklS, Tr.z_frzlS, Tr.z_clnlS, Tr.z_purelS, Tr.z_itlS, Tr.z_inlS, Tr.z_ninlS, Tr.z_lfS, Tr.z_isiS, Tr.z_isNS, Tr.z_notNS, Tr.z_oksl, Tr.fG3'_ev, Tr.fG3_ev, Tr.gT3_ev, Tr.fMutN2_ev, Tr.fMutN1_ev, Tr.fMutN_ev, Tr.dMutN_ev, Tr.z_sset, Tr.z_tupli, Tr.fLdW2_ev, Tr.fLdW1_ev, Tr.ldW_ev, Tr.z_okFlnx, Tr.fMutT3_ev, Tr.fMutT2_ev, Tr.fMutT1_ev, Tr.dMutT_ev, Tr.fSpl3_ev, Tr.fSpl2_ev, Tr.fSpl1_ev, Tr.dSplit_ev, ↓reduceIte, ite_true, ite_false, Nat.reduceAdd, Nat.reduceSub, Nat.reduceLT, Nat.reduceLeDiff, Nat.zero_add, Nat.lt_add_one, Nat.zero_lt_succ, decide_true, decide_false, decide_eq_true_eq, decide_eq_false_iff_not, Bool.not_eq_true, Bool.not_eq_false, Bool.not_true, Bool.not_false, Bool.not_eq_true', Bool.and_true, Bool.true_and, Bool.and_self, Bool.and_eq_true, Bool.or_eq_true, not_true_eq_false, not_false_eq_true, eq_self, and_self, and_true, true_and, false_and, and_false, or_true, true_or, or_false, false_or, reduceCtorEq, Bool.false_eq_true, Int.toNat_natCast, Int.reduceToNat, Int.reduceEq, Int.reduceLT, Int.reduceLE, Int.reduceNeg, Int.reduceAdd, Int.reduceSub, Int.reduceMul, List.length_map, Bool.not_not, Bool.not_eq_eq_eq_not, Decidable.not_not, Nat.reduceEqDiff, Bool.false_and, Bool.and_false, Option.isSome_some, Option.isSome_none, Option.isNone_some, Option.isNone_none, $ls,*]) }

theorem gV_ok {i : Nat} {env : List T} {t : T} (h : env[i]? = some t) (o : okT t = some t) : gV i env = some t := by
  unfold gV
  rw [h]
  cases t
  all_goals first | rfl | cases o
def mko (m : Str × List Int) : T := .nd true .tup [.lf (.str m.1), li true m.2]
def mksO (ms : List (Str × List Int)) : T := .nd true .lst (ms.map mko)
theorem frz_mksO (ms) : frz (mksO ms) = mks false ms := by
  unfold mksO mks
  rw [frz_nd, frzs_map, List.map_map]
  congr 1
  refine List.map_congr_left fun m _ => ?_
  show frz (mko m) = mk1 false m
  unfold mko mk1
  simp only [frz_nd, frzs, frz_lf, frz_li]
theorem pure_mksO (ms) : pureT (mksO ms) = true := by
  unfold mksO
  rw [pure_nd, pureTs_of]
  intro t ht
  obtain ⟨m, _, rfl⟩ := List.mem_map.mp ht
  unfold mko
  simp only [pure_nd, pureTs_cons, pureTs_nil, pure_lf, pure_li, Bool.and_self]
def mchO (rs : List (List Int)) (ms : List (Str × List Int)) (fs : List (List Int)) : T := .nd true (.ins "Machine" ["steps", "marks", "fair"]) [ll true rs, mksO ms, ll true fs]
theorem frz_mchO (rs ms fs) : frz (mchO rs ms fs) = mch false rs ms fs := by
  unfold mchO mch
  rw [frz, frzs, frzs, frzs, frzs, frz_ll, frz_mksO, frz_ll]
theorem pure_mchO (rs ms fs) : pureT (mchO rs ms fs) = true := by
  unfold mchO
  simp only [pure_nd, pureTs_cons, pureTs_nil, pure_ll, pure_mksO, Bool.and_self]
/-- a machine is made -/
theorem init_O {n : Nat} (rs fs : List (List Int)) (ms : List (Str × List Int)) (hr : Stps n rs) (hm : Mks n ms) (hf : Frs n fs) (V M Fa : T) (fV : frz V = ll false rs) (oV : okT V = some V) (hM : (M = N ∧ ms = []) ∨ (frz M = mks false ms ∧ okT M = some M ∧ oIsN M (.lf .non) = some (B false))) (hF : (Fa = N ∧ fs = []) ∨ (frz Fa = ll false fs ∧ okT Fa = some Fa ∧ oIsN Fa (.lf .non) = some (B false))) :
    m_Machine_init [.nd true (.ins "Machine" []) [], V, M, Fa] = some (N, [mchO rs ms fs, .no, .no, .no]) := by
  obtain ⟨Mb, fM, oM, s1⟩ : ∃ Mb, frz Mb = mks false ms ∧ okT Mb = some Mb ∧ ∀ X Y Z : T, dIf (vr (o2V oIsN (gV 2) (gC .non))) (dSet 2 (dLst aNil)) dNx [X, Y, M, Z, .no, .no] = some (.nx, [X, Y, Mb, Z, .no, .no]) := by
    rcases hM with ⟨rfl, rfl⟩ | ⟨fF, oF, nF⟩
    · exact ⟨ll true [], frz_ll _ _, rfl, fun X Y Z => (E_ifT (E_vr (E_2V rfl rfl rfl))).trans (E_set (E_lst (ts := []) rfl (Nat.zero_le _)) (by simp) rfl)⟩
    · exact ⟨M, fF, oF, fun X Y Z => (E_ifF (E_vr (E_2V (gV_ok rfl oF) rfl nF))).trans rfl⟩
  obtain ⟨Fb, fF, oF, s2⟩ : ∃ Fb, frz Fb = ll false fs ∧ okT Fb = some Fb ∧ ∀ X Y Z : T, dIf (vr (o2V oIsN (gV 3) (gC .non))) (dSet 3 (dLst aNil)) dNx [X, Y, Z, Fa, .no, .no] = some (.nx, [X, Y, Z, Fb, .no, .no]) := by
    rcases hF with ⟨rfl, rfl⟩ | ⟨fF, oF, nF⟩
    · exact ⟨ll true [], frz_ll _ _, rfl, fun X Y Z => (E_ifT (E_vr (E_2V rfl rfl rfl))).trans (E_set (E_lst (ts := []) rfl (Nat.zero_le _)) (by simp) rfl)⟩
    · exact ⟨Fa, fF, oF, fun X Y Z => (E_ifF (E_vr (E_2V (gV_ok rfl oF) rfl nF))).trans rfl⟩
  have b : b_Machine_init [.nd true (.ins "Machine" []) [], V, M, Fa, .no, .no] = some (.nx, [mchO rs ms fs, .no, .no, .no, .no, .no]) := by
    unfold b_Machine_init
    rw [E_seq (s1 _ _ _), E_seq (s2 _ _ _)]
    rw [E_seq (E_ex (E_call (E_cons (E_S (t := V) (gV_ok rfl oV) fV rfl) (E_cons (E_S (t := Mb) (gV_ok rfl oM) fM rfl) (E_cons (E_S (t := Fb) (gV_ok rfl oF) fF rfl) rfl))) (look_machine_ok rs fs ms hr hm hf) rfl))]
    have c1 : dLc (dIt itemsL (gM 1)) (gN 4) dYes (o1 oList (vr (gV 4))) [4] [.nd true (.ins "Machine" []) [], ll false rs, mks false ms, ll false fs, .no, .no] = some (ll true rs, [.nd true (.ins "Machine" []) [], .no, mks false ms, ll false fs, .no, .no]) :=
      E_lc (E_it (E_M (t := ll false rs) rfl rfl) (items_ll _ _)) rfl (copies [.nd true (.ins "Machine" []) [], .no, mks false ms, ll false fs, .no, .no] 4 rfl rs (by rw [hr.len]; have := hr.le; omega)) rfl rfl
    have p1 : mFld "Machine" "steps" (.nd true (.ins "Machine" []) []) [ll true rs] = some (N, .nd true (.ins "Machine" ["steps"]) [ll true rs]) := by simp [mFld, putFT]
    show dSeq _ _ [.nd true (.ins "Machine" []) [], ll false rs, mks false ms, ll false fs, .no, .no] = _
    rw [E_seq (E_put (mk := fun _ => mFld "Machine" "steps") (k := .non) c1 rfl rfl p1 rfl)]
    have c2 : ∀ X : T, dLc (dIt itemsL (gM 2)) (gN 5) dYes (dTupO (aCons (re (vr (o2V oIx (gV 5) (gC (.int 0))))) (aCons (o1 oList (vr (o2V oIx (gV 5) (gC (.int 1))))) aNil))) [5] [X, .no, mks false ms, ll false fs, .no, .no] = some (mksO ms, [X, .no, .no, ll false fs, .no, .no]) := fun X => by
      refine E_lc (E_it (E_M (t := mks false ms) rfl rfl) (items_mks _ _)) rfl (e2 := [X, .no, .no, ll false fs, .no, .no]) (acc := ms.map mko) ?_ rfl rfl
      have r := dLr_run (dg := gN 5) (dc := dYes) (de := dTupO (aCons (re (vr (o2V oIx (gV 5) (gC (.int 0))))) (aCons (o1 oList (vr (o2V oIx (gV 5) (gC (.int 1))))) aNil))) (vs := [5]) [X, .no, .no, ll false fs, .no, .no] (fun _ => true)
        (fun t => match t with | .nd _ _ [a, .nd _ kk xs] => .nd true .tup [a, .nd true kk xs] | t => t) (ms.map (mk1 false)) [] (by have := small (n := ms.length) (by have := hm.le; omega); simp; omega) (by
          intro t ht
          obtain ⟨m, hmm, rfl⟩ := List.mem_map.mp ht
          refine ⟨[X, .no, .no, ll false fs, .no, mk1 false m], [X, .no, .no, ll false fs, .no, mk1 false m], rfl, rfl, fun _ => ⟨[X, .no, .no, ll false fs, .no, mk1 false m], ?_, rfl⟩, fun h => by cases h⟩
          have l0 : oIx (mk1 false m) (I 0) = some (.lf (.str m.1)) := rfl
          have l1 : oIx (mk1 false m) (I 1) = some (li false m.2) := rfl
          have tu : ∀ {dr : DA} {env e : List T} {ts : List T}, dr env = some (ts, e) → ts.length ≤ sizeLine → dTupO dr env = some (.nd true .tup ts, e) := fun {dr env e ts} h hl => by simp [dTupO, h, hl]
          exact tu (E_cons (E_re (E_vr (E_2V rfl rfl l0)) (cln_lf _)) (E_cons (E_1 (E_vr (E_2V rfl rfl l1)) (oList_li _ _)) rfl)) (Nat.le_of_lt (small (n := 2) (by omega))))
      refine Eq.trans r ?_
      congr 2
      rw [List.nil_append, List.filter_eq_self.mpr (fun _ _ => rfl), List.map_map]
      rfl
    have p2 : mFld "Machine" "marks" (.nd true (.ins "Machine" ["steps"]) [ll true rs]) [mksO ms] = some (N, .nd true (.ins "Machine" ["steps", "marks"]) [ll true rs, mksO ms]) := by
      simp [mFld, putFT, n_sm]
    show dSeq _ _ [.nd true (.ins "Machine" ["steps"]) [ll true rs], .no, mks false ms, ll false fs, .no, .no] = _
    rw [E_seq (E_put (mk := fun _ => mFld "Machine" "marks") (k := .non) (c2 _) rfl rfl p2 rfl)]
    have c3 : ∀ X : T, dLc (dIt itemsL (gM 3)) (gN 4) dYes (o1 oList (vr (gV 4))) [4] [X, .no, .no, ll false fs, .no, .no] = some (ll true fs, [X, .no, .no, .no, .no, .no]) := fun X =>
      E_lc (E_it (E_M (t := ll false fs) rfl rfl) (items_ll _ _)) rfl (copies [X, .no, .no, .no, .no, .no] 4 rfl fs (by have := hf.le; omega)) rfl rfl
    have p3 : mFld "Machine" "fair" (.nd true (.ins "Machine" ["steps", "marks"]) [ll true rs, mksO ms]) [ll true fs] = some (N, mchO rs ms fs) := by
      simp [mFld, putFT, mchO, n_sf, n_mf]
    exact E_put (mk := fun _ => mFld "Machine" "fair") (k := .non) (c3 _) rfl rfl p3 rfl
  exact E_fun0 rfl b rfl
section
variable {n : Nat} {rs : List (List Int)} {ms : List (List Nat × List Int)} {fs : List (List Int)} (h : MW n rs ms fs)
theorem frz_PTx (o rs ms fs) : frz (PTx o rs ms fs) = PTx false rs ms fs := by
  unfold PTx
  rw [frz_nd, frzs_map]
  simp only [List.map_cons, List.map_nil, frz_ll, frz_mks]
include h
theorem law_copy_ok : ∃ a, m_law_copy [PTx false rs ms fs] = some (PTx true rs ms fs, [a]) := by
  have hn := h.hr.len
  have n60 := h.hr.le
  have ml := h.hl
  have fl := h.hf.le
  have oP0 : okT (PTx false rs ms fs) = some (PTx false rs ms fs) := rfl
  have gt : ∀ e : List T, gT3 (gN 1) (gN 2) (gN 3) (PTx false rs ms fs) e = (gN 1 (ll false rs) e).bind fun e => (gN 2 (mks false (msS ms)) e).bind fun e => gN 3 (ll false fs) e := fun e => rfl
  have iM : itemsL (mks false (msS ms)) = some ((msS ms).map (mk1 false)) := items_mks _ _
  have iR : itemsL (ll false rs) = some (rs.map (li false)) := items_ll _ _
  have iF : itemsL (ll false fs) = some (fs.map (li false)) := items_ll _ _
  have okR : okT (ll false rs) = some (ll false rs) := rfl
  have okM : okT (mks false (msS ms)) = some (mks false (msS ms)) := rfl
  have okF : okT (ll false fs) = some (ll false fs) := rfl
  have mM : (.nd true .lst ((msS ms).map (mk1 true)) : T) = mks true (msS ms) := rfl
  have mR : (.nd true .lst (rs.map (li true)) : T) = ll true rs := rfl
  have mF : (.nd true .lst (fs.map (li true)) : T) = ll true fs := rfl
  have lc1 : ∀ A B C D : T, dLr (gT2 (gN 5) (gN 4)) dYes x_law_copy_2 [5, 4] ((msS ms).map (mk1 false)) [] [A, B, C, D, .no, .no] = some ((msS ms).map (mk1 true), [A, B, C, D, .no, .no]) := fun A B C D => by
    unfold msS
    rw [List.map_map, List.map_map]
    refine lc_all (dg := gT2 (gN 5) (gN 4)) (de := x_law_copy_2) (vs := [5, 4]) [A, B, C, D, .no, .no] ms _ _ (by omega) fun m hm => ⟨[A, B, C, D, li false m.2, tx m.1], [A, B, C, D, li false m.2, .no], rfl, ?_, rfl⟩
    show x_law_copy_2 [A, B, C, D, li false m.2, tx m.1] = some (.nd false .tup [tx m.1, li true m.2], [A, B, C, D, li false m.2, .no])
    have l1 : oList (li false m.2) = some (li true m.2) := oList_li _ _
    have o1 : okT (li false m.2) = some (li false m.2) := rfl
    generalize li false m.2 = L0 at *
    generalize li true m.2 = L1 at *
    exists x_law_copy_2, l1, o1
  have lc2 : ∀ A B C D E : T, ∀ xs : List (List Int), xs.length ≤ 100 → dLr (gN 4) dYes x_law_copy_1 [4] (xs.map (li false)) [] [A, B, C, D, .no, E] = some (xs.map (li true), [A, B, C, D, .no, E]) := fun A B C D E xs hx => by
    refine lc_all (dg := gN 4) (de := x_law_copy_1) (vs := [4]) [A, B, C, D, .no, E] xs _ _ (by omega) fun m hm => ⟨[A, B, C, D, li false m, E], [A, B, C, D, li false m, E], rfl, ?_, rfl⟩
    have l1 : oList (li false m) = some (li true m) := oList_li _ _
    have o1 : okT (li false m) = some (li false m) := rfl
    generalize li false m = L0 at *
    generalize li true m = L1 at *
    exists x_law_copy_1, l1, o1
  have e32 : x_law_copy_3 = x_law_copy_1 := rfl
  have lcR := fun A B C D E => lc2 A B C D E rs (by omega)
  have lcF := fun A B C D E => lc2 A B C D E fs (by omega)
  have tupP : (.nd false .tup [ll true rs, mks true (msS ms), ll true fs] : T) = PTx true rs ms fs := rfl
  clear lc2 h
  generalize (msS ms).map (mk1 false) = G1 at *
  generalize (msS ms).map (mk1 true) = G2 at *
  generalize rs.map (li false) = G3 at *
  generalize rs.map (li true) = G4 at *
  generalize fs.map (li false) = G5 at *
  generalize fs.map (li true) = G6 at *
  generalize PTx true rs ms fs = P1 at *
  generalize ll false rs = R1 at *
  generalize mks false (msS ms) = R2 at *
  generalize ll false fs = R3 at *
  generalize ll true rs = R4 at *
  generalize mks true (msS ms) = R5 at *
  generalize ll true fs = R6 at *
  generalize PTx false rs ms fs = P0 at *
  exists m_law_copy, bn_law_copy, oP0, gt, iM, iR, iF, okR, okM, okF, mM, mR, mF, lc1, lcR, lcF, e32, tupP
  exact ⟨_, rfl⟩
theorem dt_mks (o : Bool) : Dt 3 (mks o (msS ms)) := .lst fun x hx => by
  obtain ⟨m, hm, rfl⟩ := List.mem_map.mp hx
  obtain ⟨m0, hm0, rfl⟩ := List.mem_map.mp hm
  refine .tup fun y hy => ?_
  rcases List.mem_cons.mp hy with rfl | hy
  · exact .str (strOk_st (h.hm m0 hm0).1.okc)
  · rw [List.mem_singleton.mp hy]; exact Dt.li (n := 0) o m0.2
end
end Pm


set_option Elab.async false
set_option linter.all false
set_option autoImplicit false
set_option maxRecDepth 100000
set_option maxHeartbeats 4000000
/-! KD: what was handed in is emptied (k01). -/
namespace Pm
open PySem PySem.Spec PyProof.Rows L2 Tr Wk
local macro_rules | `(tactic| exists $es,*) => do { let ls ← es.getElems.mapM fun e => `(Lean.Parser.Tactic.simpLemma| $e:term); `(tactic| simp -implicitDefEqProofs (disch := (first | assumption | omega | decide | (simp only [List.length_cons, List.length_nil, List.length_append, List.length_map, Tr.rgI_len]; omega) | (simp only [List.length_cons, List.length_nil, List.length_append, List.length_map, Int.toNat_natCast] at *; omega))) only [Tr.okT_lf, Tr.okT_nd, Tr.okT_li, Tr.okT_ll, Tr.okT_dk, Tr.okT_mks, Tr.okT_mk1, Tr.okT_mch, Tr.okT_scr, Tr.okT_tp, Tr.okO_some, Tr.gV_ev, Tr.gC_ev, Tr.gG_ev, Tr.fM_ev, Tr.fS_ev, Tr.gM_ev, Tr.gS_ev, Tr.fP_ev, Tr.fQ_ev, Tr.vr_ev, Tr.fRe_ev, Tr.re_ev, Tr.fO1_ev, Tr.o1V_ev, Tr.o1_ev, Tr.fO2V_ev, Tr.o2V_ev, Tr.fO2v'_ev, Tr.fO2v_ev, Tr.o2v_ev, Tr.fO2o'_ev, Tr.fO2o_ev, Tr.o2o_ev, Tr.fO2c'_ev, Tr.fO2c_ev, Tr.o2c_ev, Tr.fO2n''_ev, Tr.fO2n'_ev, Tr.fO2n_ev, Tr.o2n_ev, Tr.fAnd_ev, Tr.fOr_ev, Tr.dAnd_ev, Tr.dOr_ev, Tr.ite_BB, Tr.ite_decF, Tr.ite_Tdec, Tr.z_cast, Tr.z_ndec, Tr.ite_TF, Tr.ite_FT, Tr.bind_ite, Tr.aNil_ev, Tr.fCons'_ev, Tr.fCons_ev, Tr.aCons_ev, Tr.fCall'_ev, Tr.fCall_ev, Tr.dCall_ev, Tr.wb_nil, Tr.wb_none, Tr.fWb_ev, Tr.wb_some, Tr.fMeth'_ev, Tr.fMeth_ev, Tr.dMeth_ev, Tr.fMake'_ev, Tr.fMake_ev, Tr.dMake_ev, Tr.fSeq_nx, Tr.fSeq_rt, Tr.fSeq_bk, Tr.fSeq_ct, Tr.dSeq_ev, Tr.fIf_ev, Tr.dIf_ev, Tr.fSet_ev, Tr.dSet_ev, Tr.fRet_ev, Tr.dRet_ev, Tr.fEx_ev, Tr.dEx_ev, Tr.dRetN_ev, Tr.dNx_ev, Tr.dBk_ev, Tr.dCt_ev, Tr.dFail_ev, Tr.fPut''_ev, Tr.fPut'_ev, Tr.fPut1_ev, Tr.fPut_ev, Tr.dPut_ev, Tr.fMut3_ev, Tr.fMut2_ev, Tr.fMut1_ev, Tr.fMut_ev, Tr.dMut_ev, Tr.fLst_ev, Tr.fTup_ev, Tr.dLst_ev, Tr.dTup_ev, Tr.dDic_ev, Tr.fBw_ev, Tr.bw_ev, Tr.fFz_ev, Tr.fz_ev, Tr.fAug''_ev, Tr.fAug'_ev, Tr.fAug_ev, Tr.dAug_ev, Tr.z_ex, Tr.z_exT, Tr.fRng_nat, Tr.dRng_ev, Tr.fIt'_ev, Tr.fIt_ev, Tr.dIt_ev, Tr.fFor_ev, Tr.dFor_ev, Tr.gN_ev, Tr.fG_ev, Tr.gT2_ev, Tr.gT2_mk1, Tr.dFr_nil, Tr.turn_ev, Tr.fFr_nx, Tr.fFr_ct, Tr.fFr_bk, Tr.fFr_rt, Tr.dFr_cons, Tr.fLc'_ev, Tr.fLc_ev, Tr.dLc_ev, Tr.dLr_nil, Tr.wipeT_nil, Tr.wipeT_cons, Tr.backT_nil, Tr.backT_cons, Tr.cleanAt_nil, Tr.cleanAt_cons, Tr.fFun_rt, Tr.fFun_nx, Tr.dFun_ev, Tr.outs_cons, Tr.outs_nil, Tr.frzs_nil, Tr.frzs_cons, Tr.z_frz1, Tr.z_frz2, Tr.z_frz3, Tr.z_frz4, Tr.z_frz5, Tr.z_frz6, Tr.z_frz7, Tr.z_frz8, Tr.z_frz9, Tr.z_frz10, Tr.z_frz11, Tr.z_cln1, Tr.z_cln2, Tr.z_cln3, Tr.z_cln4, Tr.z_cln5, Tr.z_cln6, Tr.z_cln7, Tr.z_cln8, Tr.z_cln9, Tr.z_cln10, Tr.z_clns1, Tr.z_clns2, Tr.z_clns3, Tr.z_pure1, Tr.z_pure2, Tr.z_pure3, Tr.z_pure4, Tr.z_pure5, Tr.z_pure6, Tr.z_pure7, Tr.z_lfI, Tr.z_li, Tr.z_add, Tr.z_sub, Tr.z_mulr, Tr.z_mod, Tr.z_div, Tr.z_lt, Tr.z_le, Tr.z_gt, Tr.z_ge, Tr.z_eq, Tr.z_ne, Tr.z_neg, Tr.z_eqli, Tr.z_neli, Tr.z_eqnil, Tr.z_nenil, Tr.z_inli, Tr.z_ninli, Tr.z_indk, Tr.z_nindk, Tr.z_ll, Tr.z_mks, Tr.z_nil, Tr.z_appll, Tr.z_int1, Tr.z_int2, Tr.z_len1, Tr.z_len2, Tr.z_len3, Tr.z_len4, Tr.z_len5, Tr.z_len6, Tr.z_len7, Tr.z_not, Tr.z_isi1, Tr.z_isi2, Tr.z_isi3, Tr.z_isi4, Tr.z_isi5, Tr.z_isi6, Tr.z_list1, Tr.z_sort1, Tr.z_sort2, Tr.z_app1, Tr.z_app2, Tr.z_pop1, Tr.z_clr1, Tr.z_clr2, Tr.z_rev1, Tr.z_ext1, Tr.z_cat1, Tr.z_it1, Tr.z_it2, Tr.z_it3, Tr.z_it4, Tr.z_ty1, Tr.z_ty2, Tr.z_ty3, Tr.z_ty4, Tr.z_fst, Tr.z_fma, Tr.z_ffa, Tr.z_ins1, Tr.z_ins2, Tr.z_ins3, Tr.z_ins4, Tr.z_ins5, Tr.z_ixli, Tr.z_ixll, Tr.z_ixlast, Tr.z_setdk, Tr.fDic1_ev, Tr.fDic1'_ev, Tr.dDic1_ev, Tr.fLRg_nat, Tr.dLRg_ev, Tr.z_len8, Tr.z_bind_some, Tr.z_get0, Tr.z_gets, Tr.z_getD0, Tr.z_getDs, Tr.z_set0, Tr.z_sets, Tr.z_app, Tr.z_nil_app, Tr.z_app_nil, Tr.z_map0, Tr.z_mapc, Tr.z_rep0, Tr.z_reps, Tr.z_lenc, Tr.z_lenn, Tr.z_bno, Tr.fXs_nx, Tr.fXs_rt, Tr.fXs_no, Tr.xSeq_ev, Tr.fXif_ev, Tr.xIf_ev, Tr.xRz_ev, Tr.xNo_ev, Tr.fXc2_ev, Tr.fXc_ev, Tr.xCall_ev, Tr.fXfor_ev, Tr.xFor_ev, Tr.fXfun_ev, Tr.dFunX_ev, Tr.fTry2_bl, Tr.fTry2_str, Tr.fTry1_ev, Tr.fTry_so, Tr.fTry_no, Tr.dTry_ev, Tr.fFre_ev, Tr.fre_ev, Tr.fForE_ev, Tr.dForE_ev, Tr.z_c0, Tr.z_c1, Tr.z_c2, Tr.z_c3, Tr.z_okoV, Tr.z_okrk, Tr.z_okrl, Tr.z_frzoV, Tr.z_clnoV, Tr.z_pureoV, Tr.z_frzrk, Tr.z_clnrk, Tr.z_frzrl, Tr.z_clnrl, Tr.z_ixrl, Tr.z_lenrl, Tr.z_isirl, Tr.z_tyrl, Tr.z_clrrl, Tr.z_oVs, Tr.z_oVn, Tr.z_rks, Tr.z_rkn, Tr.z_ixt0, Tr.z_ixt1, Tr.z_isN1, Tr.z_isN2, Tr.z_isN3, Tr.z_notN1, Tr.z_notN2, Tr.z_notN3, Tr.z_isN4, Tr.z_notN4, Tr.z_isN5, Tr.z_notN5, Tr.fCh3_ev, Tr.fCh2_ev, Tr.fCh1_ev, Tr.z_ch, Tr.z_okdls, Tr.z_frzdls, Tr.z_clndls, Tr.z_ixdls, Tr.z_indls, Tr.z_okdds, Tr.z_frzdds, Tr.z_clndds, Tr.z_ixdds, Tr.fAsg'_ev, Tr.fAsg_ev, Tr.dAsg_ev, Tr.fBwS_ev, Tr.bwS_ev, Tr.fPt_ev, Tr.ptT_no, Tr.ptT_so, Tr.fSl2_ev, Tr.fSl1_ev, Tr.fSl_ev, Tr.dSl_ev, Tr.z_slli, Tr.z_cutTail, Tr.z_cutInit, Tr.z_okst, Tr.z_frzst, Tr.z_clnst, Tr.z_purest, Tr.z_addst, Tr.z_lenst, Tr.z_inst1, Tr.z_ninst1, Tr.z_ixst, Tr.eqL_self, Tr.eqL_nn, Tr.eqL_nc, Tr.eqL_cn, Tr.eqL_cc, Tr.z_eqst, Tr.z_nest, Tr.z_insl, Tr.z_ninsl, Tr.z_sq1, Tr.z_sq2, Tr.z_sq3, Tr.z_itst, Tr.z_isist, Tr.z_slst, Tr.z_cutOne, Tr.lit_all, Tr.lit_not, Tr.lit_both, Tr.lit_either, Tr.lit_somenext, Tr.lit_eachnext, Tr.lit_sometill, Tr.lit_eachtill, Tr.lit_someever, Tr.lit_eachever, Tr.lit_somealways, Tr.lit_eachalways, Tr.lit_mark, Tr.lit_loop, Tr.lit_rank, Tr.lit_walk, Tr.lit_shut, Tr.lit_out, Tr.lit_here, Tr.lit_dead, Tr.lit_plain, Tr.lit_step, Tr.lit_none, Tr.lit_fair, Tr.lit_answer, Tr.lit_p, Tr.lit_wet, Tr.lit_darkness, Tr.lit_x, Tr.lit_q, Tr.lit_empty, Tr.lit_in, Tr.lit_letters, Tr.z_kept, Tr.z_catX12, Tr.z_catT12, Tr.z_ixt2, Tr.z_frzsg, Tr.z_clnsg, Tr.z_oksg, Tr.z_oktl, Tr.z_frztl, Tr.z_clntl, Tr.z_insT_told, Tr.z_insT_joint, Tr.z_insT_over_walks, Tr.z_insT_contrary, Tr.z_insT_good, Tr.z_insT_some_next, Tr.z_insT_some_till, Tr.z_insT_each_till, Tr.z_fldT_machine, Tr.z_fldT_every, Tr.z_fldT_live, Tr.fEls_s, Tr.fEls_n, Tr.elsE_ev, Tr.fOO_s, Tr.fOO_n, Tr.oOr_ev, Tr.fMO_s, Tr.fMO_n, Tr.mOr_ev, Tr.oIs1_nd, Tr.dNew_ev, Tr.fFzk_ev, Tr.fzk_ev, Tr.fDfz_ev, Tr.dfz_ev, Tr.z_eqbl, Tr.z_nebl, Tr.z_beqtt, Tr.z_beqff, Tr.z_beqtf, Tr.z_beqft, Tr.z_isNll, Tr.z_isNli, Tr.z_catnd, Tr.dZip_ev, Tr.fZip_ev, Tr.fForZ_ev, Tr.fForZ1_ev, Tr.fForZ2_ev, Tr.dForZ_ev, Tr.fFzS_ev, Tr.fzS_ev, Tr.fRevR_nat, Tr.dRevR_ev, Tr.f3V2_ev, Tr.f3V1_ev, Tr.o3V_ev, Tr.fGetE2_ev, Tr.fGetE1_ev, Tr.dGetE_ev, Tr.z_sllo, Tr.dDisp_ev, Tr.fPutP4_ev, Tr.fPutP3_ev, Tr.fPutP2_ev, Tr.fPutP1_ev, Tr.dPutP_ev, Tr.dpV_ev, Tr.fDpV_ev, Tr.fJoin2_ev, Tr.fJoin1_ev, Tr.dJoin_ev, Tr.fTupO_ev, Tr.dTupO_ev, Tr.fLkK1_ev, Tr.lkK_ev, Tr.fDpIx_ev, Tr.dpIx_ev, Tr.fDpIx2_ll, Tr.z_setll, Tr.fDpIx2_t1, Tr.fDpIx2_t0, Tr.fMP3_ev, Tr.fMP2_ev, Tr.fMP1_ev, Tr.dMutP_ev, Tr.fMB2_ev, Tr.fMB1_ev, Tr.dMutPB_ev, Tr.z_min, Tr.z_oklS, Tr.z_frzlS, Tr.z_clnlS, Tr.z_purelS, Tr.z_itlS, Tr.z_inlS, Tr.z_ninlS, Tr.z_lfS, Tr.z_isiS, Tr.z_isNS, Tr.z_notNS, Tr.z_oksl, Tr.fG3'_ev, Tr.fG3_ev, Tr.gT3_ev, Tr.fMutN2_ev, Tr.fMutN1_ev, Tr.fMutN_ev, Tr.dMutN_ev, Tr.z_sset, Tr.z_tupli, Tr.fLdW2_ev, Tr.fLdW1_ev, Tr.ldW_ev, Tr.z_okFlnx, Tr.fMutT3_ev, Tr.fMutT2_ev, Tr.fMutT1_ev, Tr.dMutT_ev, Tr.fSpl3_ev, Tr.fSpl2_ev, Tr.fSpl1_ev, Tr.dSplit_ev, ↓reduceIte, ite_true, ite_false, Nat.reduceAdd, Nat.reduceSub, Nat.reduceLT, Nat.reduceLeDiff, Nat.zero_add, Nat.lt_add_one, Nat.zero_lt_succ, decide_true, decide_false, decide_eq_true_eq, decide_eq_false_iff_not, Bool.not_eq_true, Bool.not_eq_false, Bool.not_true, Bool.not_false, Bool.not_eq_true', Bool.and_true, Bool.true_and, Bool.and_self, Bool.and_eq_true, Bool.or_eq_true, not_true_eq_false, not_false_eq_true, eq_self, and_self, and_true, true_and, false_and, and_false, or_true, true_or, or_false, false_or, reduceCtorEq, Bool.false_eq_true, Int.toNat_natCast, Int.reduceToNat, Int.reduceEq, Int.reduceLT, Int.reduceLE, Int.reduceNeg, Int.reduceAdd, Int.reduceSub, Int.reduceMul, List.length_map, Bool.not_not, Bool.not_eq_eq_eq_not, Decidable.not_not, Nat.reduceEqDiff, Bool.false_and, Bool.and_false, Option.isSome_some, Option.isSome_none, Option.isNone_some, Option.isNone_none, $ls,*]) }

section
variable {n : Nat} {rs : List (List Int)} {ms : List (List Nat × List Int)} {fs : List (List Int)} (h : MW n rs ms fs)
def allL (rs : List (List Int)) (ms : List (List Nat × List Int)) (fs : List (List Int)) : List (List Int) := rs ++ ms.map (·.2) ++ fs
theorem pks_ms (ms : List (List Nat × List Int)) : pks ((msS ms).map (mk1 true)) = some ((ms.map (·.2)).map (li true)) := by
  induction ms with
  | nil => rfl
  | cons m ms ih =>
    show (pk1 (mk1 true (⟨m.1.toArray⟩, m.2))).bind _ = _
    have e : (ms.map fun m => ((⟨m.1.toArray⟩ : Str), m.2)) = msS ms := rfl
    show (some (li true m.2)).bind (fun u => (pks ((msS ms).map (mk1 true))).map fun us => u :: us) = _
    rw [ih]; rfl
include h
theorem dt_PTx (o : Bool) : Dt 4 (PTx o rs ms fs) := .tup fun x hx => by
  rcases List.mem_cons.mp hx with rfl | hx
  · exact Dt.ll (n := 1) o rs
  · rcases List.mem_cons.mp hx with rfl | hx
    · exact dt_mks h o
    · rw [List.mem_singleton.mp hx]; exact Dt.ll (n := 1) o fs
theorem law_made_ok : ∃ a, m_law_made [PTx false rs ms fs] = some (mchO rs (msS ms) fs, [a]) := by
  have hn := h.hr.len
  have n60 := h.hr.le
  have ml := h.hl
  have fl := h.hf.le
  obtain ⟨a0, cp⟩ := law_copy_ok h
  have mlS : (msS ms).length = ms.length := by unfold msS; rw [List.length_map]
  have oP0 : okT (PTx false rs ms fs) = some (PTx false rs ms fs) := rfl
  have fP0 : frz (PTx false rs ms fs) = PTx false rs ms fs := frz_PTx false rs ms fs
  have gt : ∀ e : List T, gT3 (gN 3) (gN 4) (gN 5) (PTx true rs ms fs) e = (gN 3 (ll true rs) e).bind fun e => (gN 4 (mks true (msS ms)) e).bind fun e => gN 5 (ll true fs) e := fun e => rfl
  have okR : okT (ll true rs) = some (ll true rs) := rfl
  have okM : okT (mks true (msS ms)) = some (mks true (msS ms)) := rfl
  have okF : okT (ll true fs) = some (ll true fs) := rfl
  have frR : frz (ll true rs) = ll false rs := frz_ll _ _
  have frM : frz (mks true (msS ms)) = mks false (msS ms) := frz_mks _ _
  have frF : frz (ll true fs) = ll false fs := frz_ll _ _
  have frR0 : frz (ll false rs) = ll false rs := frz_ll _ _
  have frM0 : frz (mks false (msS ms)) = mks false (msS ms) := frz_mks _ _
  have frF0 : frz (ll false fs) = ll false fs := frz_ll _ _
  have okR0 : okT (ll false rs) = some (ll false rs) := rfl
  have okM0 : okT (mks false (msS ms)) = some (mks false (msS ms)) := rfl
  have okF0 : okT (ll false fs) = some (ll false fs) := rfl
  have ini := init_O rs fs (msS ms) h.hr h.mks h.hf (ll false rs) (mks false (msS ms)) (ll false fs) frR0 rfl (.inr ⟨frM0, rfl, rfl⟩) (.inr ⟨frF0, rfl, rfl⟩)
  have oMC : okT (mchO rs (msS ms) fs) = some (mchO rs (msS ms) fs) := rfl
  have fMC := frz_mchO rs (msS ms) fs
  have pMC := pure_mchO rs (msS ms) fs
  have oM0 : okT (mch false rs (msS ms) fs) = some (mch false rs (msS ms) fs) := rfl
  have tup0 : (.nd false .tup [ll false rs, mks false (msS ms), ll false fs] : T) = PTx false rs ms fs := rfl
  have ne : oNe (PTx false rs ms fs) (PTx false rs ms fs) = some (.lf (.bl false)) := oNe_alike (n := 4) (by omega) (dt_PTx h false) rfl
  -- the lists that are walked
  have s1 := small (n := ms.length) (by omega)
  have s2 := small (n := rs.length + ms.length) (by omega)
  have s3 := small (n := rs.length + ms.length + fs.length) (by omega)
  have e0 : ∀ A B C : T, dPick 4 [A, B, C, ll true rs, mks true (msS ms), ll true fs, .no] = some (.nd true .lst ((ms.map (·.2)).map (li true)), [A, B, C, ll true rs, .nd true .lst (nos ((msS ms).map (mk1 true))), ll true fs, .no]) := fun A B C => by
    have g : gV 4 [A, B, C, ll true rs, mks true (msS ms), ll true fs, .no] = some (.nd true .lst ((msS ms).map (mk1 true))) := rfl
    unfold dPick
    rw [g]
    simp only []
    rw [pks_ms ms]
    simp only []
    rw [if_pos (by rw [List.length_map, List.length_map]; exact s1)]
    rfl
  have e1 : ∀ A B C : T, dCatL 3 (dPick 4) [A, B, C, ll true rs, mks true (msS ms), ll true fs, .no] = some (.nd true .lst (rs.map (li true) ++ (ms.map (·.2)).map (li true)), [A, B, C, .nd true .lst (nos (rs.map (li true))), .nd true .lst (nos ((msS ms).map (mk1 true))), ll true fs, .no]) := fun A B C => by
    have g : gV 3 [A, B, C, ll true rs, mks true (msS ms), ll true fs, .no] = some (.nd true .lst (rs.map (li true))) := rfl
    have g2 : gV 3 [A, B, C, ll true rs, .nd true .lst (nos ((msS ms).map (mk1 true))), ll true fs, .no] = some (.nd true .lst (rs.map (li true))) := rfl
    unfold dCatL
    rw [g, e0]
    simp only []
    rw [g2]
    simp only []
    rw [if_pos (by rw [List.length_map, List.length_map, List.length_map]; exact Nat.le_of_lt s2)]
    rfl
  have e2 : ∀ A B C : T, dCatR (dCatL 3 (dPick 4)) 5 [A, B, C, ll true rs, mks true (msS ms), ll true fs, .no] = some (.nd true .lst ((allL rs ms fs).map (li true)), [A, B, C, .nd true .lst (nos (rs.map (li true))), .nd true .lst (nos ((msS ms).map (mk1 true))), .nd true .lst (nos (fs.map (li true))), .no]) := fun A B C => by
    have g : ∀ X Y : T, gV 5 [A, B, C, X, Y, ll true fs, .no] = some (.nd true .lst (fs.map (li true))) := fun X Y => rfl
    unfold dCatR
    rw [e1]
    simp only []
    rw [g]
    simp only []
    rw [if_pos (by rw [List.length_append, List.length_map, List.length_map, List.length_map, List.length_map]; exact Nat.le_of_lt s3)]
    unfold allL
    rw [List.map_append, List.map_append]
    rfl
  have lpA : ∀ A B D E F G : T, ∃ C', dFr (gN 2) l_law_made_1 ((allL rs ms fs).map (li true)) [A, B, .no, D, E, F, G] = some (.nx, [A, B, C', D, E, F, G]) := fun A B D E F G => by
    obtain ⟨env', h1, C', rfl⟩ := lp (dg := gN 2) (d := l_law_made_1) ((allL rs ms fs).map (li true)) (fun _ env => ∃ C, env = [A, B, C, D, E, F, G]) [A, B, .no, D, E, F, G] ⟨_, rfl⟩ (by
      rintro i t env hi ⟨C, rfl⟩
      rw [List.getElem?_map] at hi
      obtain ⟨x, _, rfl⟩ := Option.map_eq_some_iff.mp hi
      refine ⟨[A, B, li true [], D, E, F, G], .inl ?_, _, rfl⟩
      exists l_law_made_1)
    exact ⟨C', h1⟩
  have cl : ∀ xs, mClear (.nd true .lst xs) [] = some (.lf .non, li true []) := fun xs => rfl
  generalize allL rs ms fs = AL at *
  generalize (AL.map (li true)) = ITS at *
  generalize nos (rs.map (li true)) = N1 at *
  generalize nos ((msS ms).map (mk1 true)) = N2 at *
  generalize nos (fs.map (li true)) = N3 at *
  clear e0 e1 h
  generalize PTx true rs ms fs = P1 at *
  generalize ll false rs = R1 at *
  generalize mks false (msS ms) = R2 at *
  generalize ll false fs = R3 at *
  generalize ll true rs = R4 at *
  generalize mks true (msS ms) = R5 at *
  generalize ll true fs = R6 at *
  generalize PTx false rs ms fs = P0 at *
  generalize mchO rs (msS ms) fs = MC at *
  generalize mch false rs (msS ms) fs = M0 at *
  obtain ⟨C', lp1⟩ := lpA P0 MC (.nd true .lst N1) (.nd true .lst N2) (.nd true .lst N3) .no
  exists m_law_made, bn_law_made, cp, oP0, fP0, gt, okR, okM, okF, frR, frM, frF, okR0, okM0, okF0, frR0, frM0, frF0, ini, oMC, fMC, pMC, oM0, tup0, ne, e2, lp1, cl
  exact ⟨_, rfl⟩
end
end Pm


set_option Elab.async false
set_option linter.all false
set_option maxRecDepth 100000
set_option maxHeartbeats 4000000
namespace Pm
open PySem PySem.Spec PyProof.Rows L2 Tr Wk
theorem next_of_ok (rs ms fs) (k : Nat) (h : k < rs.length) : m_Machine_next_of [mch false rs ms fs, I k] = some (li true (isort (rs.getD k [])), [mch false rs ms fs, I k]) :=
  E_fun (e := [mch false rs ms fs, I k]) rfl (E_ret (E_1 (E_vr (E_2V (E_1V rfl (fld_steps _ _ _ _)) rfl (ix_at rs false k h))) (oSorted_li _ _))) rfl
end Pm


set_option Elab.async false
set_option linter.all false
set_option autoImplicit false
set_option maxRecDepth 100000
set_option maxHeartbeats 4000000
/-! KG: what a machine tells (k01). -/
namespace Pm
open PySem PySem.Spec PyProof.Rows L2 Tr Wk
local macro_rules | `(tactic| exists $es,*) => do { let ls ← es.getElems.mapM fun e => `(Lean.Parser.Tactic.simpLemma| $e:term); `(tactic| simp -implicitDefEqProofs (disch := (first | assumption | omega | decide | (simp only [List.length_cons, List.length_nil, List.length_append, List.length_map, Tr.rgI_len]; omega) | (simp only [List.length_cons, List.length_nil, List.length_append, List.length_map, Int.toNat_natCast] at *; omega))) only [Tr.okT_lf, Tr.okT_nd, Tr.okT_li, Tr.okT_ll, Tr.okT_dk, Tr.okT_mks, Tr.okT_mk1, Tr.okT_mch, Tr.okT_scr, Tr.okT_tp, Tr.okO_some, Tr.gV_ev, Tr.gC_ev, Tr.gG_ev, Tr.fM_ev, Tr.fS_ev, Tr.gM_ev, Tr.gS_ev, Tr.fP_ev, Tr.fQ_ev, Tr.vr_ev, Tr.fRe_ev, Tr.re_ev, Tr.fO1_ev, Tr.o1V_ev, Tr.o1_ev, Tr.fO2V_ev, Tr.o2V_ev, Tr.fO2v'_ev, Tr.fO2v_ev, Tr.o2v_ev, Tr.fO2o'_ev, Tr.fO2o_ev, Tr.o2o_ev, Tr.fO2c'_ev, Tr.fO2c_ev, Tr.o2c_ev, Tr.fO2n''_ev, Tr.fO2n'_ev, Tr.fO2n_ev, Tr.o2n_ev, Tr.fAnd_ev, Tr.fOr_ev, Tr.dAnd_ev, Tr.dOr_ev, Tr.ite_BB, Tr.ite_decF, Tr.ite_Tdec, Tr.z_cast, Tr.z_ndec, Tr.ite_TF, Tr.ite_FT, Tr.bind_ite, Tr.aNil_ev, Tr.fCons'_ev, Tr.fCons_ev, Tr.aCons_ev, Tr.fCall'_ev, Tr.fCall_ev, Tr.dCall_ev, Tr.wb_nil, Tr.wb_none, Tr.fWb_ev, Tr.wb_some, Tr.fMeth'_ev, Tr.fMeth_ev, Tr.dMeth_ev, Tr.fMake'_ev, Tr.fMake_ev, Tr.dMake_ev, Tr.fSeq_nx, Tr.fSeq_rt, Tr.fSeq_bk, Tr.fSeq_ct, Tr.dSeq_ev, Tr.fIf_ev, Tr.dIf_ev, Tr.fSet_ev, Tr.dSet_ev, Tr.fRet_ev, Tr.dRet_ev, Tr.fEx_ev, Tr.dEx_ev, Tr.dRetN_ev, Tr.dNx_ev, Tr.dBk_ev, Tr.dCt_ev, Tr.dFail_ev, Tr.fPut''_ev, Tr.fPut'_ev, Tr.fPut1_ev, Tr.fPut_ev, Tr.dPut_ev, Tr.fMut3_ev, Tr.fMut2_ev, Tr.fMut1_ev, Tr.fMut_ev, Tr.dMut_ev, Tr.fLst_ev, Tr.fTup_ev, Tr.dLst_ev, Tr.dTup_ev, Tr.dDic_ev, Tr.fBw_ev, Tr.bw_ev, Tr.fFz_ev, Tr.fz_ev, Tr.fAug''_ev, Tr.fAug'_ev, Tr.fAug_ev, Tr.dAug_ev, Tr.z_ex, Tr.z_exT, Tr.fRng_nat, Tr.dRng_ev, Tr.fIt'_ev, Tr.fIt_ev, Tr.dIt_ev, Tr.fFor_ev, Tr.dFor_ev, Tr.gN_ev, Tr.fG_ev, Tr.gT2_ev, Tr.gT2_mk1, Tr.dFr_nil, Tr.turn_ev, Tr.fFr_nx, Tr.fFr_ct, Tr.fFr_bk, Tr.fFr_rt, Tr.dFr_cons, Tr.fLc'_ev, Tr.fLc_ev, Tr.dLc_ev, Tr.dLr_nil, Tr.wipeT_nil, Tr.wipeT_cons, Tr.backT_nil, Tr.backT_cons, Tr.cleanAt_nil, Tr.cleanAt_cons, Tr.fFun_rt, Tr.fFun_nx, Tr.dFun_ev, Tr.outs_cons, Tr.outs_nil, Tr.frzs_nil, Tr.frzs_cons, Tr.z_frz1, Tr.z_frz2, Tr.z_frz3, Tr.z_frz4, Tr.z_frz5, Tr.z_frz6, Tr.z_frz7, Tr.z_frz8, Tr.z_frz9, Tr.z_frz10, Tr.z_frz11, Tr.z_cln1, Tr.z_cln2, Tr.z_cln3, Tr.z_cln4, Tr.z_cln5, Tr.z_cln6, Tr.z_cln7, Tr.z_cln8, Tr.z_cln9, Tr.z_cln10, Tr.z_clns1, Tr.z_clns2, Tr.z_clns3, Tr.z_pure1, Tr.z_pure2, Tr.z_pure3, Tr.z_pure4, Tr.z_pure5, Tr.z_pure6, Tr.z_pure7, Tr.z_lfI, Tr.z_li, Tr.z_add, Tr.z_sub, Tr.z_mulr, Tr.z_mod, Tr.z_div, Tr.z_lt, Tr.z_le, Tr.z_gt, Tr.z_ge, Tr.z_eq, Tr.z_ne, Tr.z_neg, Tr.z_eqli, Tr.z_neli, Tr.z_eqnil, Tr.z_nenil, Tr.z_inli, Tr.z_ninli, Tr.z_indk, Tr.z_nindk, Tr.z_ll, Tr.z_mks, Tr.z_nil, Tr.z_appll, Tr.z_int1, Tr.z_int2, Tr.z_len1, Tr.z_len2, Tr.z_len3, Tr.z_len4, Tr.z_len5, Tr.z_len6, Tr.z_len7, Tr.z_not, Tr.z_isi1, Tr.z_isi2, Tr.z_isi3, Tr.z_isi4, Tr.z_isi5, Tr.z_isi6, Tr.z_list1, Tr.z_sort1, Tr.z_sort2, Tr.z_app1, Tr.z_app2, Tr.z_pop1, Tr.z_clr1, Tr.z_clr2, Tr.z_rev1, Tr.z_ext1, Tr.z_cat1, Tr.z_it1, Tr.z_it2, Tr.z_it3, Tr.z_it4, Tr.z_ty1, Tr.z_ty2, Tr.z_ty3, Tr.z_ty4, Tr.z_fst, Tr.z_fma, Tr.z_ffa, Tr.z_ins1, Tr.z_ins2, Tr.z_ins3, Tr.z_ins4, Tr.z_ins5, Tr.z_ixli, Tr.z_ixll, Tr.z_ixlast, Tr.z_setdk, Tr.fDic1_ev, Tr.fDic1'_ev, Tr.dDic1_ev, Tr.fLRg_nat, Tr.dLRg_ev, Tr.z_len8, Tr.z_bind_some, Tr.z_get0, Tr.z_gets, Tr.z_getD0, Tr.z_getDs, Tr.z_set0, Tr.z_sets, Tr.z_app, Tr.z_nil_app, Tr.z_app_nil, Tr.z_map0, Tr.z_mapc, Tr.z_rep0, Tr.z_reps, Tr.z_lenc, Tr.z_lenn, Tr.z_bno, Tr.fXs_nx, Tr.fXs_rt, Tr.fXs_no, Tr.xSeq_ev, Tr.fXif_ev, Tr.xIf_ev, Tr.xRz_ev, Tr.xNo_ev, Tr.fXc2_ev, Tr.fXc_ev, Tr.xCall_ev, Tr.fXfor_ev, Tr.xFor_ev, Tr.fXfun_ev, Tr.dFunX_ev, Tr.fTry2_bl, Tr.fTry2_str, Tr.fTry1_ev, Tr.fTry_so, Tr.fTry_no, Tr.dTry_ev, Tr.fFre_ev, Tr.fre_ev, Tr.fForE_ev, Tr.dForE_ev, Tr.z_c0, Tr.z_c1, Tr.z_c2, Tr.z_c3, Tr.z_okoV, Tr.z_okrk, Tr.z_okrl, Tr.z_frzoV, Tr.z_clnoV, Tr.z_pureoV, Tr.z_frzrk, Tr.z_clnrk, Tr.z_frzrl, Tr.z_clnrl, Tr.z_ixrl, Tr.z_lenrl, Tr.z_isirl, Tr.z_tyrl, Tr.z_clrrl, Tr.z_oVs, Tr.z_oVn, Tr.z_rks, Tr.z_rkn, Tr.z_ixt0, Tr.z_ixt1, Tr.z_isN1, Tr.z_isN2, Tr.z_isN3, Tr.z_notN1, Tr.z_notN2, Tr.z_notN3, Tr.z_isN4, Tr.z_notN4, Tr.z_isN5, Tr.z_notN5, Tr.fCh3_ev, Tr.fCh2_ev, Tr.fCh1_ev, Tr.z_ch, Tr.z_okdls, Tr.z_frzdls, Tr.z_clndls, Tr.z_ixdls, Tr.z_indls, Tr.z_okdds, Tr.z_frzdds, Tr.z_clndds, Tr.z_ixdds, Tr.fAsg'_ev, Tr.fAsg_ev, Tr.dAsg_ev, Tr.fBwS_ev, Tr.bwS_ev, Tr.fPt_ev, Tr.ptT_no, Tr.ptT_so, Tr.fSl2_ev, Tr.fSl1_ev, Tr.fSl_ev, Tr.dSl_ev, Tr.z_slli, Tr.z_cutTail, Tr.z_cutInit, Tr.z_okst, Tr.z_frzst, Tr.z_clnst, Tr.z_purest, Tr.z_addst, Tr.z_lenst, Tr.z_inst1, Tr.z_ninst1, Tr.z_ixst, Tr.eqL_self, Tr.eqL_nn, Tr.eqL_nc, Tr.eqL_cn, Tr.eqL_cc, Tr.z_eqst, Tr.z_nest, Tr.z_insl, Tr.z_ninsl, Tr.z_sq1, Tr.z_sq2, Tr.z_sq3, Tr.z_itst, Tr.z_isist, Tr.z_slst, Tr.z_cutOne, Tr.lit_all, Tr.lit_not, Tr.lit_both, Tr.lit_either, Tr.lit_somenext, Tr.lit_eachnext, Tr.lit_sometill, Tr.lit_eachtill, Tr.lit_someever, Tr.lit_eachever, Tr.lit_somealways, Tr.lit_eachalways, Tr.lit_mark, Tr.lit_loop, Tr.lit_rank, Tr.lit_walk, Tr.lit_shut, Tr.lit_out, Tr.lit_here, Tr.lit_dead, Tr.lit_plain, Tr.lit_step, Tr.lit_none, Tr.lit_fair, Tr.lit_answer, Tr.lit_p, Tr.lit_wet, Tr.lit_darkness, Tr.lit_x, Tr.lit_q, Tr.lit_empty, Tr.lit_in, Tr.lit_letters, Tr.z_kept, Tr.z_catX12, Tr.z_catT12, Tr.z_ixt2, Tr.z_frzsg, Tr.z_clnsg, Tr.z_oksg, Tr.z_oktl, Tr.z_frztl, Tr.z_clntl, Tr.z_insT_told, Tr.z_insT_joint, Tr.z_insT_over_walks, Tr.z_insT_contrary, Tr.z_insT_good, Tr.z_insT_some_next, Tr.z_insT_some_till, Tr.z_insT_each_till, Tr.z_fldT_machine, Tr.z_fldT_every, Tr.z_fldT_live, Tr.fEls_s, Tr.fEls_n, Tr.elsE_ev, Tr.fOO_s, Tr.fOO_n, Tr.oOr_ev, Tr.fMO_s, Tr.fMO_n, Tr.mOr_ev, Tr.oIs1_nd, Tr.dNew_ev, Tr.fFzk_ev, Tr.fzk_ev, Tr.fDfz_ev, Tr.dfz_ev, Tr.z_eqbl, Tr.z_nebl, Tr.z_beqtt, Tr.z_beqff, Tr.z_beqtf, Tr.z_beqft, Tr.z_isNll, Tr.z_isNli, Tr.z_catnd, Tr.dZip_ev, Tr.fZip_ev, Tr.fForZ_ev, Tr.fForZ1_ev, Tr.fForZ2_ev, Tr.dForZ_ev, Tr.fFzS_ev, Tr.fzS_ev, Tr.fRevR_nat, Tr.dRevR_ev, Tr.f3V2_ev, Tr.f3V1_ev, Tr.o3V_ev, Tr.fGetE2_ev, Tr.fGetE1_ev, Tr.dGetE_ev, Tr.z_sllo, Tr.dDisp_ev, Tr.fPutP4_ev, Tr.fPutP3_ev, Tr.fPutP2_ev, Tr.fPutP1_ev, Tr.dPutP_ev, Tr.dpV_ev, Tr.fDpV_ev, Tr.fJoin2_ev, Tr.fJoin1_ev, Tr.dJoin_ev, Tr.fTupO_ev, Tr.dTupO_ev, Tr.fLkK1_ev, Tr.lkK_ev, Tr.fDpIx_ev, Tr.dpIx_ev, Tr.fDpIx2_ll, Tr.z_setll, Tr.fDpIx2_t1, Tr.fDpIx2_t0, Tr.fMP3_ev, Tr.fMP2_ev, Tr.fMP1_ev, Tr.dMutP_ev, Tr.fMB2_ev, Tr.fMB1_ev, Tr.dMutPB_ev, Tr.z_min, Tr.z_oklS, Tr.z_frzlS, Tr.z_clnlS, Tr.z_purelS, Tr.z_itlS, Tr.z_inlS, Tr.z_ninlS, Tr.z_lfS, Tr.z_isiS, Tr.z_isNS, Tr.z_notNS, Tr.z_oksl, Tr.fG3'_ev, Tr.fG3_ev, Tr.gT3_ev, Tr.fMutN2_ev, Tr.fMutN1_ev, Tr.fMutN_ev, Tr.dMutN_ev, Tr.z_sset, Tr.z_tupli, Tr.fLdW2_ev, Tr.fLdW1_ev, Tr.ldW_ev, Tr.z_okFlnx, Tr.fMutT3_ev, Tr.fMutT2_ev, Tr.fMutT1_ev, Tr.dMutT_ev, Tr.fSpl3_ev, Tr.fSpl2_ev, Tr.fSpl1_ev, Tr.dSplit_ev, ↓reduceIte, ite_true, ite_false, Nat.reduceAdd, Nat.reduceSub, Nat.reduceLT, Nat.reduceLeDiff, Nat.zero_add, Nat.lt_add_one, Nat.zero_lt_succ, decide_true, decide_false, decide_eq_true_eq, decide_eq_false_iff_not, Bool.not_eq_true, Bool.not_eq_false, Bool.not_true, Bool.not_false, Bool.not_eq_true', Bool.and_true, Bool.true_and, Bool.and_self, Bool.and_eq_true, Bool.or_eq_true, not_true_eq_false, not_false_eq_true, eq_self, and_self, and_true, true_and, false_and, and_false, or_true, true_or, or_false, false_or, reduceCtorEq, Bool.false_eq_true, Int.toNat_natCast, Int.reduceToNat, Int.reduceEq, Int.reduceLT, Int.reduceLE, Int.reduceNeg, Int.reduceAdd, Int.reduceSub, Int.reduceMul, List.length_map, Bool.not_not, Bool.not_eq_eq_eq_not, Decidable.not_not, Nat.reduceEqDiff, Bool.false_and, Bool.and_false, Option.isSome_some, Option.isSome_none, Option.isNone_some, Option.isNone_none, $ls,*]) }

theorem many_ok (o : Bool) (rs : List (List Int)) (ms : List (Str × List Int)) (fs : List (List Int)) : m_Machine_many [mch o rs ms fs] = some (.lf (.int (rs.length : Int)), [mch o rs ms fs]) := by
  have f1 : oFld "Machine" "steps" (mch o rs ms fs) = some (ll o rs) := fld_steps _ _ _ _
  have om : okT (mch o rs ms fs) = some (mch o rs ms fs) := rfl
  generalize mch o rs ms fs = MC at *
  exists m_Machine_many, bn_Machine_many, om, f1
theorem fair_at_ok (o : Bool) (rs ms fs) (k : Nat) (h : k < fs.length) : m_Machine_fair_at [mch o rs ms fs, I k] = some (li true (isort (fs.getD k [])), [mch o rs ms fs, I k]) :=
  E_fun (e := [mch o rs ms fs, I k]) rfl (E_ret (E_1 (E_vr (E_2V (E_1V rfl (fld_fair _ _ _ _)) rfl (ix_at fs o k h))) (oSorted_li _ _))) rfl
def mkS (ms : List (Str × List Int)) (w : List Nat) : List Int := match ms.find? (fun m => decide (m.1 = ⟨w.toArray⟩)) with
  | some m => isort m.2
  | none => []
theorem marked_ok (rs ms fs) (hm : ∀ m ∈ ms, PyData.strOk m.1 = true) (w : List Nat) (hw : Okc w = true) : m_Machine_marked [mch false rs ms fs, tx w] = some (li true (mkS ms w), [mch false rs ms fs, tx w]) := by
  obtain ⟨e, ⟨x2, x3, rfl⟩, h1⟩ := lp_fst (dg := gT2 (gN 2) (gN 3)) (d := l_Machine_marked_1) (fun env => ∃ x2 x3, env = e_Machine_marked (mch false rs ms fs) (tx w) x2 x3) (fun m : Str × List Int => decide (m.1 = ⟨w.toArray⟩)) (mk1 false) (fun m => li true (isort m.2)) ms (e_Machine_marked (mch false rs ms fs) (tx w) .no .no) ⟨_, _, rfl⟩ (by
    rintro m hmm env ⟨x2, x3, rfl⟩
    have e := oEq_str (hm m hmm) (strOk_st hw)
    have e' : oEq (.lf (.str m.1)) (tx w) = _ := e
    cases hp : decide (m.1 = (⟨w.toArray⟩ : Str)) with
    | true =>
      rw [hp] at e'
      exists l_Machine_marked_1, e'
      first | exact ⟨_, rfl, _, _, rfl⟩ | exact ⟨_, _, rfl⟩
    | false =>
      rw [hp] at e'
      exists l_Machine_marked_1, e'
      first | exact ⟨_, rfl, _, _, rfl⟩ | exact ⟨_, _, rfl⟩)
  unfold mkS
  cases hf : ms.find? (fun m => decide (m.1 = ⟨w.toArray⟩)) with
  | some m =>
    rw [hf] at h1
    exists m_Machine_marked, bn_Machine_marked, h1
  | none =>
    rw [hf] at h1
    exists m_Machine_marked, bn_Machine_marked, h1
theorem law_set_ok (o o' : Bool) (D : List Int) : ∃ a b, m_law_set [li true (isort D), li o' D] = some (.lf (.bl true), [a, b]) := by
  generalize hA : isort D = A
  have so : ∀ o, oSorted (li o D) = some (li true A) := fun o => by rw [oSorted_li, hA]
  obtain ⟨e, h1, x2, rfl⟩ := lp_li (dg := gN 2) (d := l_law_set_1) A (fun _ env => ∃ x2, env = e_law_set .no (li o' D) x2) (e_law_set .no (li o' D) .no) ⟨_, rfl⟩ (by
    rintro i hi env ⟨x2, rfl⟩
    exists l_law_set_1
    exact ⟨_, rfl⟩)
  have fL : dForL 0 (gN 2) l_law_set_1 [li true A, li o' D, .no] = some (.nx, [li true A, li o' D, x2]) := by
    have i1 : itemsC (li true A) = some (A.map lfI) := by
      show (if clns (A.map lfI) = true then some (A.map lfI) else none) = _
      rw [clns_ints]; rfl
    have g0 : gV 0 [li true A, li o' D, .no] = some (li true A) := rfl
    unfold dForL
    rw [g0]
    simp only []
    rw [i1]
    simp only []
    show (match dFr (gN 2) l_law_set_1 (A.map lfI) (e_law_set .no (li o' D) .no) with | some (r, e) => _ | none => _) = _
    rw [h1]
    rfl
  clear h1
  exists m_law_set, bn_law_set, fL, so
  exact ⟨_, _, rfl⟩
section
variable {n : Nat} {rs : List (List Int)} {ms : List (List Nat × List Int)} {fs : List (List Int)} (h : MW n rs ms fs)
theorem mkS_mem : ∀ (ms : List (List Nat × List Int)), (ms.map (·.1)).Nodup → ∀ m ∈ ms, mkS (msS ms) m.1 = isort m.2 := fun ms hd m hm => by
  have key : (msS ms).find? (fun x => decide (x.1 = (⟨m.1.toArray⟩ : Str))) = some (⟨m.1.toArray⟩, m.2) := by
    induction ms with
    | nil => cases hm
    | cons a as ih =>
      show ((⟨a.1.toArray⟩, a.2) :: msS as).find? _ = _
      rw [List.map_cons, List.nodup_cons] at hd
      by_cases e : a.1 = m.1
      · have : a = m := by
          rcases List.mem_cons.mp hm with r | hm
          · exact r.symm
          · exact absurd (List.mem_map.mpr ⟨m, hm, e.symm⟩) hd.1
        subst this
        rw [List.find?_cons_of_pos (by simp)]
      · rw [List.find?_cons_of_neg (by simp only [decide_eq_true_eq]; exact fun z => e (str_inj.mp z))]
        refine ih hd.2 ?_
        rcases List.mem_cons.mp hm with r | hm
        · exact absurd (by rw [r]) e
        · exact hm
  unfold mkS
  rw [key]
theorem mkS_off (ms : List (List Nat × List Int)) (w : List Nat) (hw : w ∉ ms.map (·.1)) : mkS (msS ms) w = [] := by
  have key : (msS ms).find? (fun x => decide (x.1 = (⟨w.toArray⟩ : Str))) = none := by
    rw [List.find?_eq_none]
    intro x hx
    obtain ⟨m, hm, rfl⟩ := List.mem_map.mp hx
    simp only [decide_eq_true_eq]
    exact fun z => hw (List.mem_map.mpr ⟨m, hm, str_inj.mp z⟩)
  unfold mkS
  rw [key]
include h
theorem MW.sok : ∀ m ∈ msS ms, PyData.strOk m.1 = true := fun m hm => by
  obtain ⟨x, hx, rfl⟩ := List.mem_map.mp hm
  exact strOk_st (h.hm x hx).1.okc
theorem law_tells_ok : ∃ a b, m_law_tells [mch false rs (msS ms) fs, PTx false rs ms fs] = some (.lf (.bl true), [a, b]) := by
  have hn := h.hr.len
  have n60 := h.hr.le
  have ml := h.hl
  have fl := h.hf.le
  have mn := many_ok false rs (msS ms) fs
  have oMC : okT (mch false rs (msS ms) fs) = some (mch false rs (msS ms) fs) := rfl
  have fMC : frz (mch false rs (msS ms) fs) = mch false rs (msS ms) fs := frz_mch _ _ _ _
  have i1 : isIns "Machine" "many" (mch false rs (msS ms) fs) = true := isIns_mch _ _ _ _ (by decide)
  have i2 : isIns "Machine" "next_of" (mch false rs (msS ms) fs) = true := isIns_mch _ _ _ _ (by decide)
  have i3 : isIns "Machine" "marked" (mch false rs (msS ms) fs) = true := isIns_mch _ _ _ _ (by decide)
  have i4 : isIns "Machine" "fair_at" (mch false rs (msS ms) fs) = true := isIns_mch _ _ _ _ (by decide)
  have gt : ∀ e : List T, gT3 (gN 6) (gN 7) (gN 8) (PTx false rs ms fs) e = (gN 6 (ll false rs) e).bind fun e => (gN 7 (mks false (msS ms)) e).bind fun e => gN 8 (ll false fs) e := fun e => rfl
  have oP0 : okT (PTx false rs ms fs) = some (PTx false rs ms fs) := rfl
  have okR : okT (ll false rs) = some (ll false rs) := rfl
  have okM : okT (mks false (msS ms)) = some (mks false (msS ms)) := rfl
  have okF : okT (ll false fs) = some (ll false fs) := rfl
  have frR : frz (ll false rs) = ll false rs := frz_ll _ _
  have frM : frz (mks false (msS ms)) = mks false (msS ms) := frz_mks _ _
  have frF : frz (ll false fs) = ll false fs := frz_ll _ _
  have iM : itemsL (mks false (msS ms)) = some ((msS ms).map (mk1 false)) := items_mks _ _
  have lR : oLen (ll false rs) = some (.lf (.int (rs.length : Int))) := oLen_ll _ _
  have lF : oLen (ll false fs) = some (.lf (.int (fs.length : Int))) := oLen_ll _ _
  have nxt : ∀ i, i < rs.length → m_Machine_next_of [mch false rs (msS ms) fs, .lf (.int (i : Int))] = some (li true (isort (rs.getD i [])), [mch false rs (msS ms) fs, .lf (.int (i : Int))]) := fun i hi => next_of_ok rs (msS ms) fs i hi
  have fat : ∀ i, i < fs.length → m_Machine_fair_at [mch false rs (msS ms) fs, .lf (.int (i : Int))] = some (li true (isort (fs.getD i [])), [mch false rs (msS ms) fs, .lf (.int (i : Int))]) := fun i hi => fair_at_ok false rs (msS ms) fs i hi
  have rix : ∀ i, i < rs.length → oIx (ll false rs) (.lf (.int (i : Int))) = some (li false (rs.getD i [])) := fun i hi => ix_at rs false i hi
  have fix' : ∀ i, i < fs.length → oIx (ll false fs) (.lf (.int (i : Int))) = some (li false (fs.getD i [])) := fun i hi => ix_at fs false i hi
  have mkd : ∀ m ∈ ms, m_Machine_marked [mch false rs (msS ms) fs, tx m.1] = some (li true (isort m.2), [mch false rs (msS ms) fs, tx m.1]) := fun m hm => by
    have := marked_ok rs (msS ms) fs h.sok m.1 (h.hm m hm).1.okc
    rw [mkS_mem ms h.hd m hm] at this
    exact this
  have mkz := marked_ok rs (msS ms) fs h.sok [122, 122, 121, 120] (by decide)
  have zt : (.lf (.str "zzyx") : T) = tx [122, 122, 121, 120] := rfl
  have zin : ∀ o, oIn (tx [122, 122, 121, 120]) (NL o (ms.map (·.1))) = some (.lf (.bl (decide ([122, 122, 121, 120] ∈ ms.map (·.1))))) := fun o => by
    show oIn _ (sl o .lst (ms.map (·.1))) = _
    exact z_insl _ o .lst _ rfl
  have okn := ok_NL
  have nlx : (.nd true .lst (ms.map fun m => tx m.1) : T) = NL true (ms.map (·.1)) := by unfold NL; rw [List.map_map]; rfl
  have lcN : ∀ A B C D E F G H I J K : T, dLr (gN 11) dYes x_law_tells_1 [11] ((msS ms).map (mk1 false)) [] [A, B, C, D, E, F, G, H, I, J, K, .no] = some (ms.map (fun m => tx m.1), [A, B, C, D, E, F, G, H, I, J, K, .no]) := fun A B C D E F G H I J K => by
    unfold msS
    rw [List.map_map]
    refine lc_all (dg := gN 11) (de := x_law_tells_1) (vs := [11]) [A, B, C, D, E, F, G, H, I, J, K, .no] ms _ _ (by omega) fun m hm => ⟨[A, B, C, D, E, F, G, H, I, J, K, mk1 false (⟨m.1.toArray⟩, m.2)], [A, B, C, D, E, F, G, H, I, J, K, mk1 false (⟨m.1.toArray⟩, m.2)], rfl, ?_, rfl⟩
    have l0 : oIx (mk1 false (⟨m.1.toArray⟩, m.2)) (.lf (.int 0)) = some (tx m.1) := rfl
    have o0 : okT (mk1 false (⟨m.1.toArray⟩, m.2)) = some (mk1 false (⟨m.1.toArray⟩, m.2)) := rfl
    generalize mk1 false (⟨m.1.toArray⟩, m.2) = MK at *
    exists x_law_tells_1, l0, o0
  have mks0 := mkS_off ms [122, 122, 121, 120]
  have rn : ∀ e : List T, fRng ((.lf (.int (rs.length : Int)) : T), e) = some (rngT rs.length, e) := fun e => by rw [fRng_int _ _ (by omega), Int.toNat_natCast]
  have rf : ∀ e : List T, fRng ((.lf (.int (fs.length : Int)) : T), e) = some (rngT fs.length, e) := fun e => by rw [fRng_int _ _ (by omega), Int.toNat_natCast]
  generalize hMC : mch false rs (msS ms) fs = MC at *
  generalize hP0 : PTx false rs ms fs = P0 at *
  generalize hR : ll false rs = R at *
  generalize hM : mks false (msS ms) = M at *
  generalize hF : ll false fs = F at *
  obtain ⟨e1, g1, x3, c3, rfl⟩ := lp_rng (dg := gN 3) (d := l_law_tells_1) rs.length (fun _ env => ∃ x3, cln x3 = true ∧ env = e_law_tells MC .no (.lf (.int (rs.length : Int))) x3 .no .no R M F .no .no .no) (e_law_tells MC .no (.lf (.int (rs.length : Int))) .no .no .no R M F .no .no .no) ⟨_, rfl, rfl⟩ (by
    rintro i hi env ⟨x3, _, rfl⟩
    obtain ⟨a, b, ls⟩ := law_set_ok true false (rs.getD i [])
    have nx := nxt i hi
    have rx := rix i hi
    generalize rs.getD i [] = row at *
    generalize isort row = srow at *
    refine ⟨e_law_tells MC .no (.lf (.int (rs.length : Int))) (.lf (.int (i : Int))) .no .no R M F .no .no .no, ?_, _, rfl, rfl⟩
    exists l_law_tells_1, nx, rx, ls, oMC, fMC, i2, okR, okM, okF)
  obtain ⟨e2, g2, x9, x10, rfl⟩ := lp (dg := gT2 (gN 9) (gN 10)) (d := l_law_tells_2) ((msS ms).map (mk1 false)) (fun _ env => ∃ x9 x10, env = e_law_tells MC .no (.lf (.int (rs.length : Int))) x3 .no .no R M F x9 x10 .no) (e_law_tells MC .no (.lf (.int (rs.length : Int))) x3 .no .no R M F .no .no .no) ⟨_, _, rfl⟩ (by
    rintro i t env hi ⟨x9, x10, rfl⟩
    rw [List.getElem?_map] at hi
    obtain ⟨y, hy, rfl⟩ := Option.map_eq_some_iff.mp hi
    obtain ⟨m, hm, rfl⟩ := List.mem_map.mp (List.mem_of_getElem? hy)
    obtain ⟨a, b, ls⟩ := law_set_ok true false m.2
    have mk := mkd m hm
    have gm : ∀ e : List T, gT2 (gN 9) (gN 10) (mk1 false (⟨m.1.toArray⟩, m.2)) e = (gN 9 (tx m.1) e).bind fun e => gN 10 (li false m.2) e := fun e => rfl
    generalize mk1 false (⟨m.1.toArray⟩, m.2) = MK at *
    generalize m.2 = row at *
    generalize isort row = srow at *
    refine ⟨e_law_tells MC .no (.lf (.int (rs.length : Int))) x3 .no .no R M F .no .no .no, .inl ?_, _, _, rfl⟩
    exists l_law_tells_2, gm, mk, ls, oMC, fMC, i3, okR, okM, okF)
  obtain ⟨e3, g3, x4, rfl⟩ := lp_rng (dg := gN 4) (d := l_law_tells_3) fs.length (fun _ env => ∃ x4, env = e_law_tells MC .no (.lf (.int (rs.length : Int))) x3 x4 .no R M F x9 x10 .no) (e_law_tells MC .no (.lf (.int (rs.length : Int))) x3 .no .no R M F x9 x10 .no) ⟨_, rfl⟩ (by
    rintro i hi env ⟨x4, rfl⟩
    obtain ⟨a, b, ls⟩ := law_set_ok true false (fs.getD i [])
    have nx := fat i hi
    have rx := fix' i hi
    generalize fs.getD i [] = row at *
    generalize isort row = srow at *
    refine ⟨e_law_tells MC .no (.lf (.int (rs.length : Int))) x3 (.lf (.int (i : Int))) .no R M F x9 x10 .no, ?_, _, rfl⟩
    exists l_law_tells_3, nx, rx, ls, oMC, fMC, i4, okR, okM, okF)
  clear mkd nxt fat rix fix' hMC hP0 hR hM hF h
  generalize (msS ms).map (mk1 false) = G1 at *
  generalize (ms.map fun m => tx m.1) = G2 at *
  generalize ms.map (·.1) = NM at *
  generalize rngT rs.length = I1 at *
  generalize rngT fs.length = I2 at *
  generalize (rs.length : Int) = RL at *
  generalize (fs.length : Int) = FL at *
  by_cases hz : [122, 122, 121, 120] ∈ NM
  · rw [decide_eq_true hz] at zin
    exists m_law_tells, bn_law_tells, mn, oMC, fMC, i1, i2, i3, i4, gt, oP0, okR, okM, okF, frR, frM, frF, iM, lR, lF, zt, zin, okn, nlx, lcN, rn, rf, g1, g2, g3
    exact ⟨_, _, rfl⟩
  · rw [decide_eq_false hz] at zin
    have m0 := mks0 hz
    exists m_law_tells, bn_law_tells, mn, oMC, fMC, i1, i2, i3, i4, gt, oP0, okR, okM, okF, frR, frM, frF, iM, lR, lF, zt, zin, okn, nlx, lcN, rn, rf, g1, g2, g3, mkz, m0
    exact ⟨_, _, rfl⟩
end
end Pm


set_option Elab.async false
set_option linter.all false
set_option autoImplicit false
set_option maxRecDepth 100000
set_option maxHeartbeats 4000000
namespace Ma
open PySem PySem.Spec PyProof.Rows L2 Tr Wk Pm
local macro_rules | `(tactic| exists $es,*) => do { let ls ← es.getElems.mapM fun e => `(Lean.Parser.Tactic.simpLemma| $e:term); `(tactic| simp -implicitDefEqProofs (disch := (first | assumption | omega | decide | (simp only [List.length_cons, List.length_nil, List.length_append, List.length_map, Tr.rgI_len]; omega) | (simp only [List.length_cons, List.length_nil, List.length_append, List.length_map, Int.toNat_natCast] at *; omega))) only [Tr.okT_lf, Tr.okT_nd, Tr.okT_li, Tr.okT_ll, Tr.okT_dk, Tr.okT_mks, Tr.okT_mk1, Tr.okT_mch, Tr.okT_scr, Tr.okT_tp, Tr.okO_some, Tr.gV_ev, Tr.gC_ev, Tr.gG_ev, Tr.fM_ev, Tr.fS_ev, Tr.gM_ev, Tr.gS_ev, Tr.fP_ev, Tr.fQ_ev, Tr.vr_ev, Tr.fRe_ev, Tr.re_ev, Tr.fO1_ev, Tr.o1V_ev, Tr.o1_ev, Tr.fO2V_ev, Tr.o2V_ev, Tr.fO2v'_ev, Tr.fO2v_ev, Tr.o2v_ev, Tr.fO2o'_ev, Tr.fO2o_ev, Tr.o2o_ev, Tr.fO2c'_ev, Tr.fO2c_ev, Tr.o2c_ev, Tr.fO2n''_ev, Tr.fO2n'_ev, Tr.fO2n_ev, Tr.o2n_ev, Tr.fAnd_ev, Tr.fOr_ev, Tr.dAnd_ev, Tr.dOr_ev, Tr.ite_BB, Tr.ite_decF, Tr.ite_Tdec, Tr.z_cast, Tr.z_ndec, Tr.ite_TF, Tr.ite_FT, Tr.bind_ite, Tr.aNil_ev, Tr.fCons'_ev, Tr.fCons_ev, Tr.aCons_ev, Tr.fCall'_ev, Tr.fCall_ev, Tr.dCall_ev, Tr.wb_nil, Tr.wb_none, Tr.fWb_ev, Tr.wb_some, Tr.fMeth'_ev, Tr.fMeth_ev, Tr.dMeth_ev, Tr.fMake'_ev, Tr.fMake_ev, Tr.dMake_ev, Tr.fSeq_nx, Tr.fSeq_rt, Tr.fSeq_bk, Tr.fSeq_ct, Tr.dSeq_ev, Tr.fIf_ev, Tr.dIf_ev, Tr.fSet_ev, Tr.dSet_ev, Tr.fRet_ev, Tr.dRet_ev, Tr.fEx_ev, Tr.dEx_ev, Tr.dRetN_ev, Tr.dNx_ev, Tr.dBk_ev, Tr.dCt_ev, Tr.dFail_ev, Tr.fPut''_ev, Tr.fPut'_ev, Tr.fPut1_ev, Tr.fPut_ev, Tr.dPut_ev, Tr.fMut3_ev, Tr.fMut2_ev, Tr.fMut1_ev, Tr.fMut_ev, Tr.dMut_ev, Tr.fLst_ev, Tr.fTup_ev, Tr.dLst_ev, Tr.dTup_ev, Tr.dDic_ev, Tr.fBw_ev, Tr.bw_ev, Tr.fFz_ev, Tr.fz_ev, Tr.fAug''_ev, Tr.fAug'_ev, Tr.fAug_ev, Tr.dAug_ev, Tr.z_ex, Tr.z_exT, Tr.fRng_nat, Tr.dRng_ev, Tr.fIt'_ev, Tr.fIt_ev, Tr.dIt_ev, Tr.fFor_ev, Tr.dFor_ev, Tr.gN_ev, Tr.fG_ev, Tr.gT2_ev, Tr.gT2_mk1, Tr.dFr_nil, Tr.turn_ev, Tr.fFr_nx, Tr.fFr_ct, Tr.fFr_bk, Tr.fFr_rt, Tr.dFr_cons, Tr.fLc'_ev, Tr.fLc_ev, Tr.dLc_ev, Tr.dLr_nil, Tr.wipeT_nil, Tr.wipeT_cons, Tr.backT_nil, Tr.backT_cons, Tr.cleanAt_nil, Tr.cleanAt_cons, Tr.fFun_rt, Tr.fFun_nx, Tr.dFun_ev, Tr.outs_cons, Tr.outs_nil, Tr.frzs_nil, Tr.frzs_cons, Tr.z_frz1, Tr.z_frz2, Tr.z_frz3, Tr.z_frz4, Tr.z_frz5, Tr.z_frz6, Tr.z_frz7, Tr.z_frz8, Tr.z_frz9, Tr.z_frz10, Tr.z_frz11, Tr.z_cln1, Tr.z_cln2, Tr.z_cln3, Tr.z_cln4, Tr.z_cln5, Tr.z_cln6, Tr.z_cln7, Tr.z_cln8, Tr.z_cln9, Tr.z_cln10, Tr.z_clns1, Tr.z_clns2, Tr.z_clns3, Tr.z_pure1, Tr.z_pure2, Tr.z_pure3, Tr.z_pure4, Tr.z_pure5, Tr.z_pure6, Tr.z_pure7, Tr.z_lfI, Tr.z_li, Tr.z_add, Tr.z_sub, Tr.z_mulr, Tr.z_mod, Tr.z_div, Tr.z_lt, Tr.z_le, Tr.z_gt, Tr.z_ge, Tr.z_eq, Tr.z_ne, Tr.z_neg, Tr.z_eqli, Tr.z_neli, Tr.z_eqnil, Tr.z_nenil, Tr.z_inli, Tr.z_ninli, Tr.z_indk, Tr.z_nindk, Tr.z_ll, Tr.z_mks, Tr.z_nil, Tr.z_appll, Tr.z_int1, Tr.z_int2, Tr.z_len1, Tr.z_len2, Tr.z_len3, Tr.z_len4, Tr.z_len5, Tr.z_len6, Tr.z_len7, Tr.z_not, Tr.z_isi1, Tr.z_isi2, Tr.z_isi3, Tr.z_isi4, Tr.z_isi5, Tr.z_isi6, Tr.z_list1, Tr.z_sort1, Tr.z_sort2, Tr.z_app1, Tr.z_app2, Tr.z_pop1, Tr.z_clr1, Tr.z_clr2, Tr.z_rev1, Tr.z_ext1, Tr.z_cat1, Tr.z_it1, Tr.z_it2, Tr.z_it3, Tr.z_it4, Tr.z_ty1, Tr.z_ty2, Tr.z_ty3, Tr.z_ty4, Tr.z_fst, Tr.z_fma, Tr.z_ffa, Tr.z_ins1, Tr.z_ins2, Tr.z_ins3, Tr.z_ins4, Tr.z_ins5, Tr.z_ixli, Tr.z_ixll, Tr.z_ixlast, Tr.z_setdk, Tr.fDic1_ev, Tr.fDic1'_ev, Tr.dDic1_ev, Tr.fLRg_nat, Tr.dLRg_ev, Tr.z_len8, Tr.z_bind_some, Tr.z_get0, Tr.z_gets, Tr.z_getD0, Tr.z_getDs, Tr.z_set0, Tr.z_sets, Tr.z_app, Tr.z_nil_app, Tr.z_app_nil, Tr.z_map0, Tr.z_mapc, Tr.z_rep0, Tr.z_reps, Tr.z_lenc, Tr.z_lenn, Tr.z_bno, Tr.fXs_nx, Tr.fXs_rt, Tr.fXs_no, Tr.xSeq_ev, Tr.fXif_ev, Tr.xIf_ev, Tr.xRz_ev, Tr.xNo_ev, Tr.fXc2_ev, Tr.fXc_ev, Tr.xCall_ev, Tr.fXfor_ev, Tr.xFor_ev, Tr.fXfun_ev, Tr.dFunX_ev, Tr.fTry2_bl, Tr.fTry2_str, Tr.fTry1_ev, Tr.fTry_so, Tr.fTry_no, Tr.dTry_ev, Tr.fFre_ev, Tr.fre_ev, Tr.fForE_ev, Tr.dForE_ev, Tr.z_c0, Tr.z_c1, Tr.z_c2, Tr.z_c3, Tr.z_okoV, Tr.z_okrk, Tr.z_okrl, Tr.z_frzoV, Tr.z_clnoV, Tr.z_pureoV, Tr.z_frzrk, Tr.z_clnrk, Tr.z_frzrl, Tr.z_clnrl, Tr.z_ixrl, Tr.z_lenrl, Tr.z_isirl, Tr.z_tyrl, Tr.z_clrrl, Tr.z_oVs, Tr.z_oVn, Tr.z_rks, Tr.z_rkn, Tr.z_ixt0, Tr.z_ixt1, Tr.z_isN1, Tr.z_isN2, Tr.z_isN3, Tr.z_notN1, Tr.z_notN2, Tr.z_notN3, Tr.z_isN4, Tr.z_notN4, Tr.z_isN5, Tr.z_notN5, Tr.fCh3_ev, Tr.fCh2_ev, Tr.fCh1_ev, Tr.z_ch, Tr.z_okdls, Tr.z_frzdls, Tr.z_clndls, Tr.z_ixdls, Tr.z_indls, Tr.z_okdds, Tr.z_frzdds, Tr.z_clndds, Tr.z_ixdds, Tr.fAsg'_ev, Tr.fAsg_ev, Tr.dAsg_ev, Tr.fBwS_ev, Tr.bwS_ev, Tr.fPt_ev, Tr.ptT_no, Tr.ptT_so, Tr.fSl2_ev, Tr.fSl1_ev, Tr.fSl_ev, Tr.dSl_ev, Tr.z_slli, Tr.z_cutTail, Tr.z_cutInit, Tr.z_okst, Tr.z_frzst, Tr.z_clnst, Tr.z_purest, Tr.z_addst, Tr.z_lenst, Tr.z_inst1, Tr.z_ninst1, Tr.z_ixst, Tr.eqL_self, Tr.eqL_nn, Tr.eqL_nc, Tr.eqL_cn, Tr.eqL_cc, Tr.z_eqst, Tr.z_nest, Tr.z_insl, Tr.z_ninsl, Tr.z_sq1, Tr.z_sq2, Tr.z_sq3, Tr.z_itst, Tr.z_isist, Tr.z_slst, Tr.z_cutOne, Tr.lit_all, Tr.lit_not, Tr.lit_both, Tr.lit_either, Tr.lit_somenext, Tr.lit_eachnext, Tr.lit_sometill, Tr.lit_eachtill, Tr.lit_someever, Tr.lit_eachever, Tr.lit_somealways, Tr.lit_eachalways, Tr.lit_mark, Tr.lit_loop, Tr.lit_rank, Tr.lit_walk, Tr.lit_shut, Tr.lit_out, Tr.lit_here, Tr.lit_dead, Tr.lit_plain, Tr.lit_step, Tr.lit_none, Tr.lit_fair, Tr.lit_answer, Tr.lit_p, Tr.lit_wet, Tr.lit_darkness, Tr.lit_x, Tr.lit_q, Tr.lit_empty, Tr.lit_in, Tr.lit_letters, Tr.z_kept, Tr.z_catX12, Tr.z_catT12, Tr.z_ixt2, Tr.z_frzsg, Tr.z_clnsg, Tr.z_oksg, Tr.z_oktl, Tr.z_frztl, Tr.z_clntl, Tr.z_insT_told, Tr.z_insT_joint, Tr.z_insT_over_walks, Tr.z_insT_contrary, Tr.z_insT_good, Tr.z_insT_some_next, Tr.z_insT_some_till, Tr.z_insT_each_till, Tr.z_fldT_machine, Tr.z_fldT_every, Tr.z_fldT_live, Tr.fEls_s, Tr.fEls_n, Tr.elsE_ev, Tr.fOO_s, Tr.fOO_n, Tr.oOr_ev, Tr.fMO_s, Tr.fMO_n, Tr.mOr_ev, Tr.oIs1_nd, Tr.dNew_ev, Tr.fFzk_ev, Tr.fzk_ev, Tr.fDfz_ev, Tr.dfz_ev, Tr.z_eqbl, Tr.z_nebl, Tr.z_beqtt, Tr.z_beqff, Tr.z_beqtf, Tr.z_beqft, Tr.z_isNll, Tr.z_isNli, Tr.z_catnd, Tr.dZip_ev, Tr.fZip_ev, Tr.fForZ_ev, Tr.fForZ1_ev, Tr.fForZ2_ev, Tr.dForZ_ev, Tr.fFzS_ev, Tr.fzS_ev, Tr.fRevR_nat, Tr.dRevR_ev, Tr.f3V2_ev, Tr.f3V1_ev, Tr.o3V_ev, Tr.fGetE2_ev, Tr.fGetE1_ev, Tr.dGetE_ev, Tr.z_sllo, Tr.dDisp_ev, Tr.fPutP4_ev, Tr.fPutP3_ev, Tr.fPutP2_ev, Tr.fPutP1_ev, Tr.dPutP_ev, Tr.dpV_ev, Tr.fDpV_ev, Tr.fJoin2_ev, Tr.fJoin1_ev, Tr.dJoin_ev, Tr.fTupO_ev, Tr.dTupO_ev, Tr.fLkK1_ev, Tr.lkK_ev, Tr.fDpIx_ev, Tr.dpIx_ev, Tr.fDpIx2_ll, Tr.z_setll, Tr.fDpIx2_t1, Tr.fDpIx2_t0, Tr.fMP3_ev, Tr.fMP2_ev, Tr.fMP1_ev, Tr.dMutP_ev, Tr.fMB2_ev, Tr.fMB1_ev, Tr.dMutPB_ev, Tr.z_min, Tr.z_oklS, Tr.z_frzlS, Tr.z_clnlS, Tr.z_purelS, Tr.z_itlS, Tr.z_inlS, Tr.z_ninlS, Tr.z_lfS, Tr.z_isiS, Tr.z_isNS, Tr.z_notNS, Tr.z_oksl, Tr.fG3'_ev, Tr.fG3_ev, Tr.gT3_ev, Tr.fMutN2_ev, Tr.fMutN1_ev, Tr.fMutN_ev, Tr.dMutN_ev, Tr.z_sset, Tr.z_tupli, Tr.fLdW2_ev, Tr.fLdW1_ev, Tr.ldW_ev, Tr.z_okFlnx, Tr.fMutT3_ev, Tr.fMutT2_ev, Tr.fMutT1_ev, Tr.dMutT_ev, Tr.fSpl3_ev, Tr.fSpl2_ev, Tr.fSpl1_ev, Tr.dSplit_ev, ↓reduceIte, ite_true, ite_false, Nat.reduceAdd, Nat.reduceSub, Nat.reduceLT, Nat.reduceLeDiff, Nat.zero_add, Nat.lt_add_one, Nat.zero_lt_succ, decide_true, decide_false, decide_eq_true_eq, decide_eq_false_iff_not, Bool.not_eq_true, Bool.not_eq_false, Bool.not_true, Bool.not_false, Bool.not_eq_true', Bool.and_true, Bool.true_and, Bool.and_self, Bool.and_eq_true, Bool.or_eq_true, not_true_eq_false, not_false_eq_true, eq_self, and_self, and_true, true_and, false_and, and_false, or_true, true_or, or_false, false_or, reduceCtorEq, Bool.false_eq_true, Int.toNat_natCast, Int.reduceToNat, Int.reduceEq, Int.reduceLT, Int.reduceLE, Int.reduceNeg, Int.reduceAdd, Int.reduceSub, Int.reduceMul, List.length_map, Bool.not_not, Bool.not_eq_eq_eq_not, Decidable.not_not, Nat.reduceEqDiff, Bool.false_and, Bool.and_false, Option.isSome_some, Option.isSome_none, Option.isNone_some, Option.isNone_none, $ls,*]) }

theorem law_true : ∀ ns : List Int, ns.length ≤ 63 → ∃ ts, m_law [scrT ns] = some (.lf (.bl true), ts) := by
  intro ns hns
  obtain ⟨n, rs, ms, fs, h, a0, pq⟩ := parts_ok ns
  obtain ⟨a1, md⟩ := law_made_ok h
  obtain ⟨a2, b2, lt⟩ := law_tells_ok h
  have fP : frz (PTx true rs ms fs) = PTx false rs ms fs := frz_PTx _ _ _ _
  have fP0 : frz (PTx false rs ms fs) = PTx false rs ms fs := frz_PTx _ _ _ _
  have oP1 : okT (PTx true rs ms fs) = some (PTx true rs ms fs) := rfl
  have oP0 : okT (PTx false rs ms fs) = some (PTx false rs ms fs) := rfl
  have fMC := frz_mchO rs (msS ms) fs
  have oM0 : okT (mch false rs (msS ms) fs) = some (mch false rs (msS ms) fs) := rfl
  have fM0 := frz_mch false rs (msS ms) fs
  have nN : oIsN (mch false rs (msS ms) fs) (.lf .non) = some (.lf (.bl false)) := rfl
  have f1 : oFld "Machine" "steps" (mch false rs (msS ms) fs) = some (ll false rs) := fld_steps _ _ _ _
  have f2 : oFld "Machine" "marks" (mch false rs (msS ms) fs) = some (mks false (msS ms)) := fld_marks _ _ _ _
  have f3 : oFld "Machine" "fair" (mch false rs (msS ms) fs) = some (ll false fs) := fld_fair _ _ _ _
  have x0 : oIx (PTx false rs ms fs) (.lf (.int 0)) = some (ll false rs) := rfl
  have x1 : oIx (PTx false rs ms fs) (.lf (.int 1)) = some (mks false (msS ms)) := rfl
  have x2 : oIx (PTx false rs ms fs) (.lf (.int 2)) = some (ll false fs) := rfl
  have n0 : oNe (ll false rs) (ll false rs) = some (.lf (.bl false)) := oNe_alike (n := 2) (by omega) (Dt.ll (n := 0) false rs) rfl
  have n1 : oNe (mks false (msS ms)) (mks false (msS ms)) = some (.lf (.bl false)) := oNe_alike (n := 3) (by omega) (dt_mks h false) rfl
  have n2 : oNe (ll false fs) (ll false fs) = some (.lf (.bl false)) := oNe_alike (n := 2) (by omega) (Dt.ll (n := 0) false fs) rfl
  have y0 : oIx (PTx false rs ms fs) (.lf (.int 0)) = some (ll false rs) := rfl
  have y1 : oIx (PTx false rs ms fs) (.lf (.int 1)) = some (mks false (msS ms)) := rfl
  have cR : cln (ll false rs) = true := by rw [← frz_ll true]; exact cln_frz _
  have cM : cln (mks false (msS ms)) = true := by rw [← frz_mks true]; exact cln_frz _
  have ib := init_O rs [] [] h.hr (no_marks n) (no_fairs n) (ll false rs) N N (frz_ll _ _) rfl (.inl ⟨rfl, rfl⟩) (.inl ⟨rfl, rfl⟩)
  have im := init_O rs [] (msS ms) h.hr h.mks (no_fairs n) (ll false rs) (mks false (msS ms)) N (frz_ll _ _) rfl (.inr ⟨frz_mks _ _, rfl, rfl⟩) (.inl ⟨rfl, rfl⟩)
  have fMb := frz_mchO rs [] []
  have fMm := frz_mchO rs (msS ms) []
  have oMb : okT (mch false rs [] []) = some (mch false rs [] []) := rfl
  have fb1 : oFld "Machine" "marks" (mch false rs [] []) = some (li false []) := fld_marks _ _ _ _
  have fb2 : oFld "Machine" "fair" (mch false rs [] []) = some (li false []) := fld_fair _ _ _ _
  have fm2 : oFld "Machine" "fair" (mch false rs (msS ms) []) = some (li false []) := fld_fair _ _ _ _
  have r2 : ∀ e : List T, fRng ((.lf (.int 2) : T), e) = some (rngT 2, e) := fun e => fRng_int 2 _ (by omega)
  clear h
  generalize ll false rs = R0 at *
  generalize ll true rs = R1 at *
  generalize mks false (msS ms) = M0' at *
  generalize mks true (msS ms) = M1' at *
  generalize ll false fs = F0 at *
  generalize ll true fs = F1 at *
  generalize PTx true rs ms fs = P1 at *
  generalize PTx false rs ms fs = P0 at *
  generalize mchO rs (msS ms) fs = MC at *
  generalize mch false rs (msS ms) fs = M0 at *
  generalize mchO rs [] [] = MBo at *
  generalize mch false rs [] [] = MB at *
  generalize mchO rs (msS ms) [] = MMo at *
  generalize mch false rs (msS ms) [] = MM at *
  obtain ⟨e1, g1, x3, rfl⟩ := lp_rng (dg := gN 3) (d := l_law_1) 2 (fun _ env => ∃ x3, env = e_law .no P0 M0 x3 .no) (e_law .no P0 M0 .no .no) ⟨_, rfl⟩ (by
    rintro i hi env ⟨x3, rfl⟩
    refine ⟨e_law .no P0 M0 (.lf (.int (i : Int))) .no, ?_, _, rfl⟩
    exists l_law_1, f1, f2, f3, x0, x1, x2, n0, n1, n2, oP1, oP0, fP, fP0, oM0, fM0, lt)
  generalize rngT 2 = I2 at *
  exists m_law, bn_law, pq, md, fP, fP0, oP1, oP0, fMC, oM0, fM0, nN, r2, g1, y0, y1, cR, cM, ib, im, fMb, fMm, oMb, fb1, fb2, fm2
  exact ⟨_, rfl⟩
end Ma


open PySem PySem.W PyProof.Rows
set_option maxRecDepth 100000 in
set_option maxHeartbeats 0 in
theorem PySem.Challenge.cw_treesay_k01_machines_told_holds : PySem.Challenge.rw_treesay_k01_machines_told.Holds := by
  w_on; o_law; k_head; (case hw => w_witness2)
  k_fill
  refine L2.walk_of (l := PySem.Challenge.rw_treesay_k01_machines_told) (n := 63) (k := 6) (x := "_law_script") (CX := fun _ => L2.CX0) (sp := fun w => Tr.spLaw _) rfl (by decide) rfl ⟨rfl, by decide, by decide⟩ (fun w h Y => PySem.W.kIn_of Y) ?F (fun w H a ns hl _ hS => ⟨a, ns, rfl, hS, hl, fun _ => rfl⟩) (fun _ _ _ _ _ h => h)
  case F =>
    intro w mg fa h KX G hmg
    refine' Wk.all_mk KX G hmg ?h_Machine ?pg_Machine ?hd_Machine ?po_Machine ?sa_Machine ?mi_Machine ?kc_Machine ?na_Machine_fair ?na_Machine_marks ?na_Machine_steps ?h_law_cell_at ?l_law_cell_at ?c_law_cell_at ?k_law_cell_at ?h_law_mixed ?l_law_mixed ?c_law_mixed ?k_law_mixed ?h_law_some ?l_law_some ?c_law_some ?k_law_some ?h_law_steps ?l_law_steps ?c_law_steps ?k_law_steps ?h_law_name ?l_law_name ?c_law_name ?k_law_name ?h_law_parts ?l_law_parts ?c_law_parts ?k_law_parts ?h_law_copy ?l_law_copy ?c_law_copy ?k_law_copy ?h_look_stands ?l_look_stands ?c_look_stands ?k_look_stands ?h_is_mark ?l_is_mark ?c_is_mark ?k_is_mark ?h_look_machine ?l_look_machine ?c_look_machine ?k_look_machine ?i_Machine_init ?l_Machine_init ?c_Machine_init ?k_Machine_init ?td_l_Machine_init ?h_law_made ?l_law_made ?c_law_made ?k_law_made ?i_Machine_many ?l_Machine_many ?c_Machine_many ?k_Machine_many ?h_law_set ?l_law_set ?c_law_set ?k_law_set ?i_Machine_marked ?l_Machine_marked ?c_Machine_marked ?k_Machine_marked ?i_Machine_next_of ?l_Machine_next_of ?c_Machine_next_of ?k_Machine_next_of ?i_Machine_fair_at ?l_Machine_fair_at ?c_Machine_fair_at ?k_Machine_fair_at ?h_law_tells ?l_law_tells ?c_law_tells ?k_law_tells ?h_law ?l_law ?c_law ?k_law ?h_Machine__fair_at ?h_Machine__many ?h_Machine__marked ?h_Machine__next_of ?in_Machine ?z_bool ?z_int ?z_isinstance ?z_len ?z_list ?z_range ?z_sorted ?h_KEPT ?l_KEPT ?d_KEPT ?t_KEPT ?v_KEPT ?h_LETTERS ?h_LONGEST ?h_MOST_STANDS Ma.law_true
    (case h_Machine => k_is)
    (case h_Machine__fair_at => k_is)
    (case h_Machine__many => k_is)
    (case h_Machine__marked => k_is)
    (case h_Machine__next_of => k_is)
    (case in_Machine => k_is)
    (case pg_Machine => k_is)
    (case hd_Machine => k_is)
    (case po_Machine => k_is)
    (case sa_Machine => k_is)
    (case mi_Machine => k_is)
    (case kc_Machine => k_is)
    (case na_Machine_fair => k_is)
    (case na_Machine_marks => k_is)
    (case na_Machine_steps => k_is)
    (case h_law_cell_at => k_is)
    (case l_law_cell_at => k_is)
    (case c_law_cell_at => k_is)
    (case k_law_cell_at => k_is)
    (case h_law_mixed => k_is)
    (case l_law_mixed => k_is)
    (case c_law_mixed => k_is)
    (case k_law_mixed => k_is)
    (case h_law_some => k_is)
    (case l_law_some => k_is)
    (case c_law_some => k_is)
    (case k_law_some => k_is)
    (case h_law_steps => k_is)
    (case l_law_steps => k_is)
    (case c_law_steps => k_is)
    (case k_law_steps => k_is)
    (case h_law_name => k_is)
    (case l_law_name => k_is)
    (case c_law_name => k_is)
    (case k_law_name => k_is)
    (case h_law_parts => k_is)
    (case l_law_parts => k_is)
    (case c_law_parts => k_is)
    (case k_law_parts => k_is)
    (case h_law_copy => k_is)
    (case l_law_copy => k_is)
    (case c_law_copy => k_is)
    (case k_law_copy => k_is)
    (case h_look_stands => k_is)
    (case l_look_stands => k_is)
    (case c_look_stands => k_is)
    (case k_look_stands => k_is)
    (case h_is_mark => k_is)
    (case l_is_mark => k_is)
    (case c_is_mark => k_is)
    (case k_is_mark => k_is)
    (case h_look_machine => k_is)
    (case l_look_machine => k_is)
    (case c_look_machine => k_is)
    (case k_look_machine => k_is)
    (case i_Machine_init => k_is)
    (case l_Machine_init => k_is)
    (case c_Machine_init => k_is)
    (case k_Machine_init => k_is)
    (case td_l_Machine_init => k_is)
    (case h_law_made => k_is)
    (case l_law_made => k_is)
    (case c_law_made => k_is)
    (case k_law_made => k_is)
    (case i_Machine_many => k_is)
    (case l_Machine_many => k_is)
    (case c_Machine_many => k_is)
    (case k_Machine_many => k_is)
    (case h_law_set => k_is)
    (case l_law_set => k_is)
    (case c_law_set => k_is)
    (case k_law_set => k_is)
    (case i_Machine_marked => k_is)
    (case l_Machine_marked => k_is)
    (case c_Machine_marked => k_is)
    (case k_Machine_marked => k_is)
    (case i_Machine_next_of => k_is)
    (case l_Machine_next_of => k_is)
    (case c_Machine_next_of => k_is)
    (case k_Machine_next_of => k_is)
    (case i_Machine_fair_at => k_is)
    (case l_Machine_fair_at => k_is)
    (case c_Machine_fair_at => k_is)
    (case k_Machine_fair_at => k_is)
    (case h_law_tells => k_is)
    (case l_law_tells => k_is)
    (case c_law_tells => k_is)
    (case k_law_tells => k_is)
    (case h_law => k_is)
    (case l_law => k_is)
    (case c_law => k_is)
    (case k_law => k_is)
    (case z_bool => k_is)
    (case z_int => k_is)
    (case z_isinstance => k_is)
    (case z_len => k_is)
    (case z_list => k_is)
    (case z_range => k_is)
    (case z_sorted => k_is)
    (case h_KEPT => k_is)
    (case l_KEPT => k_is)
    (case d_KEPT => rfl)
    (case t_KEPT => rfl)
    (case v_KEPT => exact (.cons ⟨_, rfl⟩ (.cons ⟨_, rfl⟩ (.cons ⟨_, rfl⟩ (.cons ⟨_, rfl⟩ (.cons ⟨_, rfl⟩ (.cons ⟨_, rfl⟩ (.cons ⟨_, rfl⟩ (.cons ⟨_, rfl⟩ (.cons ⟨_, rfl⟩ (.cons ⟨_, rfl⟩ .nil)))))))))))
    (case h_LETTERS => k_is)
    (case h_LONGEST => k_is)
    (case h_MOST_STANDS => k_is)


