import PyProof.Rows.All
import Wide.All
import OpenK.AllK
import Wide.FinOn
import HandS.ForMost
import HandS.Walk
import HandS.Lambda
import HandS.IsInst
import HandS.TupAny
import HandS.Codes
import HandS.Deep
import HandS.WordsDict
import HandS.More
import HandS.TupLen
import KE.KSortedM
import HandS.Style
import HandS.DictComp
import HandS.Dict
import KE.GoesEnum
import HandS.Exc
import HandS.Defaults
import HandS.Property
import HandS.ExcInit
import HandS.ClsMeth
import HandS.Nested
import KE.KExcSuper
import HandS.ExcField
import HandS.EndTab
import HandS.HeadWalk
import KE.KIsAll
import PyProof.ReprRoads
import PyProof.ReprBulk
import HandS.Star
import HandS.CallLocal
import HandS.HeadHook4
import HandS.Words
import HandS.Head2
import HandS.HeadEnd
import PySem.Challenge.RW_foldlines_k01_lines_looked_at
section
set_option Elab.async false
set_option linter.all false
set_option maxRecDepth 100000
set_option maxHeartbeats 400000
/-! Values as trees, objects by number; how they lie in the hand layer's heap. -/
namespace Ev
open PySem PySem.Spec PyProof.Rows L2

inductive A where
  | non | bl (b : Bool) | int (i : Int) | str (x : Str) | ty (n : String) | tup (xs : List A) | ktup (xs : List A) | ref (n : Nat) | glo (g : Nat)
inductive O where
  | lst (xs : List A) | dic (kvs : List (Key × A)) | dicT (kvs : List (List Key × A)) | ins (c : Nat) (fs : List (Str × A)) | ro (xs : List A) | dro (kvs : List (Key × A)) | droT (kvs : List (List Key × A)) | fz (kvs : List (Key × A))
/-- the module's things by number; the tables of code objects -/
structure Gm where
  a : List Addr
  T : List (Addr × Str)
instance : GetElem? Gm Nat Addr (fun g i => i < g.a.length) where
  getElem g i h := g.a[i]
  getElem? g i := g.a[i]?
inductive Res (α : Type) where
  | ok (a : α) (t : List O) | exc (c : Nat) (fs : List (Str × A)) (t : List O) | bad
def Res.bind {α β : Type} : Res α → (α → List O → Res β) → Res β
  | .ok a t, k => k a t
  | .exc c fs t, _ => .exc c fs t
  | .bad, _ => .bad

section
variable (K : PySem.W.Frag) (γ : Gm)
mutual
def RV (ρ : List Addr) (H : Hp) : A → V → Prop
  | .non, v => v = .non
  | .bl b, v => v = .bl b
  | .int i, v => v = .int i
  | .str x, v => v = .str x
  | .ty n, v => v = .ty n
  | .ref n, v => ∃ a, ρ[n]? = some a ∧ v = .ref a
  | .glo g, v => ∃ a, γ[g]? = some a ∧ v = .ref a
  | .tup xs, v => ∃ p vs, v = .ref p ∧ H p = some (.tup vs) ∧ RVs ρ H xs vs
  | .ktup xs, v => ∃ p vs, v = .ref p ∧ SqT K (fun _ => none) p vs ∧ RVs ρ H xs vs
def RVs (ρ : List Addr) (H : Hp) : List A → List V → Prop
  | [], vs => vs = []
  | x :: xs, vs => ∃ v r, vs = v :: r ∧ RV ρ H x v ∧ RVs ρ H xs r
end
def RKs {κ : Type} (ρ : List Addr) (H : Hp) : List (κ × A) → List (κ × V) → Prop
  | [], vs => vs = []
  | x :: xs, vs => ∃ v r, vs = (x.1, v) :: r ∧ RV K γ ρ H x.2 v ∧ RKs ρ H xs r
def RS (ρ : List Addr) (H : Hp) : List (Option A) → L2.St → Prop
  | [], σ => σ = []
  | x :: xs, σ => ∃ v r, σ = v :: r ∧ (∀ a, x = some a → ∃ u, v = some u ∧ RV K γ ρ H a u) ∧ RS ρ H xs r
def RO (ρ : List Addr) (H : Hp) (o : O) (a : Addr) : Prop := match o with
  | .lst xs => ∃ vs, H a = some (.lst vs) ∧ RVs K γ ρ H xs vs
  | .dic kvs => ∃ vs, H a = some (.dK vs) ∧ RKs K γ ρ H kvs vs
  | .dicT kvs => ∃ vs, H a = some (.dT vs) ∧ RKs K γ ρ H kvs vs
  | .ins c fs => ∃ C dx vs, γ[c]? = some C ∧ H a = some (.ins C dx vs) ∧ RKs K γ ρ H fs vs
  | .ro xs => ∃ vs, Rd H a (.lst vs) ∧ RVs K γ ρ H xs vs
  | .dro kvs => ∃ vs, Rd H a (.dK vs) ∧ RKs K γ ρ H kvs vs
  | .droT kvs => ∃ vs, Rd H a (.dT vs) ∧ RKs K γ ρ H kvs vs
  | .fz kvs => ∃ o vs, H a = some (.frz o (.dK vs)) ∧ RKs K γ ρ H kvs vs
structure Rep (ρ : List Addr) (hp : List O) (H : Hp) : Prop where
  len : ρ.length = hp.length
  nd : ρ.Nodup
  ob : ∀ (n : Nat) a o, ρ[n]? = some a → hp[n]? = some o → RO K γ ρ H o a
  tab : LamX.Tabs γ.T H
end
/-- a code object's table -/
def isTb : HO → Bool
  | .tbl _ => true
  | _ => false
structure Fwd (nb : Nat) (ρ : List Addr) (H : Hp) (ρ' : List Addr) (H' : Hp) : Prop where
  ext : ∃ m, ρ' = ρ ++ m
  new : ∀ a, a ∈ ρ' → a ∉ ρ → H a = none
  kept : ∀ a o, H a = some o → a ∉ ρ → isTb o = false → H' a = some o
  occ : ∀ a o, H a = some o → isTb o = true → ∃ o', H' a = some o' ∧ isTb o' = true
  frz : ∀ a o u, H a = some (.frz o u) → H' a = some (.frz o u)
  bs : ∀ (n : Nat) a, n < nb → ρ[n]? = some a → H' a = H a

section
variable {K : PySem.W.Frag} {γ : Gm}
theorem Fwd.refl {nb : Nat} (ρ : List Addr) (H : Hp) : Fwd nb ρ H ρ H := ⟨⟨[], by simp⟩, fun a h n => absurd h n, fun _ _ h _ _ => h, fun _ o h z => ⟨o, h, z⟩, fun _ _ _ h => h, fun _ _ _ _ => rfl⟩
theorem Fwd.occN {nb : Nat} {ρ ρ' : List Addr} {H H' : Hp} (f : Fwd nb ρ H ρ' H') {a : Addr} (n : a ∉ ρ) (h : H' a = none) : H a = none := by
  cases e : H a with
  | none => rfl
  | some o =>
    cases z : isTb o with
    | true => obtain ⟨o', e', _⟩ := f.occ a o e z; rw [e'] at h; cases h
    | false => rw [f.kept a o e n z] at h; cases h
theorem Fwd.trans {nb : Nat} {ρ ρ1 ρ2 : List Addr} {H H1 H2 : Hp} (f : Fwd nb ρ H ρ1 H1) (g : Fwd nb ρ1 H1 ρ2 H2) : Fwd nb ρ H ρ2 H2 := by
  obtain ⟨m1, e1⟩ := f.ext
  obtain ⟨m2, e2⟩ := g.ext
  refine ⟨⟨m1 ++ m2, by rw [e2, e1, List.append_assoc]⟩, fun a h n => ?_, fun a o h n z => ?_, fun a o h z => ?_, fun a o u h => g.frz a o u (f.frz a o u h), fun n a hn ha => ?_⟩
  · by_cases q : a ∈ ρ1
    · exact f.new a q n
    · exact f.occN n (g.new a h q)
  · refine g.kept a o (f.kept a o h n z) (fun q => ?_) z
    rw [f.new a q n] at h; cases h
  · obtain ⟨o1, h1, z1⟩ := f.occ a o h z
    exact g.occ a o1 h1 z1
  · rw [← f.bs n a hn ha]
    refine g.bs n a hn ?_
    rw [e1, List.getElem?_append_left (List.getElem?_eq_some_iff.mp ha).1]
    exact ha
theorem Rep.at {ρ : List Addr} {hp : List O} {H : Hp} (R : Rep K γ ρ hp H) {a : Addr} (h : a ∈ ρ) : ∃ (n : Nat) (o : O), ρ[n]? = some a ∧ hp[n]? = some o ∧ RO K γ ρ H o a := by
  obtain ⟨n, hn⟩ := List.getElem?_of_mem h
  have hl : n < ρ.length := (List.getElem?_eq_some_iff.mp hn).1
  have hh : n < hp.length := by rw [← R.len]; exact hl
  exact ⟨n, hp[n], hn, by simp [hh], R.ob n a _ hn (by simp [hh])⟩
/-- what a tracked object of ours is not -/
def noT : HO → Bool
  | .lst _ => true
  | .dK _ => true
  | .dT _ => true
  | .ins _ _ _ => true
  | .frz _ (.lst _) => true
  | .frz _ (.dK _) => true
  | .frz _ (.dT _) => true
  | _ => false
theorem Rep.obj {ρ : List Addr} {hp : List O} {H : Hp} (R : Rep K γ ρ hp H) {a : Addr} (h : a ∈ ρ) : ∃ u, H a = some u ∧ noT u = true := by
  obtain ⟨n, o, _, _, q⟩ := R.at h
  cases o with
  | lst xs => obtain ⟨vs, e, _⟩ := q; exact ⟨_, e, rfl⟩
  | dic xs => obtain ⟨vs, e, _⟩ := q; exact ⟨_, e, rfl⟩
  | dicT xs => obtain ⟨vs, e, _⟩ := q; exact ⟨_, e, rfl⟩
  | ins c xs => obtain ⟨C, dx, vs, _, e, _⟩ := q; exact ⟨_, e, rfl⟩
  | ro xs =>
    obtain ⟨vs, e, _⟩ := q
    rcases e with e | ⟨o, e⟩
    · exact ⟨_, e, rfl⟩
    · exact ⟨_, e, rfl⟩
  | dro xs =>
    obtain ⟨vs, e, _⟩ := q
    rcases e with e | ⟨o, e⟩
    · exact ⟨_, e, rfl⟩
    · exact ⟨_, e, rfl⟩
  | droT xs =>
    obtain ⟨vs, e, _⟩ := q
    rcases e with e | ⟨o, e⟩
    · exact ⟨_, e, rfl⟩
    · exact ⟨_, e, rfl⟩
  | fz xs => obtain ⟨o, vs, e, _⟩ := q; exact ⟨_, e, rfl⟩
theorem Rep.fresh {ρ : List Addr} {hp : List O} {H : Hp} (R : Rep K γ ρ hp H) {a : Addr} (h : H a = none) : a ∉ ρ := fun q => by
  obtain ⟨u, e, _⟩ := R.obj q
  rw [e] at h; cases h
theorem Rep.tup {nb : Nat} {ρ ρ' : List Addr} {hp : List O} {H H' : Hp} (R : Rep K γ ρ hp H) (f : Fwd nb ρ H ρ' H') {p : Addr} {vs : List V} (h : H p = some (.tup vs)) : H' p = some (.tup vs) := by
  refine f.kept _ _ h (fun q => ?_) rfl
  obtain ⟨u, e, n⟩ := R.obj q
  rw [e] at h
  have z := Option.some.inj h
  rw [z] at n
  exact Bool.noConfusion n
/-- what a value leans on is kept -/
structure Keep (K : PySem.W.Frag) (ρ : List Addr) (H : Hp) (ρ' : List Addr) (H' : Hp) : Prop where
  ext : ∃ m, ρ' = ρ ++ m
  tup : ∀ p vs, H p = some (.tup vs) → H' p = some (.tup vs)
theorem Rep.keep {nb : Nat} {ρ ρ' : List Addr} {hp : List O} {H H' : Hp} (R : Rep K γ ρ hp H) (f : Fwd nb ρ H ρ' H') : Keep K ρ H ρ' H' := ⟨f.ext, fun _ _ h => R.tup f h⟩
/-- the tables stay while anything else is written -/
theorem tabs_upd {T : List (Addr × Str)} {H : Hp} {p : Addr} {o' : HO} (t : LamX.Tabs T H) (n : ∀ u, H p = some u → noT u = true) : LamX.Tabs T (upd H p o') := fun z hz => by
  obtain ⟨ps, h1, h2, h3⟩ := t z hz
  refine ⟨ps, ?_, h2, fun pos cv hc => ?_⟩
  · rw [upd_ne]
    · exact h1
    · rintro rfl; exact Bool.noConfusion (n _ h1)
  · obtain ⟨c, e1, e2⟩ := h3 pos cv hc
    refine ⟨c, e1, ?_⟩
    rw [upd_ne]
    · exact e2
    · rintro rfl
      have := n _ e2
      unfold LamX.CodeO at this
      cases this
theorem noT_tb {u : HO} (h : noT u = true) : isTb u = false := by
  cases u <;> first | rfl | cases h
theorem tabs_new {T : List (Addr × Str)} {H : Hp} {p : Addr} {o' : HO} (t : LamX.Tabs T H) (n : H p = none) : LamX.Tabs T (upd H p o') := tabs_upd t fun u e => by rw [n] at e; cases e
mutual
theorem RV.mono {ρ ρ' : List Addr} {H H' : Hp} (f : Keep K ρ H ρ' H') : ∀ (a : A) (v : V), RV K γ ρ H a v → RV K γ ρ' H' a v
  | .non, _, h => by simpa [RV] using h
  | .bl _, _, h => by simpa [RV] using h
  | .int _, _, h => by simpa [RV] using h
  | .str _, _, h => by simpa [RV] using h
  | .ty _, _, h => by simpa [RV] using h
  | .ref n, _, h => by
    unfold RV at h ⊢
    obtain ⟨a, e, q⟩ := h
    obtain ⟨m, z⟩ := f.ext
    refine ⟨a, ?_, q⟩
    rw [z, List.getElem?_append_left (List.getElem?_eq_some_iff.mp e).1]
    exact e
  | .glo _, _, h => by simpa [RV] using h
  | .tup xs, _, h => by
    unfold RV at h ⊢
    obtain ⟨p, vs, e, t, q⟩ := h
    exact ⟨p, vs, e, f.tup p vs t, RVs.mono f xs vs q⟩
  | .ktup xs, _, h => by
    unfold RV at h ⊢
    obtain ⟨p, vs, e, t, q⟩ := h
    exact ⟨p, vs, e, t, RVs.mono f xs vs q⟩
theorem RVs.mono {ρ ρ' : List Addr} {H H' : Hp} (f : Keep K ρ H ρ' H') : ∀ (a : List A) (v : List V), RVs K γ ρ H a v → RVs K γ ρ' H' a v
  | [], _, h => by simpa [RVs] using h
  | x :: xs, _, h => by
    unfold RVs at h ⊢
    obtain ⟨v, r, e, q1, q2⟩ := h
    exact ⟨v, r, e, RV.mono f x v q1, RVs.mono f xs r q2⟩
end
theorem RKs.mono {κ : Type} {ρ ρ' : List Addr} {H H' : Hp} (f : Keep K ρ H ρ' H') : ∀ (a : List (κ × A)) (v : List (κ × V)), RKs K γ ρ H a v → RKs K γ ρ' H' a v
  | [], _, h => h
  | x :: xs, _, h => by
    obtain ⟨v, r, e, q1, q2⟩ := h
    exact ⟨v, r, e, RV.mono f _ v q1, RKs.mono f xs r q2⟩
theorem RS.mono {ρ ρ' : List Addr} {H H' : Hp} (f : Keep K ρ H ρ' H') : ∀ (a : List (Option A)) (v : L2.St), RS K γ ρ H a v → RS K γ ρ' H' a v
  | [], _, h => h
  | x :: xs, _, h => by
    obtain ⟨v, r, e, q1, q2⟩ := h
    exact ⟨v, r, e, fun a ha => let ⟨u, z, w⟩ := q1 a ha; ⟨u, z, RV.mono f _ u w⟩, RS.mono f xs r q2⟩
theorem RS.get {ρ : List Addr} {H : Hp} : ∀ {sa : List (Option A)} {σ : L2.St} {i : Nat} {a : A}, RS K γ ρ H sa σ → sa[i]? = some (some a) → ∃ v, σ[i]? = some (some v) ∧ RV K γ ρ H a v
  | [], _, _, _, _, e => by simp at e
  | x :: xs, σ, 0, a, e, h => by
    obtain ⟨v, r, rfl, q1, _⟩ := e
    have h' : x = some a := by simpa using h
    obtain ⟨u, z, w⟩ := q1 a h'
    exact ⟨u, by rw [z]; rfl, w⟩
  | x :: xs, σ, i + 1, a, e, h => by
    obtain ⟨v, r, rfl, _, q2⟩ := e
    obtain ⟨u, z, w⟩ := RS.get (i := i) q2 (by simpa using h)
    exact ⟨u, by simpa using z, w⟩
theorem RS.set {ρ : List Addr} {H : Hp} : ∀ {sa : List (Option A)} {σ : L2.St} {i : Nat} {a : A} {v : V}, RS K γ ρ H sa σ → RV K γ ρ H a v → RS K γ ρ H (sa.set i (some a)) (σ.set i (some v))
  | [], σ, _, _, _, e, _ => by
    have e' : σ = [] := e
    rw [e']; rfl
  | x :: xs, σ, 0, a, v, e, h => by
    obtain ⟨w, r, rfl, q1, q2⟩ := e
    exact ⟨some v, r, rfl, fun b hb => by cases hb; exact ⟨v, rfl, h⟩, q2⟩
  | x :: xs, σ, i + 1, a, v, e, h => by
    obtain ⟨w, r, rfl, q1, q2⟩ := e
    exact ⟨w, r.set i (some v), rfl, q1, RS.set q2 h⟩
theorem RVs.length {ρ : List Addr} {H : Hp} : ∀ {xs : List A} {vs : List V}, RVs K γ ρ H xs vs → vs.length = xs.length
  | [], vs, h => by
    have h' : vs = [] := by simpa [RVs] using h
    rw [h']; rfl
  | x :: xs, _, h => by
    unfold RVs at h
    obtain ⟨v, r, e, _, q⟩ := h
    rw [e]; simp [RVs.length q]
end

/-! ### what is wanted behind a run -/
section
variable (K : PySem.W.Frag) (γ : Gm) (E : XK) (B : List O)
def Post {α β : Type} (R : List Addr → Hp → α → β → Prop) (Q : β → Hp → Prop) (r : Res α) (ρ : List Addr) (H : Hp) : Prop := match r with
  | .ok a t => ∀ ρ' H' b, Fwd B.length ρ H ρ' H' → Rep K γ ρ' (B ++ t) H' → R ρ' H' a b → Q b H'
  | .exc c fs t => ∀ ρ' H' C d vs, Fwd B.length ρ H ρ' H' → Rep K γ ρ' (B ++ t) H' → γ[c]? = some C → H' d = some (.xd vs) → RKs K γ ρ' H' fs vs → E (.ref C) (some d) H'
  | .bad => False
end
section
variable {K : PySem.W.Frag} {γ : Gm} {E : XK} {B : List O} {α β α' β' : Type} {R : List Addr → Hp → α → β → Prop} {R' : List Addr → Hp → α' → β' → Prop} {ρ : List Addr} {H : Hp}
theorem Post.fwd {Q : β → Hp → Prop} {r : Res α} (h : Post K γ E B R Q r ρ H) {ρ' : List Addr} {H' : Hp} (f : Fwd B.length ρ H ρ' H') : Post K γ E B R Q r ρ' H' := by
  cases r with
  | ok a t => exact fun ρ2 H2 b g q w => h ρ2 H2 b (f.trans g) q w
  | exc c fs t => exact fun ρ2 H2 C d vs g q hc hd w => h ρ2 H2 C d vs (f.trans g) q hc hd w
  | bad => exact h
theorem Post.bind {Q : β → Hp → Prop} {Q' : β' → Hp → Prop} {r : Res α} {k : α → List O → Res α'} (h : Post K γ E B R' Q' (r.bind k) ρ H)
    (hk : ∀ a t ρ' H' b, r = .ok a t → Fwd B.length ρ H ρ' H' → Rep K γ ρ' (B ++ t) H' → R ρ' H' a b → Post K γ E B R' Q' (k a t) ρ' H' → Q b H') : Post K γ E B R Q r ρ H := by
  cases r with
  | ok a t =>
    intro ρ' H' b f q w
    exact hk a t ρ' H' b rfl f q w (Post.fwd (r := k a t) h f)
  | exc c fs t => exact h
  | bad => exact h
end
end Ev
end
section
set_option Elab.async false
set_option linter.all false
set_option maxRecDepth 100000
set_option maxHeartbeats 400000
/-! The heap grows, is written; expressions. -/
namespace Ev
open PySem PySem.Spec PyProof.Rows L2
section
variable {K : PySem.W.Frag} {γ : Gm} {ρ : List Addr} {hp : List O} {H : Hp}
theorem RO.mono {ρ' : List Addr} {H' : Hp} {o : O} {a : Addr} (f : Keep K ρ H ρ' H') (e : ∀ u, H a = some u → H' a = some u) (h : RO K γ ρ H o a) : RO K γ ρ' H' o a := by
  cases o with
  | lst xs => obtain ⟨vs, z, q⟩ := h; exact ⟨vs, e _ z, RVs.mono f _ _ q⟩
  | dic xs => obtain ⟨vs, z, q⟩ := h; exact ⟨vs, e _ z, RKs.mono f _ _ q⟩
  | dicT xs => obtain ⟨vs, z, q⟩ := h; exact ⟨vs, e _ z, RKs.mono f _ _ q⟩
  | ins c xs => obtain ⟨C, dx, vs, g, z, q⟩ := h; exact ⟨C, dx, vs, g, e _ z, RKs.mono f _ _ q⟩
  | ro xs =>
    obtain ⟨vs, z, q⟩ := h
    refine ⟨vs, ?_, RVs.mono f _ _ q⟩
    rcases z with z | ⟨o, z⟩
    · exact .inl (e _ z)
    · exact .inr ⟨o, e _ z⟩
  | dro xs =>
    obtain ⟨vs, z, q⟩ := h
    refine ⟨vs, ?_, RKs.mono f _ _ q⟩
    rcases z with z | ⟨o, z⟩
    · exact .inl (e _ z)
    · exact .inr ⟨o, e _ z⟩
  | droT xs =>
    obtain ⟨vs, z, q⟩ := h
    refine ⟨vs, ?_, RKs.mono f _ _ q⟩
    rcases z with z | ⟨o, z⟩
    · exact .inl (e _ z)
    · exact .inr ⟨o, e _ z⟩
  | fz xs => obtain ⟨o, vs, z, q⟩ := h; exact ⟨o, vs, e _ z, RKs.mono f _ _ q⟩
theorem upd_some {p b : Addr} {o : HO} {u : HO} (n : H p = none) (h : H b = some u) : upd H p o b = some u := by rw [upd_ne (ne_of_none h n)]; exact h
theorem tup_upd {p q : Addr} {o : HO} {vs : List V} (n : ∀ u, H p = some u → noT u = true) (h : H q = some (.tup vs)) : upd H p o q = some (.tup vs) := by
  rw [upd_ne]
  · exact h
  · rintro rfl; exact Bool.noConfusion (n _ h)
theorem nodup_push {l : List Addr} {p : Addr} (h : l.Nodup) (n : p ∉ l) : (l ++ [p]).Nodup := by
  rw [List.nodup_append]
  exact ⟨h, by simp, fun a ha b hb => by
    have : b = p := by simpa using hb
    rw [this]; rintro rfl; exact n ha⟩
/-- a new object that we track -/
theorem Rep.push {nb : Nat} (R : Rep K γ ρ hp H) {p : Addr} (n : H p = none) {o : O} {o' : HO} (h : RO K γ (ρ ++ [p]) (upd H p o') o p) :
    Rep K γ (ρ ++ [p]) (hp ++ [o]) (upd H p o') ∧ Fwd nb ρ H (ρ ++ [p]) (upd H p o') := by
  have kp : Keep K ρ H (ρ ++ [p]) (upd H p o') := ⟨⟨[p], rfl⟩, fun q vs hq => tup_upd (fun u e => by rw [n] at e; cases e) hq⟩
  refine ⟨⟨by simp [R.len], nodup_push R.nd (R.fresh n), fun i a oo hi ho => ?_, tabs_new R.tab n⟩, ⟨⟨[p], rfl⟩, fun a ha hn => ?_, fun a u e _ _ => upd_some n e, fun a u e z => ⟨u, upd_some n e, z⟩, fun a o u e => upd_some n e, fun k a _ ha => upd_ne (fun z => R.fresh n (z ▸ List.mem_of_getElem? ha))⟩⟩
  · by_cases hl : i < ρ.length
    · rw [List.getElem?_append_left hl] at hi
      rw [List.getElem?_append_left (by rw [← R.len]; exact hl)] at ho
      exact RO.mono kp (fun u e => upd_some n e) (R.ob i a oo hi ho)
    · rw [List.getElem?_append_right (by omega)] at hi
      rw [List.getElem?_append_right (by rw [← R.len]; omega)] at ho
      have e : i - ρ.length = 0 := by
        have := (List.getElem?_eq_some_iff.mp hi).1
        simp at this; omega
      rw [e] at hi
      rw [← R.len, e] at ho
      have e1 : p = a := by simpa using hi
      have e2 : o = oo := by simpa using ho
      rw [← e1, ← e2]; exact h
  · rcases List.mem_append.mp ha with q | q
    · exact absurd q hn
    · have : a = p := by simpa using q
      rw [this]; exact n
/-- a new object that nobody needs to track -/
theorem Rep.junk {nb : Nat} (R : Rep K γ ρ hp H) {p : Addr} (n : H p = none) {o' : HO} : Rep K γ ρ hp (upd H p o') ∧ Fwd nb ρ H ρ (upd H p o') := by
  have kp : Keep K ρ H ρ (upd H p o') := ⟨⟨[], by simp⟩, fun q vs hq => tup_upd (fun u e => by rw [n] at e; cases e) hq⟩
  exact ⟨⟨R.len, R.nd, fun i a oo hi ho => RO.mono kp (fun u e => upd_some n e) (R.ob i a oo hi ho), tabs_new R.tab n⟩, ⟨⟨[], by simp⟩, fun a ha hn => absurd ha hn, fun a u e _ _ => upd_some n e, fun a u e z => ⟨u, upd_some n e, z⟩, fun a o u e => upd_some n e, fun k a _ ha => upd_ne (fun z => R.fresh n (z ▸ List.mem_of_getElem? ha))⟩⟩
theorem nd_inj {l : List Addr} (h : l.Nodup) {i j : Nat} {a : Addr} (hi : l[i]? = some a) (hj : l[j]? = some a) : i = j := by
  obtain ⟨l1, g1⟩ := (List.getElem?_eq_some_iff.mp hi)
  obtain ⟨l2, g2⟩ := (List.getElem?_eq_some_iff.mp hj)
  have nd := List.pairwise_iff_getElem.mp h
  rcases Nat.lt_trichotomy i j with z | z | z
  · exact (nd i j l1 l2 z (g1.trans g2.symm)).elim
  · exact z
  · exact (nd j i l2 l1 z (g2.trans g1.symm)).elim
/-- an object of ours is written -/
theorem Rep.write {nb : Nat} (R : Rep K γ ρ hp H) {i : Nat} {a : Addr} (hi : ρ[i]? = some a) (hb : nb ≤ i) (nf : ∀ o u, H a ≠ some (.frz o u)) {o : O} {o' : HO} (h : ∀ H', Keep K ρ H ρ H' → H' a = some o' → RO K γ ρ H' o a) :
    Rep K γ ρ (hp.set i o) (upd H a o') ∧ Fwd nb ρ H ρ (upd H a o') := by
  have hm : a ∈ ρ := List.mem_of_getElem? hi
  obtain ⟨u0, e0, t0⟩ := R.obj hm
  have kp : Keep K ρ H ρ (upd H a o') := ⟨⟨[], by simp⟩, fun q vs hq => tup_upd (fun u e => by rw [e0] at e; cases e; exact t0) hq⟩
  have ne : ∀ b, b ≠ a → upd H a o' b = H b := fun b hb => upd_ne hb
  refine ⟨⟨by simp [R.len], R.nd, fun j b oo hj ho => ?_, tabs_upd R.tab fun u e => by rw [e0] at e; cases e; exact t0⟩, ⟨⟨[], by simp⟩, fun b hb hn => absurd hb hn, fun b u e hn _ => ?_, fun b u e z => ⟨u, by rw [ne b (fun q => by rw [q, e0] at e; cases e; rw [noT_tb t0] at z; cases z)]; exact e, z⟩, fun b o u e => ?_, fun k b hk hb' => ?_⟩⟩
  · by_cases q : j = i
    · subst q
      rw [hi] at hj
      cases hj
      have hl : j < hp.length := by rw [← R.len]; exact (List.getElem?_eq_some_iff.mp hi).1
      rw [List.getElem?_set_self hl] at ho
      cases ho
      exact h _ kp upd_same
    · rw [List.getElem?_set_ne (fun z => q z.symm)] at ho
      have nb : b ≠ a := by
        rintro rfl
        exact q (nd_inj R.nd hj hi)
      exact RO.mono kp (fun u e => by rw [ne b nb]; exact e) (R.ob j b oo hj ho)
  · rw [ne b (fun z => hn (z ▸ hm))]; exact e
  · rw [ne b (fun z => nf o u (z ▸ e))]; exact e
  · refine ne b fun z => ?_
    subst z
    have := nd_inj R.nd hb' hi
    omega
theorem set_top {B t : List O} {n : Nat} {o : O} (h : B.length ≤ n) : (B ++ t).set n o = B ++ t.set (n - B.length) o := by
  rw [List.set_append_right n o h]
end

/-! ### expressions -/
abbrev ME := List (Option A) → List O → Res A
abbrev MT := List (Option A) → List O → Res Bool
abbrev MA := List (Option A) → List O → Res (List A)
/-- what is fixed through a body: the global addresses, the wish about exceptions, the objects that are only read -/
structure Cc where
  γ : Gm
  E : XK
  B : List O
def RB (_ : List Addr) (_ : Hp) (a b : Bool) : Prop := a = b
section
variable (c : Cc) (X : Cx)
def tM {α β : Type} (R : List Addr → Hp → α → β → Prop) (m : List (Option A) → List O → Res α) : L2.St → Hp → (β → Hp → Prop) → Prop := fun σ H Q =>
  ∃ ρ σa top, Rep X.K c.γ ρ (c.B ++ top) H ∧ RS X.K c.γ ρ H σa σ ∧ Post X.K c.γ c.E c.B R Q (m σa top) ρ H
def SE (e : Expr) (m : ME) : Prop := PE X e (tM c X (RV X.K c.γ) m)
def ST (e : Expr) (m : MT) : Prop := PT X e (tM c X RB m)
def SW (e : Expr) (m : MT) : Prop := PW X e (tM c X RB m)
def SA (es : List Expr) (m : MA) : Prop := PA X es (tM c X (RVs X.K c.γ) m)
end
section
variable {c : Cc} {X : Cx}
theorem PE.imp {e : Expr} {t t' : TE} (h : PE X e t) (f : ∀ σ H Q, t' σ H Q → t σ H Q) : PE X e t' := ⟨fun pins s σ H Q I q => h.run pins s σ H Q I (f _ _ _ q)⟩
theorem PT.imp {e : Expr} {t t' : TT} (h : PT X e t) (f : ∀ σ H Q, t' σ H Q → t σ H Q) : PT X e t' := ⟨fun pins s σ H Q I q => h.run pins s σ H Q I (f _ _ _ q)⟩
theorem PW.imp {e : Expr} {t t' : TT} (h : PW X e t) (f : ∀ σ H Q, t' σ H Q → t σ H Q) : PW X e t' := ⟨fun wh pins s σ H Q I q => h.run wh pins s σ H Q I (f _ _ _ q)⟩
theorem PA.imp {e : List Expr} {t t' : TA} (h : PA X e t) (f : ∀ σ H Q, t' σ H Q → t σ H Q) : PA X e t' := ⟨fun p pins s σ H Q I q => h.run p pins s σ H Q I (f _ _ _ q)⟩
theorem PS.imp {e : Stmt} {t t' : TS} (h : PS X e t) (f : ∀ D σ H, t' D σ H → t D σ H) : PS X e t' := ⟨fun pins s σ H D I q => h.run pins s σ H D I (f _ _ _ q)⟩
theorem PSs.imp {e : List Stmt} {t t' : TS} (h : PSs X e t) (f : ∀ D σ H, t' D σ H → t D σ H) : PSs X e t' := ⟨fun pins s σ H D I q => h.run pins s σ H D I (f _ _ _ q)⟩

/-- a value is there: go on -/
theorem Post.now {α β : Type} {R : List Addr → Hp → α → β → Prop} {Q : β → Hp → Prop} {a : α} {b : β} {t : List O} {ρ : List Addr} {H : Hp} (h : Post X.K c.γ c.E c.B R Q (.ok a t) ρ H) (r : Rep X.K c.γ ρ (c.B ++ t) H) (q : R ρ H a b) : Q b H :=
  h ρ H b (Fwd.refl _ _) r q
/-- the first part of a run, then the rest -/
theorem tM.bind {α β α' β' : Type} {R : List Addr → Hp → α → β → Prop} {R' : List Addr → Hp → α' → β' → Prop} {m : List (Option A) → List O → Res α} {k : List (Option A) → α → List O → Res α'} {σ : L2.St} {H : Hp} {Q : β' → Hp → Prop} {Q1 : β → Hp → Prop}
    (h : tM c X R' (fun s t => (m s t).bind (k s)) σ H Q)
    (hk : ∀ ρ H1 σa a b t, Rep X.K c.γ ρ (c.B ++ t) H1 → RS X.K c.γ ρ H1 σa σ → R ρ H1 a b → Post X.K c.γ c.E c.B R' Q (k σa a t) ρ H1 → Q1 b H1) : tM c X R m σ H Q1 := by
  obtain ⟨ρ, σa, top, r, s, p⟩ := h
  refine ⟨ρ, σa, top, r, s, Post.bind p fun a t ρ' H' b _ f r' w q => ?_⟩
  exact hk ρ' H' σa a b t r' (RS.mono (r.keep f) _ _ s) w q

def mVar (i : Nat) : ME := fun s t => match s[i]? with
  | some (some a) => .ok a t
  | _ => .bad
theorem se_var {e : Expr} {i : Nat} (h : PE X e (tVar i)) : SE c X e (mVar i) := by
  refine PE.imp h fun σ H Q ⟨ρ, σa, top, r, s, p⟩ => ?_
  unfold mVar at p
  cases e1 : σa[i]? with
  | none => rw [e1] at p; exact p.elim
  | some o =>
    cases o with
    | none => rw [e1] at p; exact p.elim
    | some a =>
      rw [e1] at p
      obtain ⟨v, ev, rv⟩ := s.get e1
      exact ⟨v, ev, p.now r rv⟩
def mCon (a : A) : ME := fun _ t => .ok a t
theorem se_con {e : Expr} {v : V} {a : A} (h : PE X e (tC v)) (hr : ∀ ρ H, RV X.K c.γ ρ H a v) : SE c X e (mCon a) :=
  PE.imp h fun σ H Q ⟨ρ, σa, top, r, s, p⟩ => Post.now p r (hr ρ H)
def mBin (f : A → A → List O → Res A) (ma mb : ME) : ME := fun s t => (ma s t).bind fun a t1 => (mb s t1).bind fun b t2 => f a b t2
/-- an operator by values does f -/
def Ok2 (c : Cc) (K : PySem.W.Frag) (r : R2) (f : A → A → List O → Res A) : Prop := ∀ ρ t H Q x y a b, Rep K c.γ ρ (c.B ++ t) H → RV K c.γ ρ H a x → RV K c.γ ρ H b y → Post K c.γ c.E c.B (RV K c.γ) Q (f a b t) ρ H → r x y H Q
theorem se_bin {e : Expr} {r : R2} {f : A → A → List O → Res A} {ma mb : ME} (h : PE X e (tOp r (tM c X (RV X.K c.γ) ma) (tM c X (RV X.K c.γ) mb))) (hf : Ok2 c X.K r f) : SE c X e (mBin f ma mb) := by
  refine PE.imp h fun σ H Q p => ?_
  refine tM.bind (k := fun s a t1 => (mb s t1).bind fun b t2 => f a b t2) p fun ρ H1 σa a x t r s w q => ?_
  refine ⟨ρ, σa, t, r, s, Post.bind q fun b t2 ρ' H' y _ g r' w' q' => ?_⟩
  exact hf ρ' t2 H' Q x y a b r' (RV.mono (r.keep g) _ _ w) w' q'
def mUn (f : A → List O → Res A) (ma : ME) : ME := fun s t => (ma s t).bind f
def Ok1 (c : Cc) (K : PySem.W.Frag) (r : V → Hp → VK → Prop) (f : A → List O → Res A) : Prop := ∀ ρ t H Q x a, Rep K c.γ ρ (c.B ++ t) H → RV K c.γ ρ H a x → Post K c.γ c.E c.B (RV K c.γ) Q (f a t) ρ H → r x H Q
theorem se_un {e : Expr} {r : V → Hp → VK → Prop} {f : A → List O → Res A} {ma : ME} (h : PE X e (fun σ H Q => (tM c X (RV X.K c.γ) ma) σ H fun x H1 => r x H1 Q)) (hf : Ok1 c X.K r f) : SE c X e (mUn f ma) := by
  refine PE.imp h fun σ H Q p => ?_
  exact tM.bind (k := fun _ a t1 => f a t1) p fun ρ H1 σa a x t r s w q => hf ρ t H1 Q x a r w q
/-! arguments -/
def mNil : MA := fun _ t => .ok [] t
def mCons (ma : ME) (mr : MA) : MA := fun s t => (ma s t).bind fun a t1 => (mr s t1).bind fun as t2 => .ok (a :: as) t2
theorem sa_nil : SA c X [] mNil := PA.imp pa_nil fun σ H Q ⟨ρ, σa, top, r, s, p⟩ => Post.now p r (by unfold RVs; rfl)
theorem sa_cons {e : Expr} {es : List Expr} {ma : ME} {mr : MA} (ha : SE c X e ma) (hr : SA c X es mr) (hs : starEach (e :: es) X.env = (false, eval e X.env) :: starEach es X.env := by rfl) : SA c X (e :: es) (mCons ma mr) := by
  refine PA.imp (pa_cons ha hr hs) fun σ H Q p => ?_
  refine tM.bind (k := fun s a t1 => (mr s t1).bind fun as t2 => .ok (a :: as) t2) p fun ρ H1 σa a x t r s w q => ?_
  refine ⟨ρ, σa, t, r, s, Post.bind q fun b t2 ρ' H' y _ g r' w' q' => ?_⟩
  exact Post.now q' r' (by unfold RVs; exact ⟨_, _, rfl, RV.mono (r.keep g) _ _ w, w'⟩)
/-- a call of a value by its arguments -/
def mCall (f : List A → List O → Res A) (ma : MA) : ME := fun s t => (ma s t).bind f
def OkA (c : Cc) (K : PySem.W.Frag) (r : List V → Hp → VK → Prop) (f : List A → List O → Res A) : Prop := ∀ ρ t H Q xs as, Rep K c.γ ρ (c.B ++ t) H → RVs K c.γ ρ H as xs → Post K c.γ c.E c.B (RV K c.γ) Q (f as t) ρ H → r xs H Q
theorem se_args {e : Expr} {r : List V → Hp → VK → Prop} {f : List A → List O → Res A} {ma : MA} (h : PE X e (fun σ H Q => (tM c X (RVs X.K c.γ) ma) σ H fun xs H1 => r xs H1 Q)) (hf : OkA c X.K r f) : SE c X e (mCall f ma) := by
  refine PE.imp h fun σ H Q p => ?_
  exact tM.bind (k := fun _ a t1 => f a t1) p fun ρ H1 σa a x t r s w q => hf ρ t H1 Q x a r w q
/-! displays -/
def mTup (ma : MA) : ME := mCall (fun as t => if as.length ≤ sizeLine then .ok (.tup as) t else .bad) ma
theorem se_tup {es : List Expr} {x1 : Nat} {pos : Pos} {ma : MA} (h : SA c X es ma) : SE c X (.Tuple es x1 pos) (mTup ma) := by
  refine se_args (pe_tup h) fun ρ t H Q xs as r w p => ?_
  by_cases hl : as.length ≤ sizeLine
  · rw [if_pos hl] at p
    refine ⟨by rw [w.length]; exact hl, fun q hq => ?_⟩
    obtain ⟨r', f⟩ := r.junk (o' := .tup xs) hq
    exact p _ _ _ f r' (by unfold RV; exact ⟨q, xs, rfl, upd_same, RVs.mono (r.keep f) _ _ w⟩)
  · rw [if_neg hl] at p; exact p.elim
/-- a new object of ours -/
def mkO (B : List O) (o : O) : List O → Res A := fun t => .ok (.ref (B.length + t.length)) (t ++ [o])
theorem mkO_ok {K : PySem.W.Frag} {ρ : List Addr} {t : List O} {H : Hp} {Q : VK} {o : O} {o' : HO} {p : Addr} (r : Rep K c.γ ρ (c.B ++ t) H) (n : H p = none) (ho : ∀ ρ' H', Keep K ρ H ρ' H' → H' p = some o' → RO K c.γ ρ' H' o p)
    (h : Post K c.γ c.E c.B (RV K c.γ) Q (mkO c.B o t) ρ H) : Q (.ref p) (upd H p o') := by
  have kp : Keep K ρ H (ρ ++ [p]) (upd H p o') := ⟨⟨[p], rfl⟩, fun q vs hq => tup_upd (fun u e => by rw [n] at e; cases e) hq⟩
  obtain ⟨r', f⟩ := r.push n (ho _ _ kp upd_same)
  refine h _ _ _ f (by rw [← List.append_assoc]; exact r') ?_
  unfold RV
  have hl : c.B.length + t.length = ρ.length := by rw [r.len, List.length_append]
  exact ⟨p, by rw [hl]; simp, rfl⟩
def mLst (B : List O) (ma : MA) : ME := mCall (fun as t => if as.length ≤ sizeLine then mkO B (.lst as) t else .bad) ma
theorem se_lst {es : List Expr} {pos : Pos} {ma : MA} (h : SA c X es ma) : SE c X (.List es pos) (mLst c.B ma) := by
  refine se_args (pe_lst h) fun ρ t H Q xs as r w p => ?_
  by_cases hl : as.length ≤ sizeLine
  · rw [if_pos hl] at p
    exact ⟨by rw [w.length]; exact hl, fun q hq => mkO_ok (o := .lst as) r hq (fun ρ' H' k e => ⟨xs, e, RVs.mono k _ _ w⟩) p⟩
  · rw [if_neg hl] at p; exact p.elim
def mDic0 (B : List O) : ME := fun _ t => mkO B (.dic []) t
theorem se_dic0 {pos : Pos} : SE c X (.Dict [] [] pos) (mDic0 c.B) :=
  PE.imp pe_dnewK fun σ H Q ⟨ρ, σa, top, r, s, p⟩ q hq => mkO_ok (o := .dic []) r hq (fun ρ' H' k e => ⟨[], e, rfl⟩) p
def mDicT0 (B : List O) : ME := fun _ t => mkO B (.dicT []) t
theorem se_dicT0 {pos : Pos} : SE c X (.Dict [] [] pos) (mDicT0 c.B) :=
  PE.imp pe_dnewT fun σ H Q ⟨ρ, σa, top, r, s, p⟩ q hq => mkO_ok (o := .dicT []) r hq (fun ρ' H' k e => ⟨[], e, rfl⟩) p
/-! tests -/
def mTest (ma : ME) : MT := fun s t => (ma s t).bind fun a t1 => match a with
  | .bl b => .ok b t1
  | _ => .bad
theorem tB_ok {σ : L2.St} {H : Hp} {Q : Bool → Hp → Prop} {ma : ME} (p : tM c X RB (mTest ma) σ H Q) : tB (tM c X (RV X.K c.γ) ma) σ H Q := by
  refine tM.bind (k := fun _ a t1 => match a with
    | .bl b => .ok b t1
    | _ => .bad) p fun ρ H1 σa a x t r s w q => ?_
  cases a with
  | bl b =>
    unfold RV at w
    exact ⟨b, w, Post.now q r rfl⟩
  | _ => exact q.elim
theorem st_val {e : Expr} {ma : ME} (h : SE c X e ma) (he : ∀ whole, isTrue e X.env whole = (do let v ← whole; standAt e.pos; holding [v] (truthy v)) := by intro _; rfl) : ST c X e (mTest ma) :=
  PT.imp (pt_val h he) fun σ H Q p => tB_ok p
theorem st_cmp {r : R2} {f : A → A → List O → Res A} {op : CmpOp} {a b : Expr} {pos : Pos} {ma mb : ME} (ho : OpR X (compareOp op) r) (ha : SE c X a ma) (hb : SE c X b mb) (hf : Ok2 c X.K r f) (hm : behindInMarks op b = false) : ST c X (.Compare a [op] [b] pos) (mTest (mBin f ma mb)) := by
  refine PT.imp (pt_cmpR ho ha hb hm) fun σ H Q p => ?_
  have p1 := tB_ok p
  have : tM c X (RV X.K c.γ) (mBin f ma mb) σ H (fun x H1 => ∃ k, x = .bl k ∧ Q k H1) := p1
  refine tM.bind (k := fun s a t1 => (mb s t1).bind fun b t2 => f a b t2) this fun ρ H1 σa a x t r s w q => ?_
  refine ⟨ρ, σa, t, r, s, Post.bind q fun b t2 ρ' H' y _ g r' w' q' => ?_⟩
  exact hf ρ' t2 H' _ x y a b r' (RV.mono (r.keep g) _ _ w) w' q'
theorem se_cmp {r : R2} {f : A → A → List O → Res A} {op : CmpOp} {a b : Expr} {pos : Pos} {ma mb : ME} (ho : OpR X (compareOp op) r) (ha : SE c X a ma) (hb : SE c X b mb) (hf : Ok2 c X.K r f) (hm : behindInMarks op b = false) : SE c X (.Compare a [op] [b] pos) (mBin f ma mb) :=
  se_bin (pe_cmpR ho ha hb hm) hf
def mAnd (ma mb : MT) : MT := fun s t => (ma s t).bind fun a t1 => match a with
  | true => mb s t1
  | false => .ok false t1
def mOr (ma mb : MT) : MT := fun s t => (ma s t).bind fun a t1 => match a with
  | true => .ok true t1
  | false => mb s t1
def mNot (ma : MT) : MT := fun s t => (ma s t).bind fun a t1 => .ok (!a) t1
theorem sw_and1 {a : Expr} {pos : Pos} {ma : MT} (h : ST c X a ma) : SW c X (.BoolOp .And [a] pos) ma := pw_and1 h
theorem sw_or1 {a : Expr} {pos : Pos} {ma : MT} (h : ST c X a ma) : SW c X (.BoolOp .Or [a] pos) ma := pw_or1 h
theorem sw_and {a b : Expr} {rest : List Expr} {pos : Pos} {ma mb : MT} (ha : ST c X a ma) (hb : SW c X (.BoolOp .And (b :: rest) pos) mb) : SW c X (.BoolOp .And (a :: b :: rest) pos) (mAnd ma mb) := by
  refine PW.imp (pw_and ha hb) fun σ H Q p => ?_
  refine tM.bind (k := fun s a t1 => match a with
    | true => mb s t1
    | false => .ok false t1) p fun ρ H1 σa a x t r s w q => ?_
  cases w
  cases a with
  | true => rw [if_pos rfl]; exact ⟨ρ, σa, t, r, s, q⟩
  | false => rw [if_neg Bool.false_ne_true]; exact Post.now q r rfl
theorem sw_or {a b : Expr} {rest : List Expr} {pos : Pos} {ma mb : MT} (ha : ST c X a ma) (hb : SW c X (.BoolOp .Or (b :: rest) pos) mb) : SW c X (.BoolOp .Or (a :: b :: rest) pos) (mOr ma mb) := by
  refine PW.imp (pw_or ha hb) fun σ H Q p => ?_
  refine tM.bind (k := fun s a t1 => match a with
    | true => .ok true t1
    | false => mb s t1) p fun ρ H1 σa a x t r s w q => ?_
  cases w
  cases a with
  | true => rw [if_pos rfl]; exact Post.now q r rfl
  | false => rw [if_neg Bool.false_ne_true]; exact ⟨ρ, σa, t, r, s, q⟩
theorem SW.st {e : Expr} {m : MT} (h : SW c X e m) : ST c X e m := PW.pt h
theorem st_not {a : Expr} {pos : Pos} {ma : MT} (h : ST c X a ma) : ST c X (.UnaryOp .Not a pos) (mNot ma) := by
  refine PT.imp (pt_not h) fun σ H Q p => ?_
  refine tM.bind (k := fun _ a t1 => .ok (!a) t1) p fun ρ H1 σa a x t r s w q => ?_
  cases w
  exact Post.now q r rfl
/-! the same as values -/
def mVal (ma : MT) : ME := fun s t => (ma s t).bind fun a t1 => .ok (.bl a) t1
def mIte (mc : MT) (ma mb : ME) : ME := fun s t => (mc s t).bind fun b t1 => match b with
  | true => ma s t1
  | false => mb s t1
theorem se_ite {e a b : Expr} {pos : Pos} {mc : MT} {ma mb : ME} (h : ST c X e mc) (ha : SE c X a ma) (hb : SE c X b mb) : SE c X (.IfExp e a b pos) (mIte mc ma mb) := by
  refine PE.imp (pe_ifExp h ha hb) fun σ H Q p => ?_
  refine tM.bind (k := fun s b t1 => match b with
    | true => ma s t1
    | false => mb s t1) p fun ρ H1 σa a x t r s w q => ?_
  cases w
  cases a with
  | true => rw [if_pos rfl]; exact ⟨ρ, σa, t, r, s, q⟩
  | false => rw [if_neg Bool.false_ne_true]; exact ⟨ρ, σa, t, r, s, q⟩
def mAndV (ma mb : ME) : ME := fun s t => (ma s t).bind fun a t1 => match a with
  | .bl true => mb s t1
  | .bl false => .ok (.bl false) t1
  | _ => .bad
def mOrV (ma mb : ME) : ME := fun s t => (ma s t).bind fun a t1 => match a with
  | .bl true => .ok (.bl true) t1
  | .bl false => mb s t1
  | _ => .bad
def mNotV (ma : ME) : ME := fun s t => (ma s t).bind fun a t1 => match a with
  | .bl b => .ok (.bl (!b)) t1
  | _ => .bad
theorem se_one {op} {a : Expr} {pos : Pos} {ma : ME} (h : SE c X a ma) : SE c X (.BoolOp op [a] pos) ma := pe_one h
theorem se_and {a b : Expr} {rest : List Expr} {pos : Pos} {ma mb : ME} (ha : SE c X a ma) (hb : SE c X (.BoolOp .And (b :: rest) pos) mb) : SE c X (.BoolOp .And (a :: b :: rest) pos) (mAndV ma mb) := by
  refine PE.imp (pe_and ha hb) fun σ H Q p => ?_
  refine tM.bind (k := fun s a t1 => match a with
    | .bl true => mb s t1
    | .bl false => .ok (.bl false) t1
    | _ => .bad) p fun ρ H1 σa a x t r s w q => ?_
  cases a with
  | bl k =>
    unfold RV at w
    refine ⟨k, w, ?_⟩
    cases k with
    | true => rw [if_pos rfl]; exact ⟨ρ, σa, t, r, s, q⟩
    | false => rw [if_neg Bool.false_ne_true]; exact Post.now q r (by unfold RV; rfl)
  | _ => exact q.elim
theorem se_or {a b : Expr} {rest : List Expr} {pos : Pos} {ma mb : ME} (ha : SE c X a ma) (hb : SE c X (.BoolOp .Or (b :: rest) pos) mb) : SE c X (.BoolOp .Or (a :: b :: rest) pos) (mOrV ma mb) := by
  refine PE.imp (pe_or ha hb) fun σ H Q p => ?_
  refine tM.bind (k := fun s a t1 => match a with
    | .bl true => .ok (.bl true) t1
    | .bl false => mb s t1
    | _ => .bad) p fun ρ H1 σa a x t r s w q => ?_
  cases a with
  | bl k =>
    unfold RV at w
    refine ⟨k, w, ?_⟩
    cases k with
    | true => rw [if_pos rfl]; exact Post.now q r (by unfold RV; rfl)
    | false => rw [if_neg Bool.false_ne_true]; exact ⟨ρ, σa, t, r, s, q⟩
  | _ => exact q.elim
theorem se_not {a : Expr} {pos : Pos} {ma : ME} (h : SE c X a ma) : SE c X (.UnaryOp .Not a pos) (mNotV ma) := by
  refine PE.imp (pe_not h) fun σ H Q p => ?_
  refine tM.bind (k := fun _ (a : A) t1 => match a with
    | .bl b => .ok (A.bl (!b)) t1
    | _ => .bad) p fun ρ H1 σa a x t r s w q => ?_
  cases a with
  | bl k =>
    unfold RV at w
    exact ⟨k, w, Post.now q r (by unfold RV; rfl)⟩
  | _ => exact q.elim
end
end Ev
end
section
set_option Elab.async false
set_option linter.all false
set_option maxRecDepth 100000
set_option maxHeartbeats 400000
/-! Operators, subscripts, slices, dicts read. -/
namespace Ev
open PySem PySem.Spec PyProof.Rows L2
section
variable {K : PySem.W.Frag} {γ : Gm} {ρ : List Addr} {H : Hp} {x : V}
theorem rv_non : RV K γ ρ H .non x = (x = .non) := by simp only [RV]
theorem rv_bl {b : Bool} : RV K γ ρ H (.bl b) x = (x = .bl b) := by simp only [RV]
theorem rv_int {i : Int} : RV K γ ρ H (.int i) x = (x = .int i) := by simp only [RV]
theorem rv_str {z : Str} : RV K γ ρ H (.str z) x = (x = .str z) := by simp only [RV]
theorem rv_ty {n : String} : RV K γ ρ H (.ty n) x = (x = .ty n) := by simp only [RV]
theorem rv_ref {n : Nat} : RV K γ ρ H (.ref n) x = (∃ a, ρ[n]? = some a ∧ x = .ref a) := by simp only [RV]
theorem rv_glo {n : Nat} : RV K γ ρ H (.glo n) x = (∃ a, γ[n]? = some a ∧ x = .ref a) := by simp only [RV]
theorem rv_tup {xs : List A} : RV K γ ρ H (.tup xs) x = (∃ p vs, x = .ref p ∧ H p = some (.tup vs) ∧ RVs K γ ρ H xs vs) := by simp only [RV]
theorem rv_ktup {xs : List A} : RV K γ ρ H (.ktup xs) x = (∃ p vs, x = .ref p ∧ SqT K (fun _ => none) p vs ∧ RVs K γ ρ H xs vs) := by simp only [RV]
theorem rvs_nil {vs : List V} : RVs K γ ρ H [] vs = (vs = []) := by simp only [RVs]
theorem rvs_cons {a : A} {as : List A} {vs : List V} : RVs K γ ρ H (a :: as) vs = (∃ v r, vs = v :: r ∧ RV K γ ρ H a v ∧ RVs K γ ρ H as r) := by simp only [RVs]
theorem RVs.append : ∀ {xs ys : List A} {us vs : List V}, RVs K γ ρ H xs us → RVs K γ ρ H ys vs → RVs K γ ρ H (xs ++ ys) (us ++ vs)
  | [], _, us, _, h, g => by
    rw [rvs_nil] at h
    rw [h]; exact g
  | x :: xs, ys, us, vs, h, g => by
    rw [rvs_cons] at h
    obtain ⟨v, r, rfl, q1, q2⟩ := h
    rw [List.cons_append, List.cons_append, rvs_cons]
    exact ⟨v, _, rfl, q1, RVs.append q2 g⟩
theorem RVs.get : ∀ {xs : List A} {vs : List V} {i : Nat} {a : A}, RVs K γ ρ H xs vs → xs[i]? = some a → ∃ v, vs[i]? = some v ∧ RV K γ ρ H a v
  | [], _, _, _, _, e => by simp at e
  | x :: xs, vs, 0, a, h, e => by
    rw [rvs_cons] at h
    obtain ⟨v, r, rfl, q1, q2⟩ := h
    have : x = a := by simpa using e
    exact ⟨v, rfl, this ▸ q1⟩
  | x :: xs, vs, i + 1, a, h, e => by
    rw [rvs_cons] at h
    obtain ⟨v, r, rfl, q1, q2⟩ := h
    obtain ⟨u, z, w⟩ := RVs.get (i := i) q2 (by simpa using e)
    exact ⟨u, by simpa using z, w⟩
theorem RVs.drop : ∀ {xs : List A} {vs : List V} (n : Nat), RVs K γ ρ H xs vs → RVs K γ ρ H (xs.drop n) (vs.drop n)
  | xs, vs, 0, h => h
  | [], vs, n + 1, h => by
    rw [rvs_nil] at h
    rw [h]; simp [rvs_nil]
  | x :: xs, vs, n + 1, h => by
    rw [rvs_cons] at h
    obtain ⟨v, r, rfl, q1, q2⟩ := h
    exact RVs.drop n q2
theorem RVs.take : ∀ {xs : List A} {vs : List V} (n : Nat), RVs K γ ρ H xs vs → RVs K γ ρ H (xs.take n) (vs.take n)
  | xs, vs, 0, h => by simp [rvs_nil]
  | [], vs, n + 1, h => by
    rw [rvs_nil] at h
    rw [h]; simp [rvs_nil]
  | x :: xs, vs, n + 1, h => by
    rw [rvs_cons] at h
    obtain ⟨v, r, rfl, q1, q2⟩ := h
    rw [List.take_succ_cons, List.take_succ_cons, rvs_cons]
    exact ⟨v, _, rfl, q1, RVs.take n q2⟩
/-- a value without the heap -/
def flatA : A → Option V
  | .non => some .non
  | .bl b => some (.bl b)
  | .int i => some (.int i)
  | .str z => some (.str z)
  | _ => none
theorem flatA_ok {a : A} {u : V} (e : flatA a = some u) (h : RV K γ ρ H a x) : x = u ∧ flatV u = true := by
  cases a with
  | non => rw [rv_non] at h; cases e; exact ⟨h, rfl⟩
  | bl b => rw [rv_bl] at h; cases e; exact ⟨h, rfl⟩
  | int b => rw [rv_int] at h; cases e; exact ⟨h, rfl⟩
  | str b => rw [rv_str] at h; cases e; exact ⟨h, rfl⟩
  | _ => cases e
def mapO {α β : Type} (f : α → Option β) : List α → Option (List β)
  | [] => some []
  | x :: xs => match f x with
    | none => none
    | some y => (mapO f xs).map (y :: ·)
theorem flats_ok : ∀ {as : List A} {us vs : List V}, mapO flatA as = some us → RVs K γ ρ H as vs → vs = us ∧ us.all flatV = true
  | [], us, vs, e, h => by
    rw [rvs_nil] at h
    cases e
    exact ⟨h, rfl⟩
  | a :: as, us, vs, e, h => by
    rw [rvs_cons] at h
    obtain ⟨v, r, rfl, q1, q2⟩ := h
    unfold mapO at e
    cases e1 : flatA a with
    | none => rw [e1] at e; cases e
    | some u =>
      rw [e1] at e
      obtain ⟨ws, e2, e3⟩ := Option.map_eq_some_iff.mp e
      obtain ⟨z1, z2⟩ := flatA_ok e1 q1
      obtain ⟨z3, z4⟩ := flats_ok e2 q2
      subst e3
      exact ⟨by rw [z1, z3], by simp [z2, z4]⟩
/-! objects read -/
variable {hp : List O}
theorem Rep.objAt (R : Rep K γ ρ hp H) {n : Nat} {o : O} (w : RV K γ ρ H (.ref n) x) (h : hp[n]? = some o) : ∃ a, x = .ref a ∧ ρ[n]? = some a ∧ RO K γ ρ H o a := by
  rw [rv_ref] at w
  obtain ⟨a, e, rfl⟩ := w
  exact ⟨a, rfl, e, R.ob n a o e h⟩
/-- a list that may be read -/
def rdL (hp : List O) (n : Nat) : Option (List A) := match hp[n]? with
  | some (.lst xs) => some xs
  | some (.ro xs) => some xs
  | _ => none
theorem rdL_ok (R : Rep K γ ρ hp H) {n : Nat} {xs : List A} (w : RV K γ ρ H (.ref n) x) (h : rdL hp n = some xs) : ∃ a vs, x = .ref a ∧ SqL K H a vs ∧ RVs K γ ρ H xs vs := by
  unfold rdL at h
  cases e : hp[n]? with
  | none => rw [e] at h; cases h
  | some o =>
    rw [e] at h
    obtain ⟨a, rfl, _, q⟩ := R.objAt w e
    cases o with
    | lst ys => cases h; obtain ⟨vs, z, q⟩ := q; exact ⟨a, vs, rfl, SqL.of z, q⟩
    | ro ys => cases h; obtain ⟨vs, z, q⟩ := q; exact ⟨a, vs, rfl, .inl z, q⟩
    | _ => cases h
def seqOf (hp : List O) : A → Option (List A)
  | .tup xs => some xs
  | .ktup xs => some xs
  | .ref n => rdL hp n
  | _ => none
theorem SqT.ofK {p : Addr} {vs : List V} (h : SqT K (fun _ => none) p vs) : SqT K H p vs := by
  rcases h with (h | ⟨o, h⟩) | h
  · cases h
  · cases h
  · exact .inr h
theorem seqOf_ok (R : Rep K γ ρ hp H) {a : A} {xs : List A} (w : RV K γ ρ H a x) (h : seqOf hp a = some xs) : ∃ p vs, x = .ref p ∧ (SqL K H p vs ∨ SqT K H p vs) ∧ RVs K γ ρ H xs vs := by
  cases a with
  | tup ys => cases h; rw [rv_tup] at w; obtain ⟨p, vs, e, t, q⟩ := w; exact ⟨p, vs, e, .inr (SqT.of t), q⟩
  | ktup ys => cases h; rw [rv_ktup] at w; obtain ⟨p, vs, e, t, q⟩ := w; exact ⟨p, vs, e, .inr (SqT.ofK t), q⟩
  | ref n => obtain ⟨p, vs, e, t, q⟩ := rdL_ok R w h; exact ⟨p, vs, e, .inl t, q⟩
  | _ => cases h
theorem atI_ok {xs : List A} {vs : List V} {i : Int} {a : A} (h : RVs K γ ρ H xs vs) (e : atI xs i = some a) : ∃ v, atI vs i = some v ∧ RV K γ ρ H a v := by
  unfold atI at e ⊢
  rw [h.length]
  cases q : ixN xs.length i with
  | none => rw [q] at e; cases e
  | some j =>
    rw [q] at e
    exact h.get e
/-! keys -/
def keyOf : A → Option Key
  | .int i => some (.inl i)
  | .str z => some (.inr z)
  | _ => none
theorem keyOf_ok {a : A} {k : Key} (e : keyOf a = some k) (h : RV K γ ρ H a x) : x = kV k := by
  cases a with
  | int i => cases e; rw [rv_int] at h; exact h
  | str z => cases e; rw [rv_str] at h; exact h
  | _ => cases e
theorem keys_ok : ∀ {as : List A} {ks : List Key} {vs : List V}, mapO keyOf as = some ks → RVs K γ ρ H as vs → vs = ks.map kV
  | [], ks, vs, e, h => by
    rw [rvs_nil] at h
    cases e
    exact h
  | a :: as, ks, vs, e, h => by
    rw [rvs_cons] at h
    obtain ⟨v, r, rfl, q1, q2⟩ := h
    unfold mapO at e
    cases e1 : keyOf a with
    | none => rw [e1] at e; cases e
    | some u =>
      rw [e1] at e
      obtain ⟨ws, e2, e3⟩ := Option.map_eq_some_iff.mp e
      subst e3
      rw [keyOf_ok e1 q1, keys_ok e2 q2]
      rfl
def valA {κ : Type} [DecidableEq κ] (kvs : List (κ × A)) (k : κ) : Option A := (kvs.find? fun kv => decide (kv.1 = k)).map (·.2)
def RVo (K : PySem.W.Frag) (γ : Gm) (ρ : List Addr) (H : Hp) (o : Option A) (r : Option V) : Prop := match o with
  | some b => ∃ v, r = some v ∧ RV K γ ρ H b v
  | none => r = none
theorem RKs.val {κ : Type} [DecidableEq κ] {k : κ} : ∀ {kvs : List (κ × A)} {vs : List (κ × V)}, RKs K γ ρ H kvs vs → RVo K γ ρ H (valA kvs k) (valV vs k)
  | [], vs, h => by
    have h' : vs = [] := h
    rw [h']; rfl
  | (k1, a1) :: kvs, vs, h => by
    obtain ⟨v, r, rfl, q1, q2⟩ := h
    by_cases e : k1 = k
    · have e1 : valA ((k1, a1) :: kvs) k = some a1 := by simp [valA, List.find?_cons, e]
      rw [e1]
      exact ⟨v, valV_pos e, q1⟩
    · have e1 : valA ((k1, a1) :: kvs) k = valA kvs k := by simp [valA, List.find?_cons, e]
      rw [e1, valV_neg (p := (k1, v)) e]
      exact RKs.val q2
/-- what the dict n holds at a key: none where it is no such dict -/
def dget (hp : List O) (n : Nat) (a : A) : Option (Option A) := match hp[n]? with
  | some (.dic kvs) => (keyOf a).map fun k => valA kvs k
  | some (.dro kvs) => (keyOf a).map fun k => valA kvs k
  | some (.fz kvs) => (keyOf a).map fun k => valA kvs k
  | some (.dicT kvs) => match a with
    | .tup ks => (mapO keyOf ks).map fun k => valA kvs k
    | _ => none
  | some (.droT kvs) => match a with
    | .tup ks => (mapO keyOf ks).map fun k => valA kvs k
    | _ => none
  | _ => none
theorem dget_ok (R : Rep K γ ρ hp H) {n : Nat} {a : A} {y : V} {o : Option A} (w : RV K γ ρ H (.ref n) x) (wy : RV K γ ρ H a y) (h : dget hp n a = some o) :
    ∃ d r, x = .ref d ∧ DGet H d y r ∧ RVo K γ ρ H o r := by
  unfold dget at h
  cases e : hp[n]? with
  | none => rw [e] at h; cases h
  | some ob =>
    rw [e] at h
    obtain ⟨d, rfl, _, q⟩ := R.objAt w e
    cases ob with
    | dic kvs =>
      obtain ⟨k, ek, eo⟩ := Option.map_eq_some_iff.mp h
      obtain ⟨vs, z, q⟩ := q
      have hk := keyOf_ok ek wy
      subst hk
      have hv := RKs.val (k := k) q
      rw [eo] at hv
      exact ⟨d, _, rfl, DGet.k z, hv⟩
    | dro kvs =>
      obtain ⟨k, ek, eo⟩ := Option.map_eq_some_iff.mp h
      obtain ⟨vs, z, q⟩ := q
      have hk := keyOf_ok ek wy
      subst hk
      have hv := RKs.val (k := k) q
      rw [eo] at hv
      exact ⟨d, _, rfl, .inl ⟨vs, k, z, rfl, rfl⟩, hv⟩
    | fz kvs =>
      obtain ⟨k, ek, eo⟩ := Option.map_eq_some_iff.mp h
      obtain ⟨o, vs, z, q⟩ := q
      have hk := keyOf_ok ek wy
      subst hk
      have hv := RKs.val (k := k) q
      rw [eo] at hv
      exact ⟨d, _, rfl, .inl ⟨vs, k, .inr ⟨o, z⟩, rfl, rfl⟩, hv⟩
    | dicT kvs =>
      cases a with
      | tup ks =>
        obtain ⟨k, ek, eo⟩ := Option.map_eq_some_iff.mp h
        obtain ⟨vs, z, q⟩ := q
        rw [rv_tup] at wy
        obtain ⟨b, us, rfl, eb, qb⟩ := wy
        have hk := keys_ok ek qb
        subst hk
        have hv := RKs.val (k := k) q
        rw [eo] at hv
        exact ⟨d, _, rfl, DGet.t z eb, hv⟩
      | _ => cases h
    | droT kvs =>
      cases a with
      | tup ks =>
        obtain ⟨k, ek, eo⟩ := Option.map_eq_some_iff.mp h
        obtain ⟨vs, z, q⟩ := q
        rw [rv_tup] at wy
        obtain ⟨b, us, rfl, eb, qb⟩ := wy
        have hk := keys_ok ek qb
        subst hk
        have hv := RKs.val (k := k) q
        rw [eo] at hv
        exact ⟨d, _, rfl, .inr ⟨vs, k, b, z, rfl, eb, rfl⟩, hv⟩
      | _ => cases h
    | _ => cases h
/-! data -/
def toD (hp : List O) : Nat → A → Option PyData
  | 0, _ => none
  | n + 1, a => match a with
    | .non => some .none
    | .bl b => some (.bool b)
    | .int i => some (.int i)
    | .str z => some (.str z)
    | .tup xs => (mapO (toD hp n) xs).map .tuple
    | .ktup xs => (mapO (toD hp n) xs).map .tuple
    | .ref m => match rdL hp m with
      | some xs => (mapO (toD hp n) xs).map .list
      | none => none
    | _ => none
theorem toD_ok (R : Rep K γ ρ hp H) : ∀ (n : Nat) (a : A) (x : V) (d : PyData), RV K γ ρ H a x → toD hp n a = some d → Dp K H x d
  | 0, _, _, _, _, e => by cases e
  | n + 1, a, x, d, w, e => by
    have all : ∀ (as : List A) (vs : List V) (ds : List PyData), RVs K γ ρ H as vs → mapO (toD hp n) as = some ds → DpAll K H vs ds := by
      intro as
      induction as with
      | nil =>
        intro vs ds h e
        rw [rvs_nil] at h
        cases e
        rw [h]; exact .nil
      | cons b bs ih =>
        intro vs ds h e
        rw [rvs_cons] at h
        obtain ⟨v, r, rfl, q1, q2⟩ := h
        unfold mapO at e
        cases e1 : toD hp n b with
        | none => rw [e1] at e; cases e
        | some u =>
          rw [e1] at e
          obtain ⟨ws, e2, e3⟩ := Option.map_eq_some_iff.mp e
          subst e3
          exact .cons (toD_ok R n b v u q1 e1) (ih r ws q2 e2)
    cases a with
    | non => cases e; rw [rv_non] at w; rw [w]; exact .non
    | bl b => cases e; rw [rv_bl] at w; rw [w]; exact .bl b
    | int i => cases e; rw [rv_int] at w; rw [w]; exact .int i
    | str z => cases e; rw [rv_str] at w; rw [w]; exact .str z
    | tup xs =>
      obtain ⟨ds, e1, e2⟩ := Option.map_eq_some_iff.mp (show (mapO (toD hp n) xs).map PyData.tuple = some d from e)
      subst e2
      rw [rv_tup] at w
      obtain ⟨p, vs, rfl, t, q⟩ := w
      exact .tup (SqT.of t) (all xs vs ds q e1)
    | ktup xs =>
      obtain ⟨ds, e1, e2⟩ := Option.map_eq_some_iff.mp (show (mapO (toD hp n) xs).map PyData.tuple = some d from e)
      subst e2
      rw [rv_ktup] at w
      obtain ⟨p, vs, rfl, t, q⟩ := w
      exact .tup (SqT.ofK t) (all xs vs ds q e1)
    | ref m =>
      cases e0 : rdL hp m with
      | none =>
        have e' : (match rdL hp m with
          | some xs => (mapO (toD hp n) xs).map PyData.list
          | none => none) = some d := e
        rw [e0] at e'; cases e'
      | some xs =>
        have e' : (match rdL hp m with
          | some xs => (mapO (toD hp n) xs).map PyData.list
          | none => none) = some d := e
        rw [e0] at e'
        obtain ⟨ds, e1, e2⟩ := Option.map_eq_some_iff.mp e'
        subst e2
        obtain ⟨p, vs, rfl, t, q⟩ := rdL_ok R w e0
        exact .lst t (all xs vs ds q e1)
    | ty z => cases e
    | glo z => cases e
end
/-! ### the operators -/
section
variable {c : Cc} {X : Cx} {K : PySem.W.Frag}
def fI (g : Int → Int → A) : A → A → List O → Res A
  | .int i, .int j, t => .ok (g i j) t
  | _, _, _ => .bad
def fIc (C : Int → Int → Bool) (g : Int → Int → A) : A → A → List O → Res A
  | .int i, .int j, t => if C i j = true then .ok (g i j) t else .bad
  | _, _, _ => .bad
theorem ok_I0 {g : Int → Int → A} {g' : Int → Int → V} (hg : ∀ i j ρ H, RV K c.γ ρ H (g i j) (g' i j)) : Ok2 c K (rI0 g') (fI g) := by
  intro ρ t H Q x y a b r wa wb p
  cases a with
  | int i =>
    cases b with
    | int j =>
      rw [rv_int] at wa wb
      exact ⟨i, j, wa, wb, p ρ H _ (Fwd.refl _ _) r (hg i j ρ H)⟩
    | _ => exact p.elim
  | _ => exact p.elim
theorem ok_Ic {C : Int → Int → Bool} {C' : Int → Int → Prop} {g : Int → Int → A} {g' : Int → Int → V} (hc : ∀ i j, C i j = true → C' i j) (hg : ∀ i j ρ H, RV K c.γ ρ H (g i j) (g' i j)) : Ok2 c K (rI C' g') (fIc C g) := by
  intro ρ t H Q x y a b r wa wb p
  cases a with
  | int i =>
    cases b with
    | int j =>
      rw [rv_int] at wa wb
      have p' : Post K c.γ c.E c.B (RV K c.γ) Q (if C i j = true then .ok (g i j) t else .bad) ρ H := p
      by_cases h : C i j = true
      · rw [if_pos h] at p'
        exact ⟨i, j, wa, wb, hc i j h, p' ρ H _ (Fwd.refl _ _) r (hg i j ρ H)⟩
      · rw [if_neg h] at p'
        exact p'.elim
    | _ => exact p.elim
  | _ => exact p.elim
def fSub := fI fun i j => .int (i - j)
theorem se_sub {a b : Expr} {pos : Pos} {ma mb : ME} (ha : SE c X a ma) (hb : SE c X b mb) : SE c X (.BinOp a .Sub b pos) (mBin fSub ma mb) := se_bin (pe_op op_sub ha hb) (ok_I0 fun _ _ _ _ => by rw [rv_int])
def fMul := fIc (fun i j => (decide (-(2 ^ 64) < i) && decide (i < 2 ^ 64)) || (decide (-(2 ^ 64) < j) && decide (j < 2 ^ 64))) fun i j => .int (i * j)
theorem se_mul {a b : Expr} {pos : Pos} {ma mb : ME} (ha : SE c X a ma) (hb : SE c X b mb) : SE c X (.BinOp a .Mult b pos) (mBin fMul ma mb) := se_bin (pe_op op_mul ha hb) (ok_Ic (fun i j h => by
  rcases Bool.or_eq_true_iff.mp h with h | h
  · exact .inl ⟨of_decide_eq_true (Bool.and_eq_true_iff.mp h).1, of_decide_eq_true (Bool.and_eq_true_iff.mp h).2⟩
  · exact .inr ⟨of_decide_eq_true (Bool.and_eq_true_iff.mp h).1, of_decide_eq_true (Bool.and_eq_true_iff.mp h).2⟩) fun _ _ _ _ => by rw [rv_int])
def fMod := fIc (fun _ j => decide (0 < j)) fun i j => .int (i % j)
theorem se_mod {a b : Expr} {pos : Pos} {ma mb : ME} (ha : SE c X a ma) (hb : SE c X b mb) : SE c X (.BinOp a .Mod b pos) (mBin fMod ma mb) := se_bin (pe_op op_mod ha hb) (ok_Ic (fun i j h => of_decide_eq_true h) fun _ _ _ _ => by rw [rv_int])
def fDiv := fIc (fun _ j => decide (0 < j) && decide (j < 1073741824)) fun i j => .int (i / j)
theorem se_div {a b : Expr} {pos : Pos} {ma mb : ME} (ha : SE c X a ma) (hb : SE c X b mb) : SE c X (.BinOp a .FloorDiv b pos) (mBin fDiv ma mb) := se_bin (pe_op op_fdiv ha hb) (ok_Ic (fun i j h => ⟨of_decide_eq_true (Bool.and_eq_true_iff.mp h).1, of_decide_eq_true (Bool.and_eq_true_iff.mp h).2⟩) fun _ _ _ _ => by rw [rv_int])
def fPow := fIc (fun i j => decide (0 ≤ j) && decide (j ≤ 1000000) && decide (i.natAbs < 2 ^ 64)) fun i j => .int (i ^ j.toNat)
theorem se_pow {a b : Expr} {pos : Pos} {ma mb : ME} (ha : SE c X a ma) (hb : SE c X b mb) : SE c X (.BinOp a .Pow b pos) (mBin fPow ma mb) := se_bin (pe_op op_pow ha hb) (ok_Ic (fun i j h => by
  obtain ⟨h1, h2⟩ := Bool.and_eq_true_iff.mp h
  obtain ⟨h3, h4⟩ := Bool.and_eq_true_iff.mp h1
  exact ⟨of_decide_eq_true h3, of_decide_eq_true h4, of_decide_eq_true h2⟩) fun _ _ _ _ => by rw [rv_int])
def fNeg : A → List O → Res A
  | .int i, t => .ok (.int (-i)) t
  | _, _ => .bad
theorem se_neg {a : Expr} {pos : Pos} {ma : ME} (ha : SE c X a ma) : SE c X (.UnaryOp .USub a pos) (mUn fNeg ma) := by
  refine se_un (r := rU fun i => .int (-i)) (pe_un un_neg ha) fun ρ t H Q x a r w p => ?_
  cases a with
  | int i => rw [rv_int] at w; exact ⟨i, w, p ρ H _ (Fwd.refl _ _) r (by rw [rv_int])⟩
  | _ => exact p.elim
/-- comparisons of ints -/
def fLt := fI fun i j => .bl (decide (i < j))
def fLe := fI fun i j => .bl (decide (i ≤ j))
def fGt := fI fun i j => .bl (decide (j < i))
def fGe := fI fun i j => .bl (decide (j ≤ i))
theorem ok_lt : Ok2 c K (rI0 fun i j => .bl (decide (i < j))) fLt := ok_I0 fun _ _ _ _ => by rw [rv_bl]
theorem ok_le : Ok2 c K (rI0 fun i j => .bl (decide (i ≤ j))) fLe := ok_I0 fun _ _ _ _ => by rw [rv_bl]
theorem ok_gt : Ok2 c K (rI0 fun i j => .bl (decide (j < i))) fGt := ok_I0 fun _ _ _ _ => by rw [rv_bl]
theorem ok_ge : Ok2 c K (rI0 fun i j => .bl (decide (j ≤ i))) fGe := ok_I0 fun _ _ _ _ => by rw [rv_bl]
/-- None -/
def fIsN : A → A → List O → Res A
  | .non, .non, t => .ok (.bl true) t
  | _, .non, t => .ok (.bl false) t
  | _, _, _ => .bad
theorem rv_isnon {γ : Gm} {ρ : List Addr} {H : Hp} {a : A} {x : V} (w : RV K γ ρ H a x) : x = .non ↔ a = .non := by
  cases a with
  | non => rw [rv_non] at w; exact ⟨fun _ => rfl, fun _ => w⟩
  | bl b => rw [rv_bl] at w; subst w; exact ⟨nofun, nofun⟩
  | int b => rw [rv_int] at w; subst w; exact ⟨nofun, nofun⟩
  | str b => rw [rv_str] at w; subst w; exact ⟨nofun, nofun⟩
  | ty b => rw [rv_ty] at w; subst w; exact ⟨nofun, nofun⟩
  | tup b => rw [rv_tup] at w; obtain ⟨p, vs, rfl, _⟩ := w; exact ⟨nofun, nofun⟩
  | ktup b => rw [rv_ktup] at w; obtain ⟨p, vs, rfl, _⟩ := w; exact ⟨nofun, nofun⟩
  | ref b => rw [rv_ref] at w; obtain ⟨p, _, rfl⟩ := w; exact ⟨nofun, nofun⟩
  | glo b => rw [rv_glo] at w; obtain ⟨p, _, rfl⟩ := w; exact ⟨nofun, nofun⟩
def isNonA : A → Bool
  | .non => true
  | _ => false
def fIs (neg : Bool) : A → A → List O → Res A := fun a b t => match b with
  | .non => .ok (.bl (if neg then !isNonA a else isNonA a)) t
  | _ => .bad
theorem isNonA_ok {γ : Gm} {ρ : List Addr} {H : Hp} {a : A} {x : V} (w : RV K γ ρ H a x) : decide (x = .non) = isNonA a := by
  have h := rv_isnon w
  cases a with
  | non => exact decide_eq_true (h.mpr rfl)
  | _ => exact decide_eq_false fun q => nomatch h.mp q
theorem ok_isN : Ok2 c K (fun x y H Q => y = .non ∧ Q (.bl (decide (x = .non))) H) (fIs false) := by
  intro ρ t H Q x y a b r wa wb p
  cases b with
  | non => rw [rv_non] at wb; exact ⟨wb, p ρ H _ (Fwd.refl _ _) r (by rw [rv_bl, isNonA_ok wa]; rfl)⟩
  | _ => exact p.elim
theorem ok_notN : Ok2 c K (fun x y H Q => y = .non ∧ Q (.bl (!decide (x = .non))) H) (fIs true) := by
  intro ρ t H Q x y a b r wa wb p
  cases b with
  | non => rw [rv_non] at wb; exact ⟨wb, p ρ H _ (Fwd.refl _ _) r (by rw [rv_bl, isNonA_ok wa]; rfl)⟩
  | _ => exact p.elim
/-- == of data -/
def deep : Nat := 9
def fEq (B : List O) (neg : Bool) : A → A → List O → Res A := fun a b t => match toD (B ++ t) deep a, toD (B ++ t) deep b with
  | some d, some e => if SeqAt.shaped d = true ∧ SeqAt.shaped e = true then .ok (.bl (if neg then !PyData.eqv d e else PyData.eqv d e)) t else .bad
  | _, _ => .bad
theorem ok_eq : Ok2 c K (rEqD K) (fEq c.B false) := by
  intro ρ t H Q x y a b r wa wb p
  unfold fEq at p
  cases ea : toD (c.B ++ t) deep a with
  | none => rw [ea] at p; exact p.elim
  | some d =>
    cases eb : toD (c.B ++ t) deep b with
    | none => rw [ea, eb] at p; exact p.elim
    | some e =>
      rw [ea, eb] at p
      by_cases h : SeqAt.shaped d = true ∧ SeqAt.shaped e = true
      · simp only [if_pos h] at p
        exact ⟨d, e, toD_ok r _ _ _ _ wa ea, toD_ok r _ _ _ _ wb eb, h.1, h.2, p ρ H _ (Fwd.refl _ _) r (by rw [rv_bl]; rfl)⟩
      · simp only [if_neg h] at p
        exact p.elim
theorem ok_ne : Ok2 c K (rNeD K) (fEq c.B true) := by
  intro ρ t H Q x y a b r wa wb p
  unfold fEq at p
  cases ea : toD (c.B ++ t) deep a with
  | none => rw [ea] at p; exact p.elim
  | some d =>
    cases eb : toD (c.B ++ t) deep b with
    | none => rw [ea, eb] at p; exact p.elim
    | some e =>
      rw [ea, eb] at p
      by_cases h : SeqAt.shaped d = true ∧ SeqAt.shaped e = true
      · simp only [if_pos h] at p
        exact ⟨d, e, toD_ok r _ _ _ _ wa ea, toD_ok r _ _ _ _ wb eb, h.1, h.2, p ρ H _ (Fwd.refl _ _) r (by rw [rv_bl]; rfl)⟩
      · simp only [if_neg h] at p
        exact p.elim
end
end Ev
end
section
set_option Elab.async false
set_option linter.all false
set_option maxRecDepth 100000
set_option maxHeartbeats 400000
/-! Sums of all kinds, in, subscripts, slices, built-in functions, methods. -/
namespace Ev
open PySem PySem.Spec PyProof.Rows L2
section
variable {c : Cc} {X : Cx} {K : PySem.W.Frag}
/-! a + b -/
def fAdd (B : List O) : A → A → List O → Res A := fun a b t => match a, b with
  | .int i, .int j => .ok (.int (i + j)) t
  | .str x, .str y => if x.length + y.length ≤ sizeLine then .ok (.str (x ++ y)) t else .bad
  | .tup xs, .tup ys => if xs.length + ys.length ≤ sizeLine then .ok (.tup (xs ++ ys)) t else .bad
  | .ref n, .ref m => match (B ++ t)[n]?, (B ++ t)[m]? with
    | some (.lst xs), some (.lst ys) => if xs.length + ys.length ≤ sizeLine then mkO B (.lst (xs ++ ys)) t else .bad
    | _, _ => .bad
  | _, _ => .bad
def rAddAll (K : PySem.W.Frag) : R2 := fun x y H Q => (rI0 fun i j => .int (i + j)) x y H Q ∨ (∃ i j, x = .str i ∧ y = .str j ∧ i.length + j.length ≤ sizeLine ∧ Q (.str (i ++ j)) H) ∨ rCat x y H Q ∨ rCatA K x y H Q
theorem op_addAll : OpR X (binaryOp .Add) (rAddAll X.K) := OpR.or op_add (OpR.or op_add_str (OpR.or op_cat op_catA))
theorem ok_add : Ok2 c K (rAddAll K) (fAdd c.B) := by
  intro ρ t H Q x y a b r wa wb p
  unfold fAdd at p
  cases a with
  | int i =>
    cases b with
    | int j => rw [rv_int] at wa wb; exact .inl ⟨i, j, wa, wb, p ρ H _ (Fwd.refl _ _) r (by rw [rv_int])⟩
    | _ => exact p.elim
  | str u =>
    cases b with
    | str v =>
      rw [rv_str] at wa wb
      by_cases h : u.length + v.length ≤ sizeLine
      · simp only [if_pos h] at p
        exact .inr (.inl ⟨u, v, wa, wb, h, p ρ H _ (Fwd.refl _ _) r (by rw [rv_str])⟩)
      · simp only [if_neg h] at p; exact p.elim
    | _ => exact p.elim
  | tup us =>
    cases b with
    | tup vs =>
      rw [rv_tup] at wa wb
      obtain ⟨pa, xa, rfl, ha, qa⟩ := wa
      obtain ⟨pb, xb, rfl, hb, qb⟩ := wb
      by_cases h : us.length + vs.length ≤ sizeLine
      · simp only [if_pos h] at p
        refine .inr (.inr (.inr ⟨pa, pb, xa, xb, rfl, rfl, SqT.of ha, SqT.of hb, by rw [qa.length, qb.length]; exact h, fun e => ?_, fun _ e => ?_, fun _ _ q hq => ?_⟩))
        · refine p ρ H _ (Fwd.refl _ _) r ?_
          rw [rv_tup]
          have z := qa.length
          rw [e] at z
          have z' : us = [] := List.length_eq_zero_iff.mp z.symm
          rw [z']
          exact ⟨pb, xb, rfl, hb, qb⟩
        · refine p ρ H _ (Fwd.refl _ _) r ?_
          rw [rv_tup]
          have z := qb.length
          rw [e] at z
          have z' : vs = [] := List.length_eq_zero_iff.mp z.symm
          rw [z', List.append_nil]
          exact ⟨pa, xa, rfl, ha, qa⟩
        · obtain ⟨r', f⟩ := r.junk (o' := .tup (xa ++ xb)) hq
          refine p _ _ _ f r' ?_
          rw [rv_tup]
          exact ⟨q, _, rfl, upd_same, RVs.mono (r.keep f) _ _ (qa.append qb)⟩
      · simp only [if_neg h] at p; exact p.elim
    | _ => exact p.elim
  | ref n =>
    cases b with
    | ref m =>
      cases e1 : (c.B ++ t)[n]? with
      | none => simp only [e1] at p; exact p.elim
      | some o1 =>
        cases e2 : (c.B ++ t)[m]? with
        | none => simp only [e1, e2] at p; cases o1 <;> exact p.elim
        | some o2 =>
          cases o1 with
          | lst us =>
            cases o2 with
            | lst vs =>
              simp only [e1, e2] at p
              obtain ⟨pa, rfl, _, xa, ha, qa⟩ := r.objAt wa e1
              obtain ⟨pb, rfl, _, xb, hb, qb⟩ := r.objAt wb e2
              by_cases h : us.length + vs.length ≤ sizeLine
              · simp only [if_pos h] at p
                refine .inr (.inr (.inl ⟨pa, pb, xa, xb, rfl, rfl, ha, hb, by rw [qa.length, qb.length]; exact h, fun q hq => ?_⟩))
                exact mkO_ok (o := .lst (us ++ vs)) r hq (fun ρ' H' k e => ⟨_, e, RVs.mono k _ _ (qa.append qb)⟩) p
              · simp only [if_neg h] at p; exact p.elim
            | _ => simp only [e1, e2] at p; exact p.elim
          | _ => simp only [e1, e2] at p; exact p.elim
    | _ => exact p.elim
  | _ => exact p.elim
theorem se_add {a b : Expr} {pos : Pos} {ma mb : ME} (ha : SE c X a ma) (hb : SE c X b mb) : SE c X (.BinOp a .Add b pos) (mBin (fAdd c.B) ma mb) := se_bin (pe_op op_addAll ha hb) ok_add
/-! subscripts -/
def fIx (B : List O) : A → A → List O → Res A := fun a b t => match b with
  | .int i => match a with
    | .str z => if z.length ≤ sizeLine then (match atI z.cps.toList i with
      | some k => .ok (.str ⟨#[k]⟩) t
      | none => .bad) else .bad
    | _ => match seqOf (B ++ t) a with
      | some xs => (match atI xs i with
        | some y => .ok y t
        | none => .bad)
      | none => .bad
  | _ => .bad
theorem ok_ix : Ok2 c K (rIx K) (fIx c.B) := by
  intro ρ t H Q x y a b r wa wb p
  unfold fIx at p
  cases b with
  | int i =>
    rw [rv_int] at wb
    subst wb
    have other : (match seqOf (c.B ++ t) a with
      | some xs => (match atI xs i with
        | some y => Post K c.γ c.E c.B (RV K c.γ) Q (.ok y t) ρ H
        | none => False)
      | none => False) → rIx K x (.int i) H Q := by
      intro p
      cases e : seqOf (c.B ++ t) a with
      | none => rw [e] at p; exact p.elim
      | some xs =>
        rw [e] at p
        cases e2 : atI xs i with
        | none => simp only [e2] at p
        | some z =>
          simp only [e2] at p
          obtain ⟨q, vs, rfl, hs, w⟩ := seqOf_ok r wa e
          obtain ⟨v, ev, rv⟩ := atI_ok w e2
          rcases hs with hs | hs
          · exact .inl ⟨q, vs, i, v, rfl, rfl, hs, ev, p ρ H _ (Fwd.refl _ _) r rv⟩
          · exact .inr (.inl ⟨q, vs, i, v, rfl, rfl, hs, ev, p ρ H _ (Fwd.refl _ _) r rv⟩)
    cases a with
    | str z =>
      rw [rv_str] at wa
      by_cases h : z.length ≤ sizeLine
      · simp only [if_pos h] at p
        cases e2 : atI z.cps.toList i with
        | none => simp only [e2] at p; exact p.elim
        | some k =>
          simp only [e2] at p
          exact .inr (.inr ⟨z, i, k, wa, rfl, h, e2, p ρ H _ (Fwd.refl _ _) r (by rw [rv_str])⟩)
      · simp only [if_neg h] at p; exact p.elim
    | _ =>
      apply other
      revert p
      cases seqOf (c.B ++ t) _ with
      | none => exact fun p => p
      | some xs => cases e2 : atI xs i with
        | none => simp only [e2]; exact fun p => p
        | some y => simp only [e2]; exact fun p => p
  | _ => exact p.elim
theorem se_ix {a b : Expr} {pos : Pos} {ma mb : ME} (ha : SE c X a ma) (hb : SE c X b mb) (hs : PlainIx b := by exact fun _ _ => rfl) : SE c X (.Subscript a b pos) (mBin (fIx c.B) ma mb) := se_bin (pe_ix ix_seq ha hb hs) ok_ix
/-! a dict's item -/
def fDGet (B : List O) : A → A → List O → Res A := fun a b t => match a with
  | .ref n => (match dget (B ++ t) n b with
    | some (some y) => .ok y t
    | _ => .bad)
  | _ => .bad
theorem ok_dget : Ok2 c K (fun x y H Q => ∃ a v, x = .ref a ∧ DGet H a y (some v) ∧ Q v H) (fDGet c.B) := by
  intro ρ t H Q x y a b r wa wb p
  unfold fDGet at p
  cases a with
  | ref n =>
    cases e : dget (c.B ++ t) n b with
    | none => simp only [e] at p; exact p.elim
    | some o =>
      cases o with
      | none => simp only [e] at p; exact p.elim
      | some z =>
        simp only [e] at p
        obtain ⟨d, rr, rfl, g, v, rfl, w⟩ := dget_ok r wa wb e
        exact ⟨d, v, rfl, g, p ρ H _ (Fwd.refl _ _) r w⟩
  | _ => exact p.elim
theorem se_dget {a b : Expr} {pos : Pos} {ma mb : ME} (hu : X.A.units + 1 < cLine) (ha : SE c X a ma) (hb : SE c X b mb) (hs : NoSl b := by exact fun _ _ => rfl) : SE c X (.Subscript a b pos) (mBin (fDGet c.B) ma mb) := se_bin (pe_dget hu ha hb hs) ok_dget
/-! in -/
def fDIn (B : List O) (neg : Bool) : A → A → List O → Res A := fun b a t => match a with
  | .ref n => (match dget (B ++ t) n b with
    | some o => .ok (.bl (if neg then !o.isSome else o.isSome)) t
    | _ => .bad)
  | _ => .bad
theorem RVo.isSome {γ : Gm} {ρ : List Addr} {H : Hp} {o : Option A} {r : Option V} (h : RVo K γ ρ H o r) : r.isSome = o.isSome := by
  cases o with
  | none => have h' : r = none := h; rw [h']; rfl
  | some a => obtain ⟨v, e, _⟩ := h; rw [e]; rfl
theorem ok_din : Ok2 c K (fun y x H Q => ∃ a o, x = .ref a ∧ DGet H a y o ∧ Q (.bl o.isSome) H) (fDIn c.B false) := by
  intro ρ t H Q y x b a r wb wa p
  unfold fDIn at p
  cases a with
  | ref n =>
    cases e : dget (c.B ++ t) n b with
    | none => simp only [e] at p; exact p.elim
    | some o =>
      simp only [e] at p
      obtain ⟨d, rr, rfl, g, w⟩ := dget_ok r wa wb e
      exact ⟨d, rr, rfl, g, p ρ H _ (Fwd.refl _ _) r (by rw [rv_bl, w.isSome]; rfl)⟩
  | _ => exact p.elim
theorem ok_dnotin : Ok2 c K (fun y x H Q => ∃ a o, x = .ref a ∧ DGet H a y o ∧ Q (.bl (!o.isSome)) H) (fDIn c.B true) := by
  intro ρ t H Q y x b a r wb wa p
  unfold fDIn at p
  cases a with
  | ref n =>
    cases e : dget (c.B ++ t) n b with
    | none => simp only [e] at p; exact p.elim
    | some o =>
      simp only [e] at p
      obtain ⟨d, rr, rfl, g, w⟩ := dget_ok r wa wb e
      exact ⟨d, rr, rfl, g, p ρ H _ (Fwd.refl _ _) r (by rw [rv_bl, w.isSome]; rfl)⟩
  | _ => exact p.elim
theorem op_din (hu : X.A.units + 1 < cLine) : OpR X (compareOp .In) (fun y x H Q => ∃ a o, x = .ref a ∧ DGet H a y o ∧ Q (.bl o.isSome) H) := by
  intro pins s σ H x y v u Q I rx ry h
  obtain ⟨a, o, rfl, g, q⟩ := h
  cases ry
  exact d_in hu I g rx fun s' I' => ⟨.bl _, H, I', rfl, q⟩
theorem op_dnotin (hu : X.A.units + 1 < cLine) : OpR X (compareOp .NotIn) (fun y x H Q => ∃ a o, x = .ref a ∧ DGet H a y o ∧ Q (.bl (!o.isSome)) H) := by
  intro pins s σ H x y v u Q I rx ry h
  obtain ⟨a, o, rfl, g, q⟩ := h
  cases ry
  exact d_notIn hu I g rx fun s' I' => ⟨.bl _, H, I', rfl, q⟩
def fSIn (B : List O) (neg : Bool) : A → A → List O → Res A := fun a b t => match flatA a, seqOf (B ++ t) b with
  | some u, some ys => (match mapO flatA ys with
    | some us => .ok (.bl (if neg then !inV u us else inV u us)) t
    | none => .bad)
  | _, _ => .bad
theorem ok_sin {neg : Bool} : Ok2 c K (rIn K neg) (fSIn c.B neg) := by
  intro ρ t H Q x y a b r wa wb p
  unfold fSIn at p
  cases e1 : flatA a with
  | none => simp only [e1] at p; exact p.elim
  | some u =>
    cases e2 : seqOf (c.B ++ t) b with
    | none => simp only [e1, e2] at p; exact p.elim
    | some ys =>
      cases e3 : mapO flatA ys with
      | none => simp only [e1, e2, e3] at p; exact p.elim
      | some us =>
        simp only [e1, e2, e3] at p
        obtain ⟨hx, hf⟩ := flatA_ok e1 wa
        obtain ⟨q, vs, rfl, hs, w⟩ := seqOf_ok r wb e2
        obtain ⟨hv, ha⟩ := flats_ok e3 w
        subst hx hv
        exact ⟨q, vs, rfl, hs, hf, ha, p ρ H _ (Fwd.refl _ _) r (by rw [rv_bl])⟩
/-- one sign in a text -/
def sign1 (u : Str) : Option Nat := match u.cps.toList with
  | [k] => some k
  | _ => none
theorem sign1_ok {u : Str} {k : Nat} (h : sign1 u = some k) : u = ⟨#[k]⟩ := by
  obtain ⟨⟨l⟩⟩ := u
  cases l with
  | nil => exact absurd (show (none : Option Nat) = some k from h) nofun
  | cons a r =>
    cases r with
    | nil =>
      have e : a = k := Option.some.inj (show some a = some k from h)
      rw [e]
    | cons b r => exact absurd (show (none : Option Nat) = some k from h) nofun
def fTIn (neg : Bool) : A → A → List O → Res A := fun a b t => match a, b with
  | .str u, .str z => (match sign1 u with
    | some k => .ok (.bl (if neg then !decide (k ∈ z.cps.toList) else decide (k ∈ z.cps.toList))) t
    | none => .bad)
  | _, _ => .bad
theorem ok_tin : Ok2 c K (fun x y H Q => ∃ (c : Nat) (z : Str), x = .str ⟨#[c]⟩ ∧ y = .str z ∧ Q (.bl (decide (c ∈ z.cps.toList))) H) (fTIn false) := by
  intro ρ t H Q x y a b r wa wb p
  unfold fTIn at p
  cases a with
  | str u =>
    cases b with
    | str z =>
      rw [rv_str] at wa wb
      cases e : sign1 u with
      | none => simp only [e] at p; exact p.elim
      | some k =>
        simp only [e] at p
        exact ⟨k, z, by rw [wa, sign1_ok e], wb, p ρ H _ (Fwd.refl _ _) r (by rw [rv_bl]; rfl)⟩
    | _ => exact p.elim
  | _ => exact p.elim
/-! slices -/
abbrev MO := List (Option A) → List O → Res (Option Int)
def RI (_ : List Addr) (_ : Hp) (a b : Option Int) : Prop := a = b
def SO (c : Cc) (X : Cx) (e : Option Expr) (m : MO) : Prop := PO X e (tM c X RI m)
theorem PO.imp {e : Option Expr} {t t' : TO} (h : PO X e t) (f : ∀ σ H Q, t' σ H Q → t σ H Q) : PO X e t' := ⟨fun pins s σ H Q I q => h.run pins s σ H Q I (f _ _ _ q)⟩
def mO0 : MO := fun _ t => .ok none t
theorem so_none : SO c X none mO0 := PO.imp po_none fun σ H Q ⟨ρ, σa, top, r, s, p⟩ => Post.now p r rfl
def mO1 (ma : ME) : MO := fun s t => (ma s t).bind fun a t1 => match a with
  | .int i => .ok (some i) t1
  | _ => .bad
theorem so_some {e : Expr} {ma : ME} (h : SE c X e ma) : SO c X (some e) (mO1 ma) := by
  refine PO.imp (po_some h) fun σ H Q p => ?_
  refine tM.bind (k := fun _ (a : A) t1 => match a with
    | .int i => .ok (some i) t1
    | _ => .bad) p fun ρ H1 σa a x t r s w q => ?_
  cases a with
  | int i => rw [rv_int] at w; exact ⟨i, w, Post.now q r rfl⟩
  | _ => exact q.elim
def cutA (xs : List A) (lo hi : Option Int) : List A := (xs.drop (HT.sIx xs.length 0 lo)).take (HT.sIx xs.length xs.length hi - HT.sIx xs.length 0 lo)
theorem cutA_ok {γ : Gm} {ρ : List Addr} {H : Hp} {xs : List A} {vs : List V} {lo hi : Option Int} (h : RVs K γ ρ H xs vs) : RVs K γ ρ H (cutA xs lo hi) (cutV vs lo hi) := by
  unfold cutA cutV
  rw [h.length]
  exact (h.drop _).take _
def fSl (B : List O) (a : A) (lo hi : Option Int) : List O → Res A := fun t => match a with
  | .str z => if z.length ≤ sizeLine then .ok (.str (Txt.slice z lo hi)) t else .bad
  | .tup xs => .ok (.tup (cutA xs lo hi)) t
  | .ref n => (match rdL (B ++ t) n with
    | some xs => mkO B (.lst (cutA xs lo hi)) t
    | none => .bad)
  | _ => .bad
def mSl (B : List O) (ma : ME) (ml mh : MO) : ME := fun s t => (ma s t).bind fun a t1 => (ml s t1).bind fun l t2 => (mh s t2).bind fun h t3 => fSl B a l h t3
theorem se_slice {e : Expr} {lo hi : Option Expr} {p2 pos : Pos} {ma : ME} {ml mh : MO} (he : SE c X e ma) (hl : SO c X lo ml) (hh : SO c X hi mh) : SE c X (.Subscript e (.Slice lo hi none p2) pos) (mSl c.B ma ml mh) := by
  refine PE.imp (pe_slice (SlR.or C8.sl_txt (SlR.or sl_tupA sl_list)) he hl hh) fun σ H Q p => ?_
  refine tM.bind (k := fun s a t1 => (ml s t1).bind fun l t2 => (mh s t2).bind fun h t3 => fSl c.B a l h t3) p fun ρ H1 σa a x t r s w q => ?_
  refine ⟨ρ, σa, t, r, s, Post.bind q fun l t2 ρ2 H2 l' _ g2 r2 w2 q2 => ?_⟩
  cases w2
  refine ⟨ρ2, σa, t2, r2, RS.mono (r.keep g2) _ _ s, Post.bind q2 fun h t3 ρ3 H3 h' _ g3 r3 w3 q3 => ?_⟩
  cases w3
  have w' := RV.mono (r2.keep g3) _ _ (RV.mono (r.keep g2) _ _ w)
  unfold fSl at q3
  cases a with
  | str z =>
    rw [rv_str] at w'
    by_cases hz : z.length ≤ sizeLine
    · simp only [if_pos hz] at q3
      exact .inl ⟨z, w', hz, q3 ρ3 H3 _ (Fwd.refl _ _) r3 (by rw [rv_str])⟩
    · simp only [if_neg hz] at q3; exact q3.elim
  | tup xs =>
    rw [rv_tup] at w'
    obtain ⟨pa, vs, rfl, ha, qa⟩ := w'
    refine .inr (.inl ⟨pa, vs, rfl, SqT.of ha, fun e => ?_, fun _ b hb => ?_⟩)
    · refine q3 ρ3 H3 _ (Fwd.refl _ _) r3 ?_
      rw [rv_tup]
      refine ⟨pa, vs, rfl, ha, ?_⟩
      have hc := cutA_ok (lo := l) (hi := h) qa
      have e2 : cutV vs l h = vs := by
        unfold cutV
        rw [e.1, e.2]; simp
      rw [e2] at hc
      exact hc
    · obtain ⟨r', f⟩ := r3.junk (o' := .tup (cutV vs l h)) hb
      refine q3 _ _ _ f r' ?_
      rw [rv_tup]
      exact ⟨b, _, rfl, upd_same, RVs.mono (r3.keep f) _ _ (cutA_ok qa)⟩
  | ref n =>
    cases e : rdL (c.B ++ t3) n with
    | none => simp only [e] at q3; exact q3.elim
    | some xs =>
      simp only [e] at q3
      obtain ⟨pa, vs, rfl, hs, qa⟩ := rdL_ok r3 w' e
      exact .inr (.inr ⟨pa, vs, rfl, hs, fun b hb => mkO_ok (o := .lst (cutA xs l h)) r3 hb (fun ρ' H' k e => ⟨_, e, RVs.mono k _ _ (cutA_ok qa)⟩) q3⟩)
  | _ => exact q3.elim
/-! a < b < c -/
def mChain (f g : A → A → List O → Res A) (ma mb mc : ME) : ME := fun s t => (ma s t).bind fun a t1 => (mb s t1).bind fun b t2 => (f a b t2).bind fun z t3 => match z with
  | .bl true => (mc s t3).bind fun d t4 => g b d t4
  | .bl false => .ok (.bl false) t3
  | _ => .bad
theorem chain_ok {op op' : CmpOp} {r r' : R2} {f g : A → A → List O → Res A} {ma mb mc : ME} {σ : L2.St} {H : Hp} {Q : VK} (hf : Ok2 c X.K r f) (hg : Ok2 c X.K r' g) (p : tM c X (RV X.K c.γ) (mChain f g ma mb mc) σ H Q) :
    tChain r r' (tM c X (RV X.K c.γ) ma) (tM c X (RV X.K c.γ) mb) (tM c X (RV X.K c.γ) mc) σ H Q := by
  refine tM.bind (k := fun s a t1 => (mb s t1).bind fun b t2 => (f a b t2).bind fun (z : A) t3 => match z with
    | .bl true => (mc s t3).bind fun d t4 => g b d t4
    | .bl false => .ok (.bl false) t3
    | _ => .bad) p fun ρ H1 σa a x t rr s w q => ?_
  refine ⟨ρ, σa, t, rr, s, Post.bind q fun b t2 ρ2 H2 y _ g2 r2 w2 q2 => ?_⟩
  refine hf ρ2 t2 H2 _ x y a b r2 (RV.mono (rr.keep g2) _ _ w) w2 (Post.bind q2 fun z t3 ρ3 H3 zv _ g3 r3 w3 q3 => ?_)
  cases z with
  | bl k =>
    rw [rv_bl] at w3
    refine ⟨k, w3, ?_⟩
    cases k with
    | true =>
      rw [if_pos rfl]
      refine ⟨ρ3, σa, t3, r3, RS.mono (r2.keep g3) _ _ (RS.mono (rr.keep g2) _ _ s), Post.bind q3 fun d t4 ρ4 H4 dv _ g4 r4 w4 q4 => ?_⟩
      exact hg ρ4 t4 H4 Q y dv b d r4 (RV.mono (r3.keep g4) _ _ (RV.mono (r2.keep g3) _ _ w2)) w4 q4
    | false =>
      rw [if_neg Bool.false_ne_true]
      exact Post.now q3 r3 (by rw [rv_bl])
  | _ => exact q3.elim
theorem se_chain {op op' : CmpOp} {r r' : R2} {f g : A → A → List O → Res A} {a b d : Expr} {pos : Pos} {ma mb mc : ME} (ho : OpR X (compareOp op) r) (ho' : OpR X (compareOp op') r') (ha : SE c X a ma) (hb : SE c X b mb) (hd : SE c X d mc) (hf : Ok2 c X.K r f) (hg : Ok2 c X.K r' g)
    (hm : lastMarks [op, op'] [b, d] = false := by with_unfolding_all rfl) : SE c X (.Compare a [op, op'] [b, d] pos) (mChain f g ma mb mc) := PE.imp (pe_chain ho ho' ha hb hd hm) fun σ H Q p => chain_ok (op := op) (op' := op') hf hg p
theorem st_chain {op op' : CmpOp} {r r' : R2} {f g : A → A → List O → Res A} {a b d : Expr} {pos : Pos} {ma mb mc : ME} (ho : OpR X (compareOp op) r) (ho' : OpR X (compareOp op') r') (ha : SE c X a ma) (hb : SE c X b mb) (hd : SE c X d mc) (hf : Ok2 c X.K r f) (hg : Ok2 c X.K r' g)
    (hm : lastMarks [op, op'] [b, d] = false := by with_unfolding_all rfl) : ST c X (.Compare a [op, op'] [b, d] pos) (mTest (mChain f g ma mb mc)) := PT.imp (pt_chain ho ho' ha hb hd hm) fun σ H Q p => chain_ok (op := op) (op' := op') hf hg (tB_ok p)
end
end Ev
end
section
set_option Elab.async false
set_option linter.all false
set_option maxRecDepth 100000
set_option maxHeartbeats 400000
/-! Built-in functions, methods. -/
namespace Ev
open PySem PySem.Spec PyProof.Rows L2
section
variable {c : Cc} {X : Cx} {K : PySem.W.Frag}
/-! len -/
def lenA (hp : List O) : A → Option Nat
  | .str z => if z.length ≤ sizeLine then some z.length else none
  | .tup xs => some xs.length
  | .ktup xs => some xs.length
  | .ref n => match hp[n]? with
    | some (.lst xs) => some xs.length
    | some (.ro xs) => some xs.length
    | some (.dic xs) => some xs.length
    | some (.dicT xs) => some xs.length
    | some (.dro xs) => some xs.length
    | some (.fz xs) => some xs.length
    | _ => none
  | _ => none
def fLen (B : List O) : List A → List O → Res A := fun as t => match as with
  | [a] => (match lenA (B ++ t) a with
    | some n => .ok (.int n) t
    | none => .bad)
  | _ => .bad
def rLenX (K : PySem.W.Frag) : List V → Hp → VK → Prop := fun xs H Q => (∃ x n, xs = [x] ∧ LenV K x H n ∧ Q (.int n) H) ∨ (∃ a kvs, xs = [V.ref a] ∧ Rd H a (.dK kvs) ∧ Q (.int kvs.length) H) ∨ rLenT xs H Q
theorem call_lenR : CallR X (.builtin "len") (fun xs H Q => ∃ a kvs, xs = [V.ref a] ∧ Rd H a (.dK kvs) ∧ Q (.int kvs.length) H) := by
  intro pins s σ H xs us Q I r h
  obtain ⟨a, kvs, rfl, ha, q⟩ := h
  obtain ⟨u, rfl, ru⟩ := vals1 r
  cases ru
  exact d_len I ha fun t s' I' => ⟨.int kvs.length, H, I', ⟨t, rfl⟩, q⟩
theorem call_lenX : CallR X (.builtin "len") (rLenX X.K) := CallR.or call_len (CallR.or call_lenR call_len_dT)
theorem rvs_one {γ : Gm} {ρ : List Addr} {H : Hp} {a : A} {xs : List V} (h : RVs K γ ρ H [a] xs) : ∃ x, xs = [x] ∧ RV K γ ρ H a x := by
  rw [rvs_cons] at h
  obtain ⟨v, r, rfl, q, q2⟩ := h
  rw [rvs_nil] at q2
  exact ⟨v, by rw [q2], q⟩
theorem rvs_two {γ : Gm} {ρ : List Addr} {H : Hp} {a b : A} {xs : List V} (h : RVs K γ ρ H [a, b] xs) : ∃ x y, xs = [x, y] ∧ RV K γ ρ H a x ∧ RV K γ ρ H b y := by
  rw [rvs_cons] at h
  obtain ⟨v, r, rfl, q, q2⟩ := h
  obtain ⟨y, rfl, q3⟩ := rvs_one q2
  exact ⟨v, y, rfl, q, q3⟩
theorem RKs.length {κ : Type} {γ : Gm} {ρ : List Addr} {H : Hp} : ∀ {kvs : List (κ × A)} {vs : List (κ × V)}, RKs K γ ρ H kvs vs → vs.length = kvs.length
  | [], vs, h => by
    have h' : vs = [] := h
    rw [h']; rfl
  | x :: xs, vs, h => by
    obtain ⟨v, r, rfl, _, q⟩ := h
    simp [RKs.length q]
theorem ok_len : OkA c K (rLenX K) (fLen c.B) := by
  intro ρ t H Q xs as r w p
  unfold fLen at p
  rcases as with _ | ⟨a, _ | ⟨a2, as⟩⟩
  · exact p.elim
  · skip
    obtain ⟨x, rfl, wa⟩ := rvs_one w
    cases e : lenA (c.B ++ t) a with
    | none => simp only [e] at p; exact p.elim
    | some n =>
      simp only [e] at p
      have fin : Q (.int n) H := p ρ H _ (Fwd.refl _ _) r (by rw [rv_int])
      cases a with
      | str z =>
        rw [rv_str] at wa
        subst wa
        have e' : (if z.length ≤ sizeLine then some z.length else none) = some n := e
        by_cases hz : z.length ≤ sizeLine
        · rw [if_pos hz] at e'
          have e2 := Option.some.inj e'
          exact .inl ⟨_, _, rfl, ⟨hz, e2.symm⟩, fin⟩
        · rw [if_neg hz] at e'; cases e'
      | tup ys =>
        cases e
        rw [rv_tup] at wa
        obtain ⟨q, vs, rfl, hq, w⟩ := wa
        exact .inl ⟨_, _, rfl, .inr ⟨vs, SqT.of hq, w.length.symm⟩, fin⟩
      | ktup ys =>
        cases e
        rw [rv_ktup] at wa
        obtain ⟨q, vs, rfl, hq, w⟩ := wa
        exact .inl ⟨_, _, rfl, .inr ⟨vs, SqT.ofK hq, w.length.symm⟩, fin⟩
      | ref m =>
        unfold lenA at e
        cases e0 : (c.B ++ t)[m]? with
        | none => simp only [e0] at e; cases e
        | some o =>
          simp only [e0] at e
          obtain ⟨a, rfl, _, q⟩ := r.objAt wa e0
          cases o with
          | lst ys => cases e; obtain ⟨vs, hz, w⟩ := q; exact .inl ⟨_, _, rfl, .inl ⟨vs, SqL.of hz, w.length.symm⟩, fin⟩
          | ro ys => cases e; obtain ⟨vs, hz, w⟩ := q; exact .inl ⟨_, _, rfl, .inl ⟨vs, .inl hz, w.length.symm⟩, fin⟩
          | dic ys => cases e; obtain ⟨vs, hz, w⟩ := q; exact .inr (.inl ⟨_, vs, rfl, .inl hz, by rw [w.length]; exact fin⟩)
          | dro ys => cases e; obtain ⟨vs, hz, w⟩ := q; exact .inr (.inl ⟨_, vs, rfl, hz, by rw [w.length]; exact fin⟩)
          | droT ys => cases e
          | fz ys => cases e; obtain ⟨o, vs, hz, w⟩ := q; exact .inr (.inl ⟨_, vs, rfl, .inr ⟨o, hz⟩, by rw [w.length]; exact fin⟩)
          | dicT ys => cases e; obtain ⟨vs, hz, w⟩ := q; exact .inr (.inr ⟨_, vs, rfl, hz, by rw [w.length]; exact fin⟩)
          | ins _ _ => cases e
      | _ => cases e
  · exact p.elim
/-! isinstance -/
def tyN (hp : List O) : A → Option String
  | .non => some "NoneType"
  | .bl _ => some "bool"
  | .int _ => some "int"
  | .str _ => some "str"
  | .tup _ => some "tuple"
  | .ktup _ => some "tuple"
  | .ref n => match hp[n]? with
    | some (.lst _) => some "list"
    | some (.ro _) => some "list"
    | some (.dic _) => some "dict"
    | some (.dicT _) => some "dict"
    | some (.dro _) => some "dict"
    | some (.fz _) => some "dict"
    | _ => none
  | _ => none
theorem tyN_ok {γ : Gm} {ρ : List Addr} {hp : List O} {H : Hp} {a : A} {x : V} {n : String} (r : Rep K γ ρ hp H) (w : RV K γ ρ H a x) (e : tyN hp a = some n) : TyX K H x (.type n) := by
  cases a with
  | non => cases e; rw [rv_non] at w; rw [w]; exact .base .non
  | bl b => cases e; rw [rv_bl] at w; rw [w]; exact .base (.bl b)
  | int b => cases e; rw [rv_int] at w; rw [w]; exact .base (.int b)
  | str b => cases e; rw [rv_str] at w; rw [w]; exact .base (.str b)
  | tup ys => cases e; rw [rv_tup] at w; obtain ⟨q, vs, rfl, hq, _⟩ := w; exact .base (.tup hq)
  | ktup ys =>
    cases e
    rw [rv_ktup] at w
    obtain ⟨q, vs, rfl, hq, _⟩ := w
    rcases hq with (h | ⟨o, h⟩) | ⟨o, its, n, h1, h2, _⟩
    · cases h
    · cases h
    · exact .kTuple h1 h2
  | ref m =>
    unfold tyN at e
    cases e0 : hp[m]? with
    | none => simp only [e0] at e; cases e
    | some o =>
      simp only [e0] at e
      obtain ⟨a, rfl, _, q⟩ := r.objAt w e0
      cases o with
      | lst ys => cases e; obtain ⟨vs, hz, w⟩ := q; exact .base (.lst hz)
      | ro ys =>
        cases e
        obtain ⟨vs, hz, w⟩ := q
        rcases hz with hz | ⟨o, hz⟩
        · exact .base (.lst hz)
        · exact .base (.frz hz)
      | dic ys => cases e; obtain ⟨vs, hz, w⟩ := q; exact .base (.dK hz)
      | dicT ys => cases e; obtain ⟨vs, hz, w⟩ := q; exact .base (.dT hz)
      | dro ys =>
        cases e
        obtain ⟨vs, hz, w⟩ := q
        rcases hz with hz | ⟨o, hz⟩
        · exact .base (.dK hz)
        · exact .fDict hz
      | droT ys => cases e
      | fz ys => cases e; obtain ⟨o, vs, hz, w⟩ := q; exact .fDict hz
      | ins _ _ => cases e
  | _ => cases e
def tyA : A → Option String
  | .ty n => some n
  | _ => none
def kitAnyB (a : String) : List String → Option Bool
  | [] => some false
  | b :: r => match kitB a b with
    | some true => some true
    | some false => kitAnyB a r
    | none => none
theorem kitAnyB_ok (a : String) : ∀ {bs : List String} {k : Bool}, kitAnyB a bs = some k → PySem.W.kitAny K (.type a) (bs.map .type) = some k
  | [], k, h => h
  | b :: r, k, h => by
    unfold kitAnyB at h
    show (match PySem.W.kitOne K (.type a) (.type b) with
      | some true => some true
      | some false => PySem.W.kitAny K (.type a) (r.map .type)
      | none => none) = some k
    cases e : kitB a b with
    | none => rw [e] at h; cases h
    | some v =>
      rw [kit_ty e]
      rw [e] at h
      cases v with
      | true => exact h
      | false => exact kitAnyB_ok a h
/-- isinstance by built-in types -/
def fIsi (B : List O) : List A → List O → Res A := fun as t => match as with
  | [a, .ty n] => (match tyN (B ++ t) a with
    | some m => (match kitB m n with
      | some b => .ok (.bl b) t
      | none => .bad)
    | none => .bad)
  | _ => .bad
theorem ok_isi : OkA c K (rIsi K) (fIsi c.B) := by
  intro ρ t H Q xs as r w p
  unfold fIsi at p
  rcases as with _ | ⟨a, _ | ⟨a2, _ | ⟨a3, as⟩⟩⟩
  · exact p.elim
  · exact p.elim
  · cases a2 with
   | ty n =>
    obtain ⟨x, y, rfl, wa, wb⟩ := rvs_two w
    rw [rv_ty] at wb
    subst wb
    cases e : tyN (c.B ++ t) a with
    | none => simp only [e] at p; exact p.elim
    | some m =>
      cases e2 : kitB m n with
      | none => simp only [e, e2] at p; exact p.elim
      | some b =>
        simp only [e, e2] at p
        exact ⟨x, .ty n, .type m, .type n, b, rfl, .ty n, tyN_ok r wa e, kit_ty e2, p ρ H _ (Fwd.refl _ _) r (by rw [rv_bl])⟩
   | _ => exact p.elim
  · cases a2 <;> exact p.elim
def fIsiT (B : List O) : List A → List O → Res A := fun as t => match as with
  | [a, .tup ts] => (match tyN (B ++ t) a, mapO tyA ts with
    | some m, some ns => (match kitAnyB m ns with
      | some b => .ok (.bl b) t
      | none => .bad)
    | _, _ => .bad)
  | _ => .bad
theorem tys_ok {γ : Gm} {ρ : List Addr} {H : Hp} : ∀ {as : List A} {ns : List String} {vs : List V}, mapO tyA as = some ns → RVs K γ ρ H as vs → Paired ClsV vs (ns.map .type)
  | [], ns, vs, e, h => by
    rw [rvs_nil] at h
    cases e
    rw [h]; exact .nil
  | a :: as, ns, vs, e, h => by
    rw [rvs_cons] at h
    obtain ⟨v, r, rfl, q1, q2⟩ := h
    unfold mapO at e
    cases e1 : tyA a with
    | none => rw [e1] at e; cases e
    | some u =>
      rw [e1] at e
      obtain ⟨ws, e2, e3⟩ := Option.map_eq_some_iff.mp e
      subst e3
      cases a with
      | ty n =>
        cases e1
        rw [rv_ty] at q1
        rw [q1]
        exact .cons (.ty _) (tys_ok e2 q2)
      | _ => cases e1
theorem ok_isiT : OkA c K (rIsiT K) (fIsiT c.B) := by
  intro ρ t H Q xs as r w p
  unfold fIsiT at p
  rcases as with _ | ⟨a, _ | ⟨a2, _ | ⟨a3, as⟩⟩⟩
  · exact p.elim
  · exact p.elim
  · cases a2 with
   | tup ts =>
    obtain ⟨x, y, rfl, wa, wb⟩ := rvs_two w
    rw [rv_tup] at wb
    obtain ⟨q, vs, rfl, hq, w⟩ := wb
    cases e : tyN (c.B ++ t) a with
    | none => simp only [e] at p; exact p.elim
    | some m =>
      cases e1 : mapO tyA ts with
      | none => simp only [e, e1] at p; exact p.elim
      | some ns =>
        cases e2 : kitAnyB m ns with
        | none => simp only [e, e1, e2] at p; exact p.elim
        | some b =>
          simp only [e, e1, e2] at p
          exact ⟨x, q, vs, .type m, ns.map .type, b, rfl, hq, tys_ok e1 w, tyN_ok r wa e, kitAnyB_ok m e2, p ρ H _ (Fwd.refl _ _) r (by rw [rv_bl])⟩
   | _ => exact p.elim
  · cases a2 <;> exact p.elim
/-! all, any, sum, max, min -/
def blA : A → Option Bool
  | .bl b => some b
  | _ => none
def intA : A → Option Int
  | .int i => some i
  | _ => none
def strA : A → Option Str
  | .str i => some i
  | _ => none
theorem all_ok {γ : Gm} {ρ : List Addr} {H : Hp} {α : Type} {f : A → Option α} {g : α → V} (hf : ∀ a b x, f a = some b → RV K γ ρ H a x → x = g b) : ∀ {as : List A} {ns : List α} {vs : List V}, mapO f as = some ns → RVs K γ ρ H as vs → vs = ns.map g
  | [], ns, vs, e, h => by
    rw [rvs_nil] at h
    cases e
    exact h
  | a :: as, ns, vs, e, h => by
    rw [rvs_cons] at h
    obtain ⟨v, r, rfl, q1, q2⟩ := h
    unfold mapO at e
    cases e1 : f a with
    | none => rw [e1] at e; cases e
    | some u =>
      rw [e1] at e
      obtain ⟨ws, e2, e3⟩ := Option.map_eq_some_iff.mp e
      subst e3
      rw [hf a u v e1 q1, all_ok hf e2 q2]
      rfl
theorem blA_ok {γ : Gm} {ρ : List Addr} {H : Hp} (a : A) (b : Bool) (x : V) (e : blA a = some b) (w : RV K γ ρ H a x) : x = .bl b := by
  cases a with
  | bl k => cases e; rw [rv_bl] at w; exact w
  | _ => cases e
theorem intA_ok {γ : Gm} {ρ : List Addr} {H : Hp} (a : A) (b : Int) (x : V) (e : intA a = some b) (w : RV K γ ρ H a x) : x = .int b := by
  cases a with
  | int k => cases e; rw [rv_int] at w; exact w
  | _ => cases e
theorem strA_ok {γ : Gm} {ρ : List Addr} {H : Hp} (a : A) (b : Str) (x : V) (e : strA a = some b) (w : RV K γ ρ H a x) : x = .str b := by
  cases a with
  | str k => cases e; rw [rv_str] at w; exact w
  | _ => cases e
/-- a function of a list that is read -/
def fL1 {α : Type} (B : List O) (f : A → Option α) (g : List α → Option A) : List A → List O → Res A := fun as t => match as with
  | [.ref n] => (match rdL (B ++ t) n with
    | some xs => (match mapO f xs with
      | some ns => (match g ns with
        | some y => .ok y t
        | none => .bad)
      | none => .bad)
    | none => .bad)
  | _ => .bad
theorem ok_L1 {α : Type} {f : A → Option α} {g : List α → Option A} {h : α → V} {R : List V → Hp → VK → Prop} (hf : ∀ ρ H a b x, f a = some b → RV K c.γ ρ H a x → x = h b)
    (hR : ∀ a ns y H Q ρ, SqL K H a (ns.map h) → g ns = some y → (∀ x, RV K c.γ ρ H y x → Q x H) → R [.ref a] H Q) : OkA c K R (fL1 c.B f g) := by
  intro ρ t H Q xs as r w p
  unfold fL1 at p
  rcases as with _ | ⟨a, _ | ⟨a2, as⟩⟩
  · exact p.elim
  · cases a with
    | ref n =>
      obtain ⟨x, rfl, wa⟩ := rvs_one w
      cases e : rdL (c.B ++ t) n with
      | none => simp only [e] at p; exact p.elim
      | some ys =>
        cases e1 : mapO f ys with
        | none => simp only [e, e1] at p; exact p.elim
        | some ns =>
          cases e2 : g ns with
          | none => simp only [e, e1, e2] at p; exact p.elim
          | some y =>
            simp only [e, e1, e2] at p
            obtain ⟨a, vs, rfl, hs, q⟩ := rdL_ok r wa e
            have hv := all_ok (hf ρ H) e1 q
            subst hv
            exact hR a ns y H Q ρ hs e2 fun x hx => p ρ H x (Fwd.refl _ _) r hx
    | _ => exact p.elim
  · cases a <;> exact p.elim
def fAll (B : List O) := fL1 B blA fun bs => some (.bl (bs.all id))
def fAny (B : List O) := fL1 B blA fun bs => some (.bl (bs.any id))
def fSum (B : List O) := fL1 B intA fun ns => some (.int ns.sum)
theorem ok_all : OkA c K (rAll K) (fAll c.B) := ok_L1 (h := V.bl) (fun _ _ => blA_ok) fun a ns y H Q ρ hs e k => by
  cases e
  exact ⟨a, ns, rfl, hs, k _ (by rw [rv_bl])⟩
theorem ok_any : OkA c K (rAny K) (fAny c.B) := ok_L1 (h := V.bl) (fun _ _ => blA_ok) fun a ns y H Q ρ hs e k => by
  cases e
  exact ⟨a, ns, rfl, hs, k _ (by rw [rv_bl])⟩
theorem ok_sum : OkA c K (rSum K) (fSum c.B) := ok_L1 (h := V.int) (fun _ _ => intA_ok) fun a ns y H Q ρ hs e k => by
  cases e
  exact ⟨a, ns, rfl, hs, k _ (by rw [rv_int])⟩
def maxI : Int → List Int → Int
  | m, [] => m
  | m, x :: r => maxI (if m < x then x else m) r
theorem maxI_ok : ∀ (r : List Int) (m : Int), (maxI m r = m ∨ maxI m r ∈ r) ∧ m ≤ maxI m r ∧ ∀ y ∈ r, y ≤ maxI m r
  | [], m => ⟨.inl rfl, Int.le_refl _, fun y h => absurd h (by simp)⟩
  | x :: r, m => by
    obtain ⟨h1, h2, h3⟩ := maxI_ok r (if m < x then x else m)
    show (maxI (if m < x then x else m) r = m ∨ maxI (if m < x then x else m) r ∈ x :: r) ∧ m ≤ maxI (if m < x then x else m) r ∧ ∀ y ∈ x :: r, y ≤ maxI (if m < x then x else m) r
    refine ⟨?_, ?_, fun y hy => ?_⟩
    · rcases h1 with h1 | h1
      · by_cases q : m < x
        · rw [if_pos q] at h1 ⊢
          exact .inr (by rw [h1]; exact List.mem_cons_self)
        · rw [if_neg q] at h1 ⊢
          exact .inl h1
      · exact .inr (List.mem_cons_of_mem _ h1)
    · by_cases q : m < x
      · rw [if_pos q] at h2 ⊢; omega
      · rw [if_neg q] at h2 ⊢; exact h2
    · rcases List.mem_cons.mp hy with e | hy
      · by_cases q : m < x
        · rw [if_pos q] at h2 ⊢; omega
        · rw [if_neg q] at h2 ⊢; omega
      · exact h3 y hy
def fMax (B : List O) := fL1 B intA fun ns => match ns with
  | [] => none
  | x :: r => some (.int (maxI x r))
theorem ok_max : OkA c K (rMax K) (fMax c.B) := ok_L1 (h := V.int) (fun _ _ => intA_ok) fun a ns y H Q ρ hs e k => by
  cases ns with
  | nil => cases e
  | cons x r =>
    cases e
    refine ⟨a, x :: r, rfl, hs, by simp, fun m hm hy => ?_⟩
    obtain ⟨h1, h2, h3⟩ := maxI_ok r x
    have e : m = maxI x r := by
      have l1 : maxI x r ≤ m := by
        rcases h1 with h1 | h1
        · rw [h1]; exact hy x List.mem_cons_self
        · exact hy _ (List.mem_cons_of_mem _ h1)
      have l2 : m ≤ maxI x r := by
        rcases List.mem_cons.mp hm with e | hm
        · rw [e]; exact h2
        · exact h3 m hm
      omega
    rw [e]
    exact k _ (by rw [rv_int])
/-! abs, int, min, max of two, tuple, list -/
def fAbs : List A → List O → Res A := fun as t => match as with
  | [.int i] => .ok (.int (if i < 0 then -i else i)) t
  | _ => .bad
theorem ok_abs : OkA c K (fun xs H Q => ∃ i, xs = [.int i] ∧ Q (.int (if i < 0 then -i else i)) H) fAbs := by
  intro ρ t H Q xs as r w p
  rcases as with _ | ⟨a, _ | ⟨a2, as⟩⟩
  · exact p.elim
  · obtain ⟨x, rfl, wa⟩ := rvs_one w
    cases a with
    | int i => rw [rv_int] at wa; subst wa; exact ⟨i, rfl, p ρ H _ (Fwd.refl _ _) r (by rw [rv_int])⟩
    | _ => exact p.elim
  · cases a <;> exact p.elim
def fInt : List A → List O → Res A := fun as t => match as with
  | [.int i] => .ok (.int i) t
  | [.bl b] => .ok (.int (if b then 1 else 0)) t
  | _ => .bad
theorem ok_int : OkA c K (fun xs H Q => (∃ i, xs = [.int i] ∧ Q (.int i) H) ∨ ∃ k, xs = [.bl k] ∧ Q (.int (if k then 1 else 0)) H) fInt := by
  intro ρ t H Q xs as r w p
  rcases as with _ | ⟨a, _ | ⟨a2, as⟩⟩
  · exact p.elim
  · obtain ⟨x, rfl, wa⟩ := rvs_one w
    cases a with
    | int i => rw [rv_int] at wa; subst wa; exact .inl ⟨i, rfl, p ρ H _ (Fwd.refl _ _) r (by rw [rv_int])⟩
    | bl i => rw [rv_bl] at wa; subst wa; exact .inr ⟨i, rfl, p ρ H _ (Fwd.refl _ _) r (by rw [rv_int])⟩
    | _ => exact p.elim
  · cases a <;> exact p.elim
def fI2 (g : Int → Int → Int) : List A → List O → Res A := fun as t => match as with
  | [.int i, .int j] => .ok (.int (g i j)) t
  | _ => .bad
theorem ok_I2 {g : Int → Int → Int} : OkA c K (fun xs H Q => ∃ i j, xs = [.int i, .int j] ∧ Q (.int (g i j)) H) (fI2 g) := by
  intro ρ t H Q xs as r w p
  rcases as with _ | ⟨a, _ | ⟨a2, _ | ⟨a3, as⟩⟩⟩
  · exact p.elim
  · cases a <;> exact p.elim
  · obtain ⟨x, y, rfl, wa, wb⟩ := rvs_two w
    cases a with
    | int i =>
      cases a2 with
      | int j => rw [rv_int] at wa wb; subst wa wb; exact ⟨i, j, rfl, p ρ H _ (Fwd.refl _ _) r (by rw [rv_int])⟩
      | _ => exact p.elim
    | _ => exact p.elim
  · cases a <;> cases a2 <;> exact p.elim
def fTupOf (B : List O) : List A → List O → Res A := fun as t => match as with
  | [.tup xs] => .ok (.tup xs) t
  | [.ktup xs] => .ok (.ktup xs) t
  | [.ref n] => (match rdL (B ++ t) n with
    | some xs => .ok (.tup xs) t
    | none => .bad)
  | _ => .bad
theorem ok_tupOf : OkA c K (fun xs H Q => ∃ p ys, xs = [.ref p] ∧ ((SqL K H p ys ∧ ∀ l, H l = none → Q (.ref l) (upd H l (.tup ys))) ∨ (SqT K H p ys ∧ Q (.ref p) H))) (fTupOf c.B) := by
  intro ρ t H Q xs as r w p
  rcases as with _ | ⟨a, _ | ⟨a2, as⟩⟩
  · exact p.elim
  · obtain ⟨x, rfl, wa⟩ := rvs_one w
    cases a with
    | tup ys =>
      have wa' := wa
      rw [rv_tup] at wa
      obtain ⟨q, vs, rfl, hq, w⟩ := wa
      exact ⟨q, vs, rfl, .inr ⟨SqT.of hq, p ρ H _ (Fwd.refl _ _) r wa'⟩⟩
    | ktup ys =>
      have wa' := wa
      rw [rv_ktup] at wa
      obtain ⟨q, vs, rfl, hq, w⟩ := wa
      exact ⟨q, vs, rfl, .inr ⟨SqT.ofK hq, p ρ H _ (Fwd.refl _ _) r wa'⟩⟩
    | ref n =>
      unfold fTupOf at p
      cases e : rdL (c.B ++ t) n with
      | none => simp only [e] at p; exact p.elim
      | some ys =>
        simp only [e] at p
        obtain ⟨q, vs, rfl, hs, w⟩ := rdL_ok r wa e
        refine ⟨q, vs, rfl, .inl ⟨hs, fun l hl => ?_⟩⟩
        obtain ⟨r', f⟩ := r.junk (nb := c.B.length) (o' := .tup vs) hl
        refine p _ _ _ f r' ?_
        rw [rv_tup]
        exact ⟨l, vs, rfl, upd_same, RVs.mono (r.keep f) _ _ w⟩
    | _ => exact p.elim
  · cases a <;> exact p.elim
def fLstOf (B : List O) : List A → List O → Res A := fun as t => match as with
  | [a] => (match seqOf (B ++ t) a with
    | some xs => mkO B (.lst xs) t
    | none => .bad)
  | _ => .bad
theorem ok_lstOf : OkA c K (fun xs H Q => ∃ p ys, xs = [.ref p] ∧ (SqL K H p ys ∨ SqT K H p ys) ∧ ∀ l, H l = none → Q (.ref l) (upd H l (.lst ys))) (fLstOf c.B) := by
  intro ρ t H Q xs as r w p
  rcases as with _ | ⟨a, _ | ⟨a2, as⟩⟩
  · exact p.elim
  · obtain ⟨x, rfl, wa⟩ := rvs_one w
    unfold fLstOf at p
    cases e : seqOf (c.B ++ t) a with
    | none => simp only [e] at p; exact p.elim
    | some ys =>
      simp only [e] at p
      obtain ⟨q, vs, rfl, hs, w⟩ := seqOf_ok r wa e
      exact ⟨q, vs, rfl, hs, fun l hl => mkO_ok (o := .lst ys) r hl (fun ρ' H' k e => ⟨_, e, RVs.mono k _ _ w⟩) p⟩
  · exact p.elim
/-! sorted: a list of ints, a dict with keys ints, a dict with one text as its key -/
def insI (x : Int) : List Int → List Int
  | [] => [x]
  | y :: r => if x ≤ y then x :: y :: r else y :: insI x r
def sortI : List Int → List Int
  | [] => []
  | x :: r => insI x (sortI r)
theorem insI_perm (x : Int) : ∀ l : List Int, (insI x l).Perm (x :: l)
  | [] => .refl _
  | y :: r => by
    unfold insI
    split
    · exact .refl _
    · exact ((insI_perm x r).cons y).trans (.swap _ _ _)
theorem sortI_perm : ∀ l : List Int, (sortI l).Perm l
  | [] => .refl _
  | x :: r => (insI_perm x _).trans ((sortI_perm r).cons x)
theorem insI_sorted (x : Int) : ∀ l : List Int, l.Pairwise (· ≤ ·) → (insI x l).Pairwise (· ≤ ·)
  | [], _ => by simp [insI]
  | y :: r, h => by
    unfold insI
    split
    · rename_i hxy
      refine List.Pairwise.cons (fun z hz => ?_) h
      rcases List.mem_cons.mp hz with e | hz
      · rw [e]; exact hxy
      · exact Int.le_trans hxy ((List.pairwise_cons.mp h).1 z hz)
    · rename_i hxy
      obtain ⟨h1, h2⟩ := List.pairwise_cons.mp h
      refine List.Pairwise.cons (fun z hz => ?_) (insI_sorted x r h2)
      rcases List.mem_cons.mp ((insI_perm x r).mem_iff.mp hz) with e | hz
      · rw [e]; omega
      · exact h1 z hz
theorem sortI_sorted : ∀ l : List Int, (sortI l).Pairwise (· ≤ ·)
  | [] => .nil
  | x :: r => insI_sorted x _ (sortI_sorted r)
theorem sortI_only {l l' : List Int} (hp : l'.Perm l) (hs : l'.Pairwise (· ≤ ·)) : l' = sortI l := PySem.W.ksm_same (hp.trans (sortI_perm l).symm) hs (sortI_sorted l)
def dicOf (hp : List O) (n : Nat) : Option (List (Key × A)) := match hp[n]? with
  | some (.dic kvs) => some kvs
  | some (.dro kvs) => some kvs
  | some (.fz kvs) => some kvs
  | _ => none
theorem dicOf_ok {γ : Gm} {ρ : List Addr} {hp : List O} {H : Hp} {x : V} {n : Nat} {kvs : List (Key × A)} (R : Rep K γ ρ hp H) (w : RV K γ ρ H (.ref n) x) (h : dicOf hp n = some kvs) : ∃ a vs, x = .ref a ∧ Rd H a (.dK vs) ∧ RKs K γ ρ H kvs vs := by
  unfold dicOf at h
  cases e : hp[n]? with
  | none => rw [e] at h; cases h
  | some o =>
    rw [e] at h
    obtain ⟨a, rfl, _, q⟩ := R.objAt w e
    cases o with
    | dic ys => cases h; obtain ⟨vs, z, q⟩ := q; exact ⟨a, vs, rfl, .inl z, q⟩
    | dro ys => cases h; obtain ⟨vs, z, q⟩ := q; exact ⟨a, vs, rfl, z, q⟩
    | fz ys => cases h; obtain ⟨o, vs, z, q⟩ := q; exact ⟨a, vs, rfl, .inr ⟨o, z⟩, q⟩
    | _ => cases h
theorem RKs.keys {κ : Type} {γ : Gm} {ρ : List Addr} {H : Hp} : ∀ {kvs : List (κ × A)} {vs : List (κ × V)}, RKs K γ ρ H kvs vs → vs.map (·.1) = kvs.map (·.1)
  | [], vs, h => by
    have h' : vs = [] := h
    rw [h']; rfl
  | x :: xs, vs, h => by
    obtain ⟨v, r, rfl, _, q⟩ := h
    simp [RKs.keys q]
def keyI : Key → Option Int
  | .inl i => some i
  | _ => none
theorem keysI : ∀ {ks : List Key} {is : List Int}, mapO keyI ks = some is → ks = is.map Sum.inl
  | [], is, h => by cases h; rfl
  | k :: ks, is, h => by
    unfold mapO at h
    cases k with
    | inl i =>
      obtain ⟨ws, e2, e3⟩ := Option.map_eq_some_iff.mp (show (mapO keyI ks).map (i :: ·) = some is from h)
      subst e3
      rw [keysI e2]; rfl
    | inr z => cases h
def fSorted (B : List O) : List A → List O → Res A := fun as t => match as with
  | [.ref n] => (match rdL (B ++ t) n with
    | some xs => (match mapO intA xs with
      | some ns => if ns.length < 64 then mkO B (.lst ((sortI ns).map .int)) t else .bad
      | none => .bad)
    | none => (match dicOf (B ++ t) n with
      | some kvs => (match (kvs.map (·.1) : List Key) with
        | [Sum.inr z] => mkO B (.lst [.str z]) t
        | ks => (match mapO keyI ks with
          | some ns => if ns.length < 64 then mkO B (.lst ((sortI ns).map .int)) t else .bad
          | none => .bad))
      | none => .bad))
  | _ => .bad
def rSortX (K : PySem.W.Frag) : List V → Hp → VK → Prop := fun xs H Q => rSorted K xs H Q ∨
  (∃ (a : Addr) (kvs : List (Key × V)) (ks : List Int), xs = [.ref a] ∧ Rd H a (.dK kvs) ∧ kvs.map (·.1) = ks.map Sum.inl ∧ ks.length < 64 ∧
    ∀ (ys : List Int) (p : Addr), ys.Perm ks → ys.Pairwise (· ≤ ·) → H p = none → Q (.ref p) (upd H p (.lst (ys.map V.int)))) ∨
  (∃ (a : Addr) (kvs : List (Key × V)) (ks : List Str), xs = [.ref a] ∧ Rd H a (.dK kvs) ∧ kvs.map (·.1) = ks.map Sum.inr ∧ ks.length < 64 ∧
    ∀ ys p, ys.Perm ks → sortedS ys = true → H p = none → Q (.ref p) (upd H p (.lst (ys.map V.str))))
theorem cr_sortX (hc : X.calm = true) : CallR X (.builtin "sorted") (rSortX X.K) := CallR.or cr_sorted (CallR.or (call_sortedDI hc) (call_sortedD hc))
theorem rvs_ints {γ : Gm} {ρ : List Addr} {H : Hp} : ∀ ns : List Int, RVs K γ ρ H (ns.map .int) (ns.map V.int)
  | [] => by rw [List.map_nil, List.map_nil, rvs_nil]
  | n :: ns => by
    rw [List.map_cons, List.map_cons, rvs_cons]
    exact ⟨_, _, rfl, by rw [rv_int], rvs_ints ns⟩
theorem ok_sorted : OkA c K (rSortX K) (fSorted c.B) := by
  intro ρ t H Q xs as r w p
  unfold fSorted at p
  rcases as with _ | ⟨a, _ | ⟨a2, as⟩⟩
  · exact p.elim
  · obtain ⟨x, rfl, wa⟩ := rvs_one w
    cases a with
    | ref n =>
      cases e : rdL (c.B ++ t) n with
      | some ys =>
        simp only [e] at p
        cases e1 : mapO intA ys with
        | none => simp only [e1] at p; exact p.elim
        | some ns =>
          simp only [e1] at p
          by_cases hl : ns.length < 64
          · simp only [if_pos hl] at p
            obtain ⟨q, vs, rfl, hs, w⟩ := rdL_ok r wa e
            have hv := all_ok intA_ok e1 w
            subst hv
            refine .inl ⟨q, ns, rfl, hs, hl, fun ns' b hp hso hb => ?_⟩
            rw [sortI_only hp hso]
            exact mkO_ok (o := .lst ((sortI ns).map .int)) r hb (fun ρ' H' k e => ⟨_, e, rvs_ints _⟩) p
          · simp only [if_neg hl] at p; exact p.elim
      | none =>
        simp only [e] at p
        cases e1 : dicOf (c.B ++ t) n with
        | none => simp only [e1] at p; exact p.elim
        | some kvs =>
          simp only [e1] at p
          obtain ⟨q, vs, rfl, hs, w⟩ := dicOf_ok r wa e1
          have hk := w.keys
          split at p
          · rename_i z hz
            refine .inr (.inr ⟨q, vs, [z], rfl, hs, by rw [hk, hz]; rfl, by show 1 < 64; decide, fun ys b hp _ hb => ?_⟩)
            rw [List.perm_singleton.mp hp]
            exact mkO_ok (o := .lst [.str z]) r hb (fun ρ' H' k e => ⟨_, e, by rw [List.map_cons, List.map_nil, rvs_cons]; exact ⟨_, _, rfl, by rw [rv_str], by rw [rvs_nil]⟩⟩) p
          · cases e2 : mapO keyI (kvs.map (·.1)) with
            | none => simp only [e2] at p; exact p.elim
            | some ns =>
              simp only [e2] at p
              by_cases hl : ns.length < 64
              · simp only [if_pos hl] at p
                refine .inr (.inl ⟨q, vs, ns, rfl, hs, by rw [hk, keysI e2], hl, fun ns' b hp hso hb => ?_⟩)
                rw [sortI_only hp hso]
                exact mkO_ok (o := .lst ((sortI ns).map .int)) r hb (fun ρ' H' k e => ⟨_, e, rvs_ints _⟩) p
              · simp only [if_neg hl] at p; exact p.elim
    | _ => exact p.elim
  · cases a <;> exact p.elim
/-! methods -/
def tyM (hp : List O) (T : String) : A → Bool
  | .str _ => T == "str"
  | .int _ => T == "int"
  | .ref n => (match hp[n]? with
    | some (.lst _) => T == "list"
    | some (.ro _) => T == "list"
    | some (.dic _) => T == "dict"
    | some (.dicT _) => T == "dict"
    | _ => false)
  | _ => false
theorem tyM_ok {γ : Gm} {ρ : List Addr} {hp : List O} {H : Hp} {T : String} {a : A} {x : V} (r : Rep K γ ρ hp H) (w : RV K γ ρ H a x) (e : tyM hp T a = true) : tyV K T x H := by
  cases a with
  | str z => rw [rv_str] at w; rw [w]; exact beq_iff_eq.mp e
  | int z => rw [rv_int] at w; rw [w]; exact beq_iff_eq.mp e
  | ref n =>
    unfold tyM at e
    cases e0 : hp[n]? with
    | none => simp only [e0] at e; cases e
    | some o =>
      simp only [e0] at e
      obtain ⟨a, rfl, _, q⟩ := r.objAt w e0
      cases o with
      | lst ys => obtain ⟨vs, z, q⟩ := q; exact .inl ⟨beq_iff_eq.mp e, vs, SqL.of z⟩
      | ro ys => obtain ⟨vs, z, q⟩ := q; exact .inl ⟨beq_iff_eq.mp e, vs, .inl z⟩
      | dic ys => obtain ⟨vs, z, q⟩ := q; exact .inr (.inr (.inl ⟨beq_iff_eq.mp e, .inl ⟨vs, z⟩⟩))
      | dicT ys => obtain ⟨vs, z, q⟩ := q; exact .inr (.inr (.inl ⟨beq_iff_eq.mp e, .inr ⟨vs, z⟩⟩))
      | _ => cases e
  | _ => cases e
def mMet (B : List O) (T : String) (f : A → List A → List O → Res A) (mo : ME) (ma : MA) : ME := fun s t => (mo s t).bind fun a t1 => if tyM (B ++ t1) T a = true then (ma s t1).bind fun as t2 => f a as t2 else .bad
def OkM (c : Cc) (K : PySem.W.Frag) (r : V → List V → Hp → VK → Prop) (f : A → List A → List O → Res A) : Prop := ∀ ρ t H Q x xs a as, Rep K c.γ ρ (c.B ++ t) H → RV K c.γ ρ H a x → RVs K c.γ ρ H as xs → Post K c.γ c.E c.B (RV K c.γ) Q (f a as t) ρ H → r x xs H Q
theorem se_met {e : Expr} {T : String} {r : V → List V → Hp → VK → Prop} {f : A → List A → List O → Res A} {mo : ME} {ma : MA} (h : PE X e (tBM X.K T r (tM c X (RV X.K c.γ) mo) (tM c X (RVs X.K c.γ) ma))) (hf : OkM c X.K r f) : SE c X e (mMet c.B T f mo ma) := by
  refine PE.imp h fun σ H Q p => ?_
  refine tM.bind (k := fun s a t1 => if tyM (c.B ++ t1) T a = true then (ma s t1).bind fun as t2 => f a as t2 else .bad) p fun ρ H1 σa a x t r s w q => ?_
  by_cases ht : tyM (c.B ++ t) T a = true
  · rw [if_pos ht] at q
    refine ⟨tyM_ok r w ht, ρ, σa, t, r, s, Post.bind q fun as t2 ρ' H' xs _ g r' w' q' => ?_⟩
    exact hf ρ' t2 H' Q x xs a as r' (RV.mono (r.keep g) _ _ w) w' q'
  · rw [if_neg ht] at q; exact q.elim
theorem se_met0 {e : Expr} {T : String} {r : V → List V → Hp → VK → Prop} {f : A → List A → List O → Res A} {mo : ME} (h : PE X e (tBM0 X.K T r (tM c X (RV X.K c.γ) mo))) (hf : OkM c X.K r f) : SE c X e (mMet c.B T f mo mNil) := by
  refine PE.imp h fun σ H Q p => ?_
  refine tM.bind (k := fun s a t1 => if tyM (c.B ++ t1) T a = true then (mNil s t1).bind fun as t2 => f a as t2 else .bad) p fun ρ H1 σa a x t r s w q => ?_
  by_cases ht : tyM (c.B ++ t) T a = true
  · rw [if_pos ht] at q
    exact ⟨tyM_ok r w ht, hf ρ t H1 Q x [] a [] r w (by rw [rvs_nil]) q⟩
  · rw [if_neg ht] at q; exact q.elim
/-- an object of this frame is written -/
theorem write_ok {ρ : List Addr} {t : List O} {H : Hp} {Q : VK} {n : Nat} {a : Addr} {o : O} {o' : HO} {y : A} {v : V} (r : Rep K c.γ ρ (c.B ++ t) H) (hn : ρ[n]? = some a) (hb : c.B.length ≤ n) (nf : ∀ o u, H a ≠ some (.frz o u))
    (ho : ∀ H', Keep K ρ H ρ H' → H' a = some o' → RO K c.γ ρ H' o a) (hv : ∀ H', Keep K ρ H ρ H' → RV K c.γ ρ H' y v) (p : Post K c.γ c.E c.B (RV K c.γ) Q (.ok y (t.set (n - c.B.length) o)) ρ H) : Q v (upd H a o') := by
  obtain ⟨r', f⟩ := r.write (nb := c.B.length) hn hb nf ho
  rw [set_top hb] at r'
  exact p ρ _ v f r' (hv _ (r.keep f))
def fAppend (B : List O) : A → List A → List O → Res A := fun a as t => match a, as with
  | .ref n, [b] => if B.length ≤ n then (match (B ++ t)[n]? with
    | some (.lst xs) => if xs.length < sizeLine then .ok .non (t.set (n - B.length) (.lst (xs ++ [b]))) else .bad
    | _ => .bad) else .bad
  | _, _ => .bad
theorem ok_append : OkM c K rAppend (fAppend c.B) := by
  intro ρ t H Q x xs a as r w ws p
  unfold fAppend at p
  cases a with
  | ref n =>
    rcases as with _ | ⟨b, _ | ⟨b2, as⟩⟩
    · exact p.elim
    · obtain ⟨y, rfl, wb⟩ := rvs_one ws
      by_cases hb : c.B.length ≤ n
      · simp only [if_pos hb] at p
        cases e : (c.B ++ t)[n]? with
        | none => simp only [e] at p; exact p.elim
        | some o =>
          cases o with
          | lst ys =>
            simp only [e] at p
            obtain ⟨l, rfl, hl, vs, hz, wv⟩ := r.objAt w e
            by_cases hs : ys.length < sizeLine
            · simp only [if_pos hs] at p
              refine ⟨l, vs, y, rfl, rfl, hz, by rw [wv.length]; exact hs, ?_⟩
              refine write_ok (o := .lst (ys ++ [b])) r hl hb (fun o u z => by rw [hz] at z; cases z) (fun H' k e => ⟨_, e, ?_⟩) (fun H' k => by rw [rv_non]) p
              exact (RVs.mono k _ _ wv).append (by rw [rvs_cons]; exact ⟨_, _, rfl, RV.mono k _ _ wb, by rw [rvs_nil]⟩)
            · simp only [if_neg hs] at p; exact p.elim
          | _ => simp only [e] at p; exact p.elim
      · simp only [if_neg hb] at p; exact p.elim
    · exact p.elim
  | _ => exact p.elim
def fPop (B : List O) : A → List A → List O → Res A := fun a as t => match a, as with
  | .ref n, [] => if B.length ≤ n then (match (B ++ t)[n]? with
    | some (.lst xs) => (match xs[xs.length - 1]? with
      | some y => .ok y (t.set (n - B.length) (.lst xs.dropLast))
      | none => .bad)
    | _ => .bad) else .bad
  | _, _ => .bad
theorem RVs.dropLast {γ : Gm} {ρ : List Addr} {H : Hp} {xs : List A} {vs : List V} (h : RVs K γ ρ H xs vs) : RVs K γ ρ H xs.dropLast vs.dropLast := by
  rw [List.dropLast_eq_take, List.dropLast_eq_take, h.length]
  exact h.take _
theorem ok_pop : OkM c K rPop (fPop c.B) := by
  intro ρ t H Q x xs a as r w ws p
  unfold fPop at p
  cases a with
  | ref n =>
    rcases as with _ | ⟨b, as⟩
    · rw [rvs_nil] at ws
      subst ws
      by_cases hb : c.B.length ≤ n
      · simp only [if_pos hb] at p
        cases e : (c.B ++ t)[n]? with
        | none => simp only [e] at p; exact p.elim
        | some o =>
          cases o with
          | lst ys =>
            simp only [e] at p
            obtain ⟨l, rfl, hl, vs, hz, wv⟩ := r.objAt w e
            cases e2 : ys[ys.length - 1]? with
            | none => simp only [e2] at p; exact p.elim
            | some y =>
              simp only [e2] at p
              obtain ⟨v, hv, wy⟩ := wv.get e2
              refine ⟨l, vs, v, rfl, rfl, hz, by rw [wv.length]; exact hv, ?_⟩
              exact write_ok (o := .lst ys.dropLast) r hl hb (fun o u z => by rw [hz] at z; cases z) (fun H' k e => ⟨_, e, RVs.mono k _ _ wv.dropLast⟩) (fun H' k => RV.mono k _ _ wy) p
          | _ => simp only [e] at p; exact p.elim
      · simp only [if_neg hb] at p; exact p.elim
    · exact p.elim
  | _ => exact p.elim
end
end Ev
end
section
set_option Elab.async false
set_option linter.all false
set_option maxRecDepth 100000
set_option maxHeartbeats 400000
/-! Statements, targets, loops. -/
namespace Ev
open PySem PySem.Spec PyProof.Rows L2
abbrev Sl := List (Option A)
inductive Fl where
  | nx (s : Sl) | rt (a : A) | bk (s : Sl) | ct (s : Sl)
inductive FV where
  | nx (s : L2.St) | rt (a : V) | bk (s : L2.St) | ct (s : L2.St)
def RF (K : PySem.W.Frag) (γ : Gm) (ρ : List Addr) (H : Hp) : Fl → FV → Prop
  | .nx s, .nx σ => RS K γ ρ H s σ
  | .rt a, .rt v => RV K γ ρ H a v
  | .bk s, .bk σ => RS K γ ρ H s σ
  | .ct s, .ct σ => RS K γ ρ H s σ
  | _, _ => False
def QD (D : Ends) : FV → Hp → Prop
  | .nx σ, H => D.nx σ H
  | .rt v, H => D.rt v H
  | .bk σ, H => D.bk σ H
  | .ct σ, H => D.ct σ H
abbrev MS := Sl → List O → Res Fl
section
variable (c : Cc) (X : Cx)
def tS (m : MS) : TS := fun D σ H => ∃ ρ σa top, Rep X.K c.γ ρ (c.B ++ top) H ∧ RS X.K c.γ ρ H σa σ ∧ Post X.K c.γ c.E c.B (RF X.K c.γ) (QD D) (m σa top) ρ H
def SS (st : Stmt) (m : MS) : Prop := PS X st (tS c X m)
def SSs (st : List Stmt) (m : MS) : Prop := PSs X st (tS c X m)
end
section
variable {c : Cc} {X : Cx} {K : PySem.W.Frag}
/-- the first part of a statement is a run of an expression -/
theorem tS.bind {α β : Type} {R : List Addr → Hp → α → β → Prop} {m : Sl → List O → Res α} {k : Sl → α → List O → Res Fl} {σ : L2.St} {H : Hp} {D : Ends} {Q1 : β → Hp → Prop}
    (h : tS c X (fun s t => (m s t).bind (k s)) D σ H)
    (hk : ∀ ρ H1 σa a b t, Rep X.K c.γ ρ (c.B ++ t) H1 → RS X.K c.γ ρ H1 σa σ → R ρ H1 a b → Post X.K c.γ c.E c.B (RF X.K c.γ) (QD D) (k σa a t) ρ H1 → Q1 b H1) : tM c X R m σ H Q1 := by
  obtain ⟨ρ, σa, top, r, s, p⟩ := h
  refine ⟨ρ, σa, top, r, s, Post.bind p fun a t ρ' H' b _ f r' w q => ?_⟩
  exact hk ρ' H' σa a b t r' (RS.mono (r.keep f) _ _ s) w q
def mNext : MS := fun s t => .ok (.nx s) t
theorem nowS {fl : Fl} {fv : FV} {t : List O} {ρ : List Addr} {H : Hp} {D : Ends} (h : Post X.K c.γ c.E c.B (RF X.K c.γ) (QD D) (.ok fl t) ρ H) (r : Rep X.K c.γ ρ (c.B ++ t) H) (q : RF X.K c.γ ρ H fl fv) : QD D fv H :=
  h ρ H fv (Fwd.refl _ _) r q
theorem sss_nil : SSs c X [] mNext := PSs.imp pss_nil fun D σ H ⟨ρ, σa, top, r, s, p⟩ => nowS (fv := .nx σ) p r s
theorem ss_pass {pos : Pos} : SS c X (.Pass pos) mNext := PS.imp ps_pass fun D σ H ⟨ρ, σa, top, r, s, p⟩ => nowS (fv := .nx σ) p r s
def mBreak : MS := fun s t => .ok (.bk s) t
theorem ss_break {pos : Pos} : SS c X (.Break pos) mBreak := PS.imp ps_break fun D σ H ⟨ρ, σa, top, r, s, p⟩ => nowS (fv := .bk σ) p r s
def mCont : MS := fun s t => .ok (.ct s) t
theorem ss_cont {pos : Pos} : SS c X (.Continue pos) mCont := PS.imp ps_continue fun D σ H ⟨ρ, σa, top, r, s, p⟩ => nowS (fv := .ct σ) p r s
def andThen (fl : Fl) (t : List O) (k : Sl → List O → Res Fl) : Res Fl := match fl with
  | .nx s => k s t
  | .rt a => .ok (.rt a) t
  | .bk s => .ok (.bk s) t
  | .ct s => .ok (.ct s) t
def mSeq (m1 m2 : MS) : MS := fun s t => (m1 s t).bind fun fl t1 => andThen fl t1 m2
theorem sss_cons {st : Stmt} {rest : List Stmt} {m1 m2 : MS} (h1 : SS c X st m1) (h2 : SSs c X rest m2) : SSs c X (st :: rest) (mSeq m1 m2) := by
  refine PSs.imp (pss_cons h1 h2) fun D σ H ⟨ρ, σa, top, r, s, p⟩ => ?_
  refine ⟨ρ, σa, top, r, s, Post.bind p fun fl t ρ' H' fv _ f r' w q => ?_⟩
  cases fl with
  | nx s' =>
    cases fv with
    | nx σ' => exact ⟨ρ', s', t, r', w, q⟩
    | _ => exact w.elim
  | rt a =>
    cases fv with
    | rt v => exact nowS (D := D) (fl := .rt a) (fv := .rt v) q r' w
    | _ => exact w.elim
  | bk s' =>
    cases fv with
    | bk σ' => exact nowS (D := D) (fl := .bk s') (fv := .bk σ') q r' w
    | _ => exact w.elim
  | ct s' =>
    cases fv with
    | ct σ' => exact nowS (D := D) (fl := .ct s') (fv := .ct σ') q r' w
    | _ => exact w.elim
theorem sss_one {st : Stmt} {m : MS} (h : SS c X st m) : SSs c X [st] m := pss_one h
def mRet (ma : ME) : MS := fun s t => (ma s t).bind fun a t1 => .ok (.rt a) t1
theorem ss_ret {e : Expr} {pos : Pos} {ma : ME} (h : SE c X e ma) : SS c X (.Return (some e) pos) (mRet ma) :=
  PS.imp (ps_ret h) fun D σ H p => tS.bind (k := fun _ a t1 => .ok (.rt a) t1) p fun ρ H1 σa a x t r s w q => nowS (fv := .rt x) q r w
def mRetN : MS := fun _ t => .ok (.rt .non) t
theorem ss_retN {pos : Pos} : SS c X (.Return none pos) mRetN := PS.imp ps_retN fun D σ H ⟨ρ, σa, top, r, s, p⟩ => nowS (fv := .rt .non) p r (by show RV _ _ _ _ _ _; rw [rv_non])
def mDrop (ma : ME) : MS := fun s t => (ma s t).bind fun _ t1 => .ok (.nx s) t1
theorem ss_expr {e : Expr} {pos : Pos} {ma : ME} (h : SE c X e ma) (hs : swapsWith e none pos.line X.env = pure false := by rfl) : SS c X (.Expr e pos) (mDrop ma) :=
  PS.imp (ps_expr h hs) fun D σ H p => tS.bind (k := fun s _ t1 => .ok (.nx s) t1) p fun ρ H1 σa a x t r s w q => nowS (fv := .nx σ) q r s
def mIf (mc : MT) (m1 m2 : MS) : MS := fun s t => (mc s t).bind fun b t1 => match b with
  | true => m1 s t1
  | false => m2 s t1
theorem ss_if {e : Expr} {a b : List Stmt} {pos : Pos} {mc : MT} {m1 m2 : MS} (h : ST c X e mc) (h1 : SSs c X a m1) (h2 : SSs c X b m2) : SS c X (.If e a b pos) (mIf mc m1 m2) := by
  refine PS.imp (ps_if h h1 h2) fun D σ H p => ?_
  refine tS.bind (R := RB) (m := mc) (k := fun s (b : Bool) t1 => match b with
    | true => m1 s t1
    | false => m2 s t1) p fun ρ H1 σa a x t r s w q => ?_
  cases w
  cases a with
  | true => rw [if_pos rfl]; exact ⟨ρ, σa, t, r, s, q⟩
  | false => rw [if_neg Bool.false_ne_true]; exact ⟨ρ, σa, t, r, s, q⟩
/-! targets -/
abbrev MG := A → Sl → List O → Res Sl
def GOk (c : Cc) (K : PySem.W.Frag) (g : TG) (f : MG) : Prop := ∀ ρ t H σ σa x a Q, Rep K c.γ ρ (c.B ++ t) H → RS K c.γ ρ H σa σ → RV K c.γ ρ H a x → Post K c.γ c.E c.B (RS K c.γ) Q (f a σa t) ρ H → g x σ H Q
def gN (i : Nat) : MG := fun a s t => .ok (s.set i (some a)) t
theorem ok_gN {i : Nat} : GOk c K (gName i) (gN i) := fun ρ t H σ σa x a Q r s w p => p ρ H _ (Fwd.refl _ _) r (RS.set s w)
/-- a tuple of names -/
def setAll : List Nat → List A → Sl → Option Sl
  | [], [], s => some s
  | i :: is, a :: as, s => setAll is as (s.set i (some a))
  | _, _, _ => none
def tupOf : A → Option (List A)
  | .tup xs => some xs
  | .ktup xs => some xs
  | _ => none
def gT (is : List Nat) : MG := fun a s t => match tupOf a with
  | some as => (match setAll is as s with
    | some s' => .ok s' t
    | none => .bad)
  | none => .bad
def gNames : List Nat → TGs
  | [] => gNil
  | i :: is => gCons (gName i) (gNames is)
theorem gNames_ok {ρ : List Addr} {H : Hp} {Q : L2.St → Hp → Prop} : ∀ {is : List Nat} {as : List A} {vs : List V} {s s' : Sl} {σ : L2.St}, setAll is as s = some s' → RVs K c.γ ρ H as vs → RS K c.γ ρ H s σ → (∀ σ', RS K c.γ ρ H s' σ' → Q σ' H) → gNames is vs σ H Q
  | [], [], vs, s, s', σ, e, w, r, q => by
    rw [rvs_nil] at w
    cases e
    exact ⟨w, q σ r⟩
  | i :: is, a :: as, vs, s, s', σ, e, w, r, q => by
    rw [rvs_cons] at w
    obtain ⟨v, vr, rfl, w1, w2⟩ := w
    exact ⟨v, vr, rfl, gNames_ok (s := s.set i (some a)) e w2 (RS.set r w1) q⟩
  | [], _ :: _, vs, s, s', σ, e, w, r, q => by cases e
  | _ :: _, [], vs, s, s', σ, e, w, r, q => by cases e
theorem ok_gT {is : List Nat} : GOk c K (gTup K is.length (gNames is)) (gT is) := by
  intro ρ t H σ σa x a Q r s w p
  unfold gT at p
  cases e : tupOf a with
  | none => simp only [e] at p; exact p.elim
  | some as =>
    cases e2 : setAll is as σa with
    | none => simp only [e, e2] at p; exact p.elim
    | some s' =>
      simp only [e, e2] at p
      have len : ∀ (is : List Nat) (as : List A) (s s' : Sl), setAll is as s = some s' → as.length = is.length := by
        intro is
        induction is with
        | nil =>
          intro as s s' h
          cases as with
          | nil => rfl
          | cons a as => cases h
        | cons i is ih =>
          intro as s s' h
          cases as with
          | nil => cases h
          | cons a as => simp [ih as _ _ h]
      have fin : ∀ σ', RS K c.γ ρ H s' σ' → Q σ' H := fun σ' h => p ρ H σ' (Fwd.refl _ _) r h
      cases a with
      | tup ys =>
        cases e
        rw [rv_tup] at w
        obtain ⟨q, vs, rfl, hq, w⟩ := w
        exact ⟨q, vs, rfl, SqT.of hq, by rw [w.length, len _ _ _ _ e2], gNames_ok e2 w s fin⟩
      | ktup ys =>
        cases e
        rw [rv_ktup] at w
        obtain ⟨q, vs, rfl, hq, w⟩ := w
        exact ⟨q, vs, rfl, SqT.ofK hq, by rw [w.length, len _ _ _ _ e2], gNames_ok e2 w s fin⟩
      | _ => cases e
def mAsg (f : MG) (ma : ME) : MS := fun s t => (ma s t).bind fun a t1 => (f a s t1).bind fun s' t2 => .ok (.nx s') t2
theorem ss_asg {g : TG} {f : MG} {st : Stmt} {ma : ME} (h : PS X st (tAsg (tM c X (RV X.K c.γ) ma) g)) (hg : GOk c X.K g f) : SS c X st (mAsg f ma) := by
  refine PS.imp h fun D σ H p => ?_
  refine tS.bind (k := fun s a t1 => (f a s t1).bind fun s' t2 => .ok (.nx s') t2) p fun ρ H1 σa a x t r s w q => ?_
  refine hg ρ t H1 σ σa x a _ r s w (Post.bind q fun s' t2 ρ' H' σ' _ f r' w' q' => ?_)
  exact nowS (fv := .nx σ') q' r' w'
/-- x = e -/
theorem ss_set {e : Expr} {i : Nat} {x : Str} {pos pos' : Pos} {ma : ME} (hN : X.N.Nodup) (hi : X.N[i]? = some x) (hx : Loc X.env.scope x) (he : SE c X e ma) (hs : swapsWith e (some (.Name x pos')) pos.line X.env = pure false := by rfl)
    (hf : X.fn x = true ∨ X.env.scope.names.lookup x = some .local := by first | exact .inl rfl | exact .inr rfl | assumption) : SS c X (.Assign [.Name x pos'] e pos) (mAsg (gN i) ma) := ss_asg (ps_set hN hi hx he hs hf) ok_gN
/-- a, b = e1, e2; a, b, c = e1, e2, e3 -/
def mPar (is : List Nat) (ma : MA) : MS := fun s t => (ma s t).bind fun as t1 => match setAll is as s with
  | some s' => .ok (.nx s') t1
  | none => .bad
theorem ss_par2 {i j : Nat} {st : Stmt} {ma : MA} (h : PS X st (tPar i j (tM c X (RVs X.K c.γ) ma))) : SS c X st (mPar [i, j] ma) := by
  refine PS.imp h fun D σ H p => ?_
  refine tS.bind (R := RVs X.K c.γ) (m := ma) (k := fun s (as : List A) t1 => match setAll [i, j] as s with
    | some s' => .ok (.nx s') t1
    | none => .bad) p fun ρ H1 σa as vs t r s w q => ?_
  rcases as with _ | ⟨a, _ | ⟨b, _ | ⟨d, as⟩⟩⟩
  · exact q.elim
  · exact q.elim
  · obtain ⟨x, y, rfl, wa, wb⟩ := rvs_two w
    exact ⟨x, y, rfl, nowS (fv := .nx ((σ.set i (some x)).set j (some y))) q r (RS.set (RS.set s wa) wb)⟩
  · exact q.elim
theorem ss_par3 {i j l : Nat} {st : Stmt} {ma : MA} (h : PS X st (tPar3 i j l (tM c X (RVs X.K c.γ) ma))) : SS c X st (mPar [i, j, l] ma) := by
  refine PS.imp h fun D σ H p => ?_
  refine tS.bind (R := RVs X.K c.γ) (m := ma) (k := fun s (as : List A) t1 => match setAll [i, j, l] as s with
    | some s' => .ok (.nx s') t1
    | none => .bad) p fun ρ H1 σa as vs t r s w q => ?_
  rcases as with _ | ⟨a, _ | ⟨b, _ | ⟨d, _ | ⟨e, as⟩⟩⟩⟩
  · exact q.elim
  · exact q.elim
  · exact q.elim
  · rw [rvs_cons] at w
    obtain ⟨x, vr, rfl, wa, w⟩ := w
    obtain ⟨y, z, rfl, wb, wd⟩ := rvs_two w
    exact ⟨x, y, z, rfl, nowS (fv := .nx (((σ.set i (some x)).set j (some y)).set l (some z))) q r (RS.set (RS.set (RS.set s wa) wb) wd)⟩
  · exact q.elim
/-! while -/
def mWhile (mc : MT) (mb : MS) : Nat → MS
  | 0 => fun _ _ => .bad
  | n + 1 => fun s t => (mc s t).bind fun b t1 => match b with
    | false => .ok (.nx s) t1
    | true => (mb s t1).bind fun fl t2 => match fl with
      | .nx s2 => mWhile mc mb n s2 t2
      | .ct s2 => mWhile mc mb n s2 t2
      | .bk s2 => .ok (.nx s2) t2
      | .rt a => .ok (.rt a) t2
theorem ss_while {e : Expr} {body : List Stmt} {pos : Pos} {mc : MT} {mb : MS} (n : Nat) (hp : PassesOwn (model X.prog X.w) X.A X.env X.xe) (h : ST c X e mc) (hb : SSs c X body mb) : SS c X (.While e body [] pos) (mWhile mc mb n) := by
  refine PS.imp (ps_while hp h hb) fun D σ H p => ?_
  refine ⟨fun m σ H => tS c X (mWhile mc mb m) D σ H, ⟨n, p⟩, ?_⟩
  intro m σ H p
  cases m with
  | zero => obtain ⟨_, _, _, _, _, p⟩ := p; exact p.elim
  | succ m =>
    refine tS.bind (R := RB) (m := mc) (k := fun s (b : Bool) t1 => match b with
      | false => .ok (.nx s) t1
      | true => (mb s t1).bind fun fl t2 => match fl with
        | .nx s2 => mWhile mc mb m s2 t2
        | .ct s2 => mWhile mc mb m s2 t2
        | .bk s2 => .ok (.nx s2) t2
        | .rt a => .ok (.rt a) t2) p fun ρ H1 σa a x t r s w q => ?_
    cases w
    cases a with
    | false => rw [if_neg Bool.false_ne_true]; exact nowS (fv := .nx σ) q r s
    | true =>
      rw [if_pos rfl]
      refine ⟨fun σ' H' => tS c X (mWhile mc mb m) D σ' H', fun σ' H' h => ⟨m, Nat.lt_succ_self m, h⟩, ρ, σa, t, r, s, ?_⟩
      refine Post.bind q fun fl t2 ρ' H' fv _ f r' w q' => ?_
      cases fl with
      | nx s2 =>
        cases fv with
        | nx σ' => exact ⟨ρ', s2, t2, r', w, q'⟩
        | _ => exact w.elim
      | ct s2 =>
        cases fv with
        | ct σ' => exact ⟨ρ', s2, t2, r', w, q'⟩
        | _ => exact w.elim
      | bk s2 =>
        cases fv with
        | bk σ' => exact nowS (fv := .nx σ') q' r' w
        | _ => exact w.elim
      | rt a =>
        cases fv with
        | rt v => exact nowS (D := D) (fl := .rt a) (fv := .rt v) q' r' w
        | _ => exact w.elim
/-! for -/
/-- what a loop walks: how many turns; the item of a turn, by the objects as they stand; whether it may end -/
structure ItM where
  n : Nat
  get : Nat → List O → Option A
  fin : List O → Bool
abbrev MI := Sl → List O → Res ItM
theorem Keep.refl {K : PySem.W.Frag} (ρ : List Addr) (H : Hp) : Keep K ρ H ρ H := ⟨⟨[], by simp⟩, fun _ _ h => h⟩
theorem Keep.trans {K : PySem.W.Frag} {ρ ρ1 ρ2 : List Addr} {H H1 H2 : Hp} (f : Keep K ρ H ρ1 H1) (g : Keep K ρ1 H1 ρ2 H2) : Keep K ρ H ρ2 H2 := by
  obtain ⟨m1, e1⟩ := f.ext
  obtain ⟨m2, e2⟩ := g.ext
  exact ⟨⟨m1 ++ m2, by rw [e2, e1, List.append_assoc]⟩, fun p vs h => g.tup p vs (f.tup p vs h)⟩
/-- what was locked stays locked -/
def FZ (H0 H : Hp) : Prop := ∀ a o u, H0 a = some (.frz o u) → H a = some (.frz o u)
def Lk (c : Cc) (K : PySem.W.Frag) (ρ0 : List Addr) (H0 : Hp) (J : It) (I : ItM) : Prop := ∀ ρ t H, Keep K ρ0 H0 ρ H → FZ H0 H → Rep K c.γ ρ (c.B ++ t) H →
  (∀ i a, i < I.n → I.get i (c.B ++ t) = some a → J.go i H ∧ ∀ x H', J.yld i H x H' → Fwd c.B.length ρ H ρ H' ∧ Rep K c.γ ρ (c.B ++ t) H' ∧ RV K c.γ ρ H' a x) ∧
  (I.fin (c.B ++ t) = true → J.stop I.n H)
def RIt (c : Cc) (K : PySem.W.Frag) (ρ : List Addr) (H : Hp) (I : ItM) (J : It) : Prop := Lk c K ρ H J I
def SI (c : Cc) (X : Cx) (tg iter : Expr) (m : MI) : Prop := PI X tg iter (fun σ H R => tM c X (RIt c X.K) m σ H R)
def mFor (B : List O) (I : ItM) (g : MG) (mb : MS) : Nat → MS
  | 0 => fun s t => if I.fin (B ++ t) = true then .ok (.nx s) t else .bad
  | k + 1 => fun s t => match I.get (I.n - (k + 1)) (B ++ t) with
    | none => .bad
    | some a => (g a s t).bind fun s1 t1 => (mb s1 t1).bind fun fl t2 => match fl with
      | .nx s2 => mFor B I g mb k s2 t2
      | .ct s2 => mFor B I g mb k s2 t2
      | .bk s2 => .ok (.nx s2) t2
      | .rt a => .ok (.rt a) t2
def mForS (B : List O) (mi : MI) (g : MG) (mb : MS) : MS := fun s t => (mi s t).bind fun I t1 => mFor B I g mb I.n s t1
theorem ss_for {tg iter : Expr} {body : List Stmt} {pos : Pos} {mi : MI} {g : TG} {f : MG} {mb : MS} (hp : PassesOwn (model X.prog X.w) X.A X.env X.xe) (hc : X.calm = true) (hi : SI c X tg iter mi) (hg : PG X tg g) (hf : GOk c X.K g f) (hb : SSs c X body mb)
    (hs : ∀ x, foldedSetIterable iter X.env x = pure x := by intro _; rfl) : SS c X (.For tg iter body [] pos) (mForS c.B mi f mb) := by
  refine PS.imp (ps_for hp hc hi hg hb hs) fun D σ H p => ?_
  refine tS.bind (R := RIt c X.K) (k := fun s I t1 => mFor c.B I f mb I.n s t1) p fun ρ H1 σa I J t r s lk q => ?_
  refine ⟨fun i m σ H => i + m = I.n ∧ ∃ ρ' σa t, Keep X.K ρ H1 ρ' H ∧ FZ H1 H ∧ Rep X.K c.γ ρ' (c.B ++ t) H ∧ RS X.K c.γ ρ' H σa σ ∧ Post X.K c.γ c.E c.B (RF X.K c.γ) (QD D) (mFor c.B I f mb m σa t) ρ' H,
    ⟨I.n, by omega, ρ, σa, t, Keep.refl _ _, fun _ _ _ h => h, r, s, q⟩, ?_⟩
  rintro i m σ H ⟨hi, ρ1, s1, t1, ex1, fz1, r1, rs1, q1⟩
  obtain ⟨l1, l2⟩ := lk ρ1 t1 H ex1 fz1 r1
  cases m with
  | zero =>
    unfold mFor at q1
    by_cases hfin : I.fin (c.B ++ t1) = true
    · rw [if_pos hfin] at q1
      have e : i = I.n := by omega
      subst e
      exact .inl ⟨l2 hfin, nowS (fv := .nx σ) q1 r1 rs1⟩
    · rw [if_neg hfin] at q1; exact q1.elim
  | succ m =>
    unfold mFor at q1
    have e : I.n - (m + 1) = i := by omega
    rw [e] at q1
    cases eg : I.get i (c.B ++ t1) with
    | none => rw [eg] at q1; exact q1.elim
    | some a =>
      rw [eg] at q1
      obtain ⟨go, yl⟩ := l1 i a (by omega) eg
      refine .inr ⟨go, fun σ' H' => ∃ ρ' σa t, Keep X.K ρ H1 ρ' H' ∧ FZ H1 H' ∧ Rep X.K c.γ ρ' (c.B ++ t) H' ∧ RS X.K c.γ ρ' H' σa σ' ∧ Post X.K c.γ c.E c.B (RF X.K c.γ) (QD D) (mFor c.B I f mb m σa t) ρ' H',
        fun σ' H' h => ⟨m, Nat.lt_succ_self m, by omega, h⟩, fun x H' y => ?_⟩
      obtain ⟨fw, r2, w⟩ := yl x H' y
      refine hf ρ1 t1 H' σ s1 x a _ r2 (RS.mono (r1.keep fw) _ _ rs1) w (Post.bind (Post.fwd q1 fw) fun s2 t2 ρ3 H3 σ3 _ f3 r3 w3 q3 => ?_)
      refine ⟨ρ3, s2, t2, r3, w3, Post.bind q3 fun fl t4 ρ4 H4 fv _ f4 r4 w4 q4 => ?_⟩
      have ex4 : Keep X.K ρ H1 ρ4 H4 := ex1.trans ((r1.keep fw).trans ((r2.keep f3).trans (r3.keep f4)))
      have fz4 : FZ H1 H4 := fun a o u h => f4.frz a o u (f3.frz a o u (fw.frz a o u (fz1 a o u h)))
      cases fl with
      | nx s2 =>
        cases fv with
        | nx σ' => exact ⟨ρ4, s2, t4, ex4, fz4, r4, w4, q4⟩
        | _ => exact w4.elim
      | ct s2 =>
        cases fv with
        | ct σ' => exact ⟨ρ4, s2, t4, ex4, fz4, r4, w4, q4⟩
        | _ => exact w4.elim
      | bk s2 =>
        cases fv with
        | bk σ' => exact nowS (fv := .nx σ') q4 r4 w4
        | _ => exact w4.elim
      | rt a =>
        cases fv with
        | rt v => exact nowS (D := D) (fl := .rt a) (fv := .rt v) q4 r4 w4
        | _ => exact w4.elim
end
end Ev
end
section
set_option Elab.async false
set_option linter.all false
set_option maxRecDepth 100000
set_option maxHeartbeats 400000
/-! What is walked; comprehensions. -/
namespace Ev
open PySem PySem.Spec PyProof.Rows L2
section
variable {c : Cc} {X : Cx} {K : PySem.W.Frag} {tg : Expr}
theorem PI.imp {it : Expr} {w w' : TI} (h : PI X tg it w) (f : ∀ σ H R, w' σ H R → w σ H R) : PI X tg it w' := ⟨fun pins s σ H R I q => h.run pins s σ H R I (f _ _ _ q)⟩
/-- a list or a tuple -/
theorem pi_seq {l : Expr} {tl : TE} (hl : PE X l tl) : PI X tg l (fun σ H R => tl σ H fun x H1 => ∃ a, x = .ref a ∧ (((∃ xs, SqL X.K H1 a xs) ∧ R (Itl X.K a) H1) ∨ ((∃ xs, SqT X.K H1 a xs) ∧ R (Itt X.K a) H1))) := by
  refine ⟨fun pins s σ H R I h => ?_⟩
  refine thn (hl.run pins s σ H _ I h) fun v s1 ⟨x, H1, I1, r1, q1⟩ => ?_
  obtain ⟨a, e, ⟨⟨xs, hq⟩, q⟩ | ⟨⟨xs, hq⟩, q⟩⟩ := q1
  · subst e
    cases r1
    obtain ⟨its, rv, p, hz⟩ := I1.list hq
    refine wpAny_pyIter_list p.isList ?_
    refine ⟨s1.heap.objs.size, [s1.heap.objs.size], _, _, H1, rfl, I1.kept (t' := s1.toks) fun b o e => Heap.get?_push_of_some _ e, turn_list a _, ⟨_, Heap.get?_push_size _ rfl, rfl, rfl⟩, fun b hb => ?_, q⟩
    have e : b = s1.heap.objs.size := by simpa using hb
    subst e
    exact I1.fpOk (Nat.le_refl _) (I1.hok.fresh (Nat.le_refl _))
  · subst e
    cases r1
    obtain ⟨its, rv, p, hz⟩ := I1.tuple hq
    refine wpAny_pyIter_tuple (show s1.heap.IsTuple a its.toArray from p) ?_
    refine ⟨s1.heap.objs.size, [s1.heap.objs.size], _, _, H1, rfl, I1.kept (t' := s1.toks) fun b o e => Heap.get?_push_of_some _ e, turn_tuple a _, ⟨_, Heap.get?_push_size _ rfl, rfl, rfl⟩, fun b hb => ?_, q⟩
    have e : b = s1.heap.objs.size := by simpa using hb
    subst e
    exact I1.fpOk (Nat.le_refl _) (I1.hok.fresh (Nat.le_refl _))
/-- items that stand still -/
def itL (xs : List A) : ItM := ⟨xs.length, fun i _ => xs[i]?, fun _ => true⟩
/-- a list that is looked at again at each turn -/
def itR (n len : Nat) : ItM := ⟨len, fun i hp => (rdL hp n).bind fun xs => xs[i]?, fun hp => match rdL hp n with
  | some xs => decide (xs.length ≤ len)
  | none => false⟩
theorem lk_list {ρ : List Addr} {H : Hp} {n len : Nat} {a : Addr} (w : RV K c.γ ρ H (.ref n) (.ref a)) : Lk c K ρ H (Itl K a) (itR n len) := by
  intro ρ1 t1 H1 kp fz r
  have w1 := RV.mono kp _ _ w
  refine ⟨fun i y hi hg => ?_, fun hf => ?_⟩
  · obtain ⟨xs, e1, e2⟩ := Option.bind_eq_some_iff.mp hg
    obtain ⟨b, vs, eb, hs, wv⟩ := rdL_ok r w1 e1
    cases eb
    obtain ⟨v, hv, wy⟩ := wv.get e2
    refine ⟨⟨vs, v, hs, hv⟩, fun x H' hy => ?_⟩
    obtain ⟨rfl, hy⟩ := hy
    have e3 := hy vs hs
    rw [hv] at e3
    cases e3
    exact ⟨Fwd.refl _ _, r, wy⟩
  · have hf' : (match rdL (c.B ++ t1) n with
      | some xs => decide (xs.length ≤ len)
      | none => false) = true := hf
    cases e1 : rdL (c.B ++ t1) n with
    | none => rw [e1] at hf'; cases hf'
    | some xs =>
      rw [e1] at hf'
      obtain ⟨b, vs, eb, hs, wv⟩ := rdL_ok r w1 e1
      cases eb
      exact ⟨vs, hs, by rw [wv.length]; exact of_decide_eq_true hf'⟩
theorem lk_tup {ρ : List Addr} {H : Hp} {xs : List A} {vs : List V} {a : Addr} (w : RVs K c.γ ρ H xs vs) (hs : ∀ ρ' H', Keep K ρ H ρ' H' → SqT K H' a vs) : Lk c K ρ H (Itt K a) (itL xs) := by
  intro ρ1 t1 H1 kp fz r
  refine ⟨fun i y hi hg => ?_, fun _ => ⟨vs, hs _ _ kp, by rw [w.length]; exact Nat.le_refl _⟩⟩
  obtain ⟨v, hv, wy⟩ := (RVs.mono kp _ _ w).get hg
  refine ⟨⟨vs, v, hs _ _ kp, hv⟩, fun x H' hy => ?_⟩
  obtain ⟨rfl, hy⟩ := hy
  have e3 := hy vs (hs _ _ kp)
  rw [hv] at e3
  cases e3
  exact ⟨Fwd.refl _ _, r, wy⟩
def mISeq (B : List O) (ma : ME) : MI := fun s t => (ma s t).bind fun a t1 => match a with
  | .tup xs => .ok (itL xs) t1
  | .ktup xs => .ok (itL xs) t1
  | .ref n => (match rdL (B ++ t1) n with
    | some xs => .ok (itR n xs.length) t1
    | none => .bad)
  | _ => .bad
theorem si_seq {e : Expr} {ma : ME} (h : SE c X e ma) : SI c X tg e (mISeq c.B ma) := by
  refine PI.imp (pi_seq h) fun σ H R p => ?_
  refine tM.bind (R := RV X.K c.γ) (m := ma) (k := fun _ (a : A) t1 => match a with
    | .tup xs => .ok (itL xs) t1
    | .ktup xs => .ok (itL xs) t1
    | .ref n => (match rdL (c.B ++ t1) n with
      | some xs => .ok (itR n xs.length) t1
      | none => .bad)
    | _ => .bad) p fun ρ H1 σa a x t r s w q => ?_
  cases a with
  | tup xs =>
    rw [rv_tup] at w
    obtain ⟨b, vs, rfl, hb, wv⟩ := w
    exact ⟨b, rfl, .inr ⟨⟨vs, SqT.of hb⟩, Post.now (b := Itt X.K b) q r (lk_tup wv fun _ _ k => SqT.of (k.tup _ _ hb))⟩⟩
  | ktup xs =>
    rw [rv_ktup] at w
    obtain ⟨b, vs, rfl, hb, wv⟩ := w
    exact ⟨b, rfl, .inr ⟨⟨vs, SqT.ofK hb⟩, Post.now (b := Itt X.K b) q r (lk_tup wv fun _ _ k => SqT.ofK hb)⟩⟩
  | ref n =>
    cases e1 : rdL (c.B ++ t) n with
    | none => simp only [e1] at q; exact q.elim
    | some xs =>
      simp only [e1] at q
      obtain ⟨b, vs, rfl, hs, wv⟩ := rdL_ok r w e1
      exact ⟨b, rfl, .inl ⟨⟨vs, hs⟩, Post.now (b := Itl X.K b) q r (lk_list w)⟩⟩
  | _ => exact q.elim
/-! texts, ranges -/
def signs (z : Str) : List A := z.cps.toList.map fun k => .str ⟨#[k]⟩
def mIStr (ma : ME) : MI := fun s t => (ma s t).bind fun a t1 => match a with
  | .str z => .ok (itL (signs z)) t1
  | _ => .bad
theorem si_str {e : Expr} {ma : ME} (h : SE c X e ma) : SI c X tg e (mIStr ma) := by
  refine PI.imp (pi_str h) fun σ H R p => ?_
  refine tM.bind (R := RV X.K c.γ) (m := ma) (k := fun _ (a : A) t1 => match a with
    | .str z => .ok (itL (signs z)) t1
    | _ => .bad) p fun ρ H1 σa a x t r s w q => ?_
  cases a with
  | str z =>
    rw [rv_str] at w
    refine ⟨z, w, Post.now (b := Its z) q r ?_⟩
    have hl : (signs z).length = z.cps.size := by simp [signs]
    intro ρ1 t1 H2 kp fz r1
    refine ⟨fun i y hi hg => ⟨?_, fun x H' hy => ?_⟩, fun _ => ?_⟩
    · show i < z.cps.size
      rw [← hl]; exact hi
    · obtain ⟨rfl, k, hk, rfl⟩ := hy
      refine ⟨Fwd.refl _ _, r1, ?_⟩
      have hg' : (signs z)[i]? = some y := hg
      unfold signs at hg'
      rw [List.getElem?_map, Array.getElem?_toList, hk] at hg'
      cases hg'
      rw [rv_str]
    · show z.cps.size ≤ (signs z).length
      rw [hl]; exact Nat.le_refl _
  | _ => exact q.elim
def rgA (lo : Int) (n : Nat) : List A := (List.range n).map fun i => .int (lo + (i : Nat))
theorem lk_range {ρ : List Addr} {H : Hp} {lo : Int} {n : Nat} : Lk c K ρ H (Itr lo n) (itL (rgA lo n)) := by
  have hl : (rgA lo n).length = n := by simp [rgA]
  intro ρ1 t1 H2 kp fz r1
  refine ⟨fun i y hi hg => ⟨?_, fun x H' hy => ?_⟩, fun _ => ?_⟩
  · show i < n
    have hi' : i < (rgA lo n).length := hi
    rw [hl] at hi'; exact hi'
  · obtain ⟨rfl, rfl⟩ := hy
    refine ⟨Fwd.refl _ _, r1, ?_⟩
    have hi' : i < (rgA lo n).length := hi
    rw [hl] at hi'
    have hg' : (rgA lo n)[i]? = some y := hg
    unfold rgA at hg'
    rw [List.getElem?_map, List.getElem?_range hi'] at hg'
    cases hg'
    rw [rv_int]
  · show n ≤ (rgA lo n).length
    rw [hl]; exact Nat.le_refl _
def smallI (j : Int) : Bool := decide (-(2 ^ 62) ≤ j) && decide (j < 2 ^ 62)
theorem smallI_ok {j : Int} (h : smallI j = true) : -(2 ^ 62) ≤ j ∧ j < 2 ^ 62 := by
  unfold smallI at h
  rw [Bool.and_eq_true] at h
  exact ⟨of_decide_eq_true h.1, of_decide_eq_true h.2⟩
def rng1 : List A → List O → Res ItM
  | [.int j], t1 => if smallI j = true then .ok (itL (rgA 0 j.toNat)) t1 else .bad
  | _, _ => .bad
def rng2 : List A → List O → Res ItM
  | [.int i, .int j], t1 => if (smallI i && smallI j) = true then .ok (itL (rgA i (j - i).toNat)) t1 else .bad
  | _, _ => .bad
def mIRng1 (ma : MA) : MI := fun s t => (ma s t).bind rng1
def mIRng2 (ma : MA) : MI := fun s t => (ma s t).bind rng2
theorem si_range1 {a : Expr} {p pos : Pos} {ma : MA} (hg : Gl X "range") (hm : X.mg "range" = none) (ha : SA c X [a] ma) (hs : starEach [a] X.env = [(false, eval a X.env)] := by rfl) : SI c X tg (.Call (.Name "range" p) [a] [] pos) (mIRng1 ma) := by
  refine PI.imp (pi_range1 hg hm ha hs) fun σ H R p => ?_
  refine tM.bind (R := RVs X.K c.γ) (m := ma) (k := fun _ (as : List A) t1 => rng1 as t1) p fun ρ H1 σa as xs t r s w q => ?_
  rcases as with _ | ⟨a, _ | ⟨b, as⟩⟩
  · exact q.elim
  · cases a with
    | int j =>
      rw [rng1] at q
      by_cases h : smallI j = true
      · rw [if_pos h] at q
        rw [rvs_cons] at w
        obtain ⟨v, vr, rfl, w1, w2⟩ := w
        rw [rvs_nil] at w2
        rw [rv_int] at w1
        subst w1 w2
        exact ⟨j, rfl, (smallI_ok h).1, (smallI_ok h).2, Post.now (b := Itr 0 j.toNat) q r lk_range⟩
      · rw [if_neg h] at q; exact q.elim
    | _ => exact q.elim
  · cases a <;> exact q.elim
theorem si_range2 {a b : Expr} {p pos : Pos} {ma : MA} (hg : Gl X "range") (hm : X.mg "range" = none) (ha : SA c X [a, b] ma) (hs : starEach [a, b] X.env = [(false, eval a X.env), (false, eval b X.env)] := by rfl) (hs2 : starEach [b] X.env = [(false, eval b X.env)] := by rfl) : SI c X tg (.Call (.Name "range" p) [a, b] [] pos) (mIRng2 ma) := by
  refine PI.imp (pi_range2 hg hm ha hs hs2) fun σ H R p => ?_
  refine tM.bind (R := RVs X.K c.γ) (m := ma) (k := fun _ (as : List A) t1 => rng2 as t1) p fun ρ H1 σa as xs t r s w q => ?_
  rcases as with _ | ⟨a, _ | ⟨b, _ | ⟨d, as⟩⟩⟩
  · exact q.elim
  · cases a <;> exact q.elim
  · cases a with
    | int i =>
      cases b with
      | int j =>
        rw [rng2] at q
        by_cases h : (smallI i && smallI j) = true
        · rw [if_pos h] at q
          obtain ⟨x, y, rfl, wa, wb⟩ := rvs_two w
          rw [rv_int] at wa wb
          subst wa wb
          rw [Bool.and_eq_true] at h
          exact ⟨i, j, rfl, ⟨(smallI_ok h.1).1, (smallI_ok h.1).2, (smallI_ok h.2).1, (smallI_ok h.2).2⟩, Post.now (b := Itr i (j - i).toNat) q r lk_range⟩
        · rw [if_neg h] at q; exact q.elim
      | _ => exact q.elim
    | _ => exact q.elim
  · cases a <;> cases b <;> exact q.elim
/-! a locked dict -/
def keyA : Key → A
  | .inl i => .int i
  | .inr x => .str x
theorem rv_key {ρ : List Addr} {H : Hp} {k : Key} : RV K c.γ ρ H (keyA k) (kV k) := by
  cases k with
  | inl i => show RV _ _ _ _ (.int i) _; rw [rv_int]; rfl
  | inr x => show RV _ _ _ _ (.str x) _; rw [rv_str]; rfl
theorem RKs.get {κ : Type} {ρ : List Addr} {H : Hp} : ∀ {kvs : List (κ × A)} {vs : List (κ × V)} {i : Nat} {k : κ} {a : A}, RKs K c.γ ρ H kvs vs → kvs[i]? = some (k, a) → ∃ v, vs[i]? = some (k, v) ∧ RV K c.γ ρ H a v
  | [], _, _, _, _, _, e => by simp at e
  | x :: xs, vs, 0, k, a, h, e => by
    obtain ⟨v, r, rfl, q, _⟩ := h
    have e' : x = (k, a) := by simpa using e
    subst e'
    exact ⟨v, rfl, q⟩
  | x :: xs, vs, i + 1, k, a, h, e => by
    obtain ⟨v, r, rfl, _, q⟩ := h
    obtain ⟨u, e1, e2⟩ := RKs.get (i := i) q (by simpa using e)
    exact ⟨u, by simpa using e1, e2⟩
/-- the object at n is a locked dict -/
def rdF (hp : List O) (n : Nat) : Option (List (Key × A)) := match hp[n]? with
  | some (.fz kvs) => some kvs
  | _ => none
theorem rdF_ok {ρ : List Addr} {H : Hp} {hp : List O} {n : Nat} {v : V} {kvs : List (Key × A)} (r : Rep K c.γ ρ hp H) (w : RV K c.γ ρ H (.ref n) v) (e : rdF hp n = some kvs) : ∃ a o vs, v = .ref a ∧ H a = some (.frz o (.dK vs)) ∧ RKs K c.γ ρ H kvs vs := by
  unfold rdF at e
  cases h : hp[n]? with
  | none => rw [h] at e; cases e
  | some ob =>
    rw [h] at e
    cases ob with
    | fz xs =>
      cases e
      rw [rv_ref] at w
      obtain ⟨a, ha, rfl⟩ := w
      obtain ⟨o, vs, e1, e2⟩ := r.ob n a _ ha h
      exact ⟨a, o, vs, rfl, e1, e2⟩
    | _ => cases e
theorem lk_keys {ρ : List Addr} {H : Hp} {a : Addr} {o : Obj} {kvs : List (Key × A)} {vs : List (Key × V)} (e : H a = some (.frz o (.dK vs))) (w : RKs K c.γ ρ H kvs vs) : Lk c K ρ H (Itk a o vs) (itL (kvs.map fun x => keyA x.1)) := by
  intro ρ1 t1 H1 kp fz r
  have hl := w.length
  have e1 := fz _ _ _ e
  refine ⟨fun i y hi hg => ⟨⟨e1, ?_⟩, fun x H' hy => ?_⟩, fun _ => ⟨e1, ?_⟩⟩
  · have hi' : i < (kvs.map fun x => keyA x.1).length := hi
    rw [List.length_map] at hi'; omega
  · obtain ⟨rfl, k, v, hk, rfl⟩ := hy
    have hg' : (kvs.map fun x => keyA x.1)[i]? = some y := hg
    rw [List.getElem?_map] at hg'
    cases h : kvs[i]? with
    | none => rw [h] at hg'; cases hg'
    | some p =>
      rw [h] at hg'
      cases hg'
      obtain ⟨u, e2, _⟩ := w.get (k := p.1) (a := p.2) h
      rw [hk] at e2
      cases e2
      exact ⟨Fwd.refl _ _, r, rv_key⟩
  · show vs.length ≤ (kvs.map fun x => keyA x.1).length
    rw [List.length_map]; omega
theorem lk_vals {ρ : List Addr} {H : Hp} {a : Addr} {o : Obj} {kvs : List (Key × A)} {vs : List (Key × V)} (e : H a = some (.frz o (.dK vs))) (w : RKs K c.γ ρ H kvs vs) : Lk c K ρ H (Itd a o vs) (itL (kvs.map fun x => x.2)) := by
  intro ρ1 t1 H1 kp fz r
  have hl := w.length
  have e1 := fz _ _ _ e
  refine ⟨fun i y hi hg => ⟨⟨e1, ?_⟩, fun x H' hy => ?_⟩, fun _ => ⟨e1, ?_⟩⟩
  · have hi' : i < (kvs.map fun x => x.2).length := hi
    rw [List.length_map] at hi'; omega
  · obtain ⟨rfl, k, hk⟩ := hy
    have hg' : (kvs.map fun x => x.2)[i]? = some y := hg
    rw [List.getElem?_map] at hg'
    cases h : kvs[i]? with
    | none => rw [h] at hg'; cases hg'
    | some p =>
      rw [h] at hg'
      cases hg'
      obtain ⟨u, e2, wu⟩ := w.get (k := p.1) (a := p.2) h
      rw [hk] at e2
      cases e2
      exact ⟨Fwd.refl _ _, r, RV.mono kp _ _ wu⟩
  · show vs.length ≤ (kvs.map fun x => x.2).length
    rw [List.length_map]; omega
theorem lk_items {ρ : List Addr} {H : Hp} {a : Addr} {o : Obj} {kvs : List (Key × A)} {vs : List (Key × V)} (e : H a = some (.frz o (.dK vs))) (w : RKs K c.γ ρ H kvs vs) : Lk c K ρ H (Iti a o vs) (itL (kvs.map fun x => .tup [keyA x.1, x.2])) := by
  intro ρ1 t1 H1 kp fz r
  have hl := w.length
  have e1 := fz _ _ _ e
  refine ⟨fun i y hi hg => ⟨⟨e1, ?_⟩, fun x H' hy => ?_⟩, fun _ => ⟨e1, ?_⟩⟩
  · have hi' : i < (kvs.map fun x => A.tup [keyA x.1, x.2]).length := hi
    rw [List.length_map] at hi'; omega
  · obtain ⟨T, k, v, hk, rfl, hT, rfl⟩ := hy
    have hg' : (kvs.map fun x => A.tup [keyA x.1, x.2])[i]? = some y := hg
    rw [List.getElem?_map] at hg'
    cases h : kvs[i]? with
    | none => rw [h] at hg'; cases hg'
    | some p =>
      rw [h] at hg'
      cases hg'
      obtain ⟨u, e2, wu⟩ := w.get (k := p.1) (a := p.2) h
      rw [hk] at e2
      cases e2
      obtain ⟨r', f⟩ := r.junk (nb := c.B.length) (o' := .tup [kV p.1, v]) hT
      refine ⟨f, r', ?_⟩
      rw [rv_tup]
      refine ⟨T, _, rfl, upd_same, ?_⟩
      rw [rvs_cons]
      refine ⟨_, _, rfl, rv_key, ?_⟩
      rw [rvs_cons]
      exact ⟨_, _, rfl, RV.mono (kp.trans (r.keep f)) _ _ wu, by rw [rvs_nil]⟩
  · show vs.length ≤ (kvs.map fun x => A.tup [keyA x.1, x.2]).length
    rw [List.length_map]; omega
def onF (B : List O) (f : List (Key × A) → List A) : A → List O → Res ItM
  | .ref n, t => (match rdF (B ++ t) n with
    | some kvs => .ok (itL (f kvs)) t
    | none => .bad)
  | _, _ => .bad
def mIF (B : List O) (f : List (Key × A) → List A) (ma : ME) : MI := fun s t => (ma s t).bind (onF B f)
def ksA (kvs : List (Key × A)) : List A := kvs.map fun x => keyA x.1
def vsA (kvs : List (Key × A)) : List A := kvs.map fun x => x.2
def isA (kvs : List (Key × A)) : List A := kvs.map fun x => .tup [keyA x.1, x.2]
theorem onF_ok {f : List (Key × A) → List A} {ρ : List Addr} {H : Hp} {R : It → Hp → Prop} {J : Addr → Obj → List (Key × V) → It} {a : A} {x : V} {t : List O} (r : Rep X.K c.γ ρ (c.B ++ t) H) (w : RV X.K c.γ ρ H a x) (q : Post X.K c.γ c.E c.B (RIt c X.K) R (onF c.B f a t) ρ H)
    (lk : ∀ a o kvs vs, H a = some (.frz o (.dK vs)) → RKs X.K c.γ ρ H kvs vs → Lk c X.K ρ H (J a o vs) (itL (f kvs))) : ∃ d o vs, x = .ref d ∧ H d = some (.frz o (.dK vs)) ∧ R (J d o vs) H := by
  cases a with
  | ref n =>
    unfold onF at q
    cases e1 : rdF (c.B ++ t) n with
    | none => simp only [e1] at q; exact q.elim
    | some kvs =>
      simp only [e1] at q
      obtain ⟨d, o, vs, rfl, hd, wk⟩ := rdF_ok r w e1
      exact ⟨d, o, vs, rfl, hd, Post.now (b := J d o vs) q r (lk d o kvs vs hd wk)⟩
  | _ => exact q.elim
/-- for k in d -/
theorem si_keys {e : Expr} {ma : ME} (h : SE c X e ma) : SI c X tg e (mIF c.B ksA ma) := by
  refine PI.imp (pi_keys h) fun σ H R p => ?_
  refine tM.bind (R := RV X.K c.γ) (m := ma) (k := fun _ (a : A) t1 => onF c.B ksA a t1) p fun ρ H1 σa a x t r s w q => ?_
  obtain ⟨d, o, vs, e1, e2, e3⟩ := onF_ok (J := Itk) r w q fun a o kvs vs e w => lk_keys e w
  exact ⟨d, o, e1, .inl ⟨vs, e2, e3⟩⟩
theorem si_vals {e : Expr} {apos cpos : Pos} {ma : ME} (h : SE c X e ma) (hbase : attributeBase e "values" X.env (eval e X.env) = eval e X.env := by rfl) (hline : (apos.endLine == cpos.line) = true := by rfl) : SI c X tg (.Call (.Attribute e "values" apos) [] [] cpos) (mIF c.B vsA ma) := by
  refine PI.imp (pi_values h hbase hline) fun σ H R p => ?_
  refine tM.bind (R := RV X.K c.γ) (m := ma) (k := fun _ (a : A) t1 => onF c.B vsA a t1) p fun ρ H1 σa a x t r s w q => ?_
  exact onF_ok (J := Itd) r w q fun a o kvs vs e w => lk_vals e w
theorem si_items {e : Expr} {elts : List Expr} {kk : Nat} {tpos apos cpos : Pos} {ma : ME} (h : SE c X e ma) (hbase : attributeBase e "items" X.env (eval e X.env) = eval e X.env := by rfl) (hline : (apos.endLine == cpos.line) = true := by rfl) : SI c X (.Tuple elts kk tpos) (.Call (.Attribute e "items" apos) [] [] cpos) (mIF c.B isA ma) := by
  refine PI.imp (pi_items h hbase hline) fun σ H R p => ?_
  refine tM.bind (R := RV X.K c.γ) (m := ma) (k := fun _ (a : A) t1 => onF c.B isA a t1) p fun ρ H1 σa a x t r s w q => ?_
  exact onF_ok (J := Iti) r w q fun a o kvs vs e w => lk_items e w
/-! a dict is locked while a statement runs -/
/-- the object at i is exchanged -/
theorem Rep.put {ρ : List Addr} {hp : List O} {H : Hp} {γ : Gm} (R : Rep K γ ρ hp H) {i : Nat} {a : Addr} (hi : ρ[i]? = some a) {o : O} {o' : HO} (h : ∀ H', Keep K ρ H ρ H' → H' a = some o' → RO K γ ρ H' o a) :
    Rep K γ ρ (hp.set i o) (upd H a o') ∧ Keep K ρ H ρ (upd H a o') := by
  have hm : a ∈ ρ := List.mem_of_getElem? hi
  obtain ⟨u0, e0, t0⟩ := R.obj hm
  have kp : Keep K ρ H ρ (upd H a o') := ⟨⟨[], by simp⟩, fun q vs hq => tup_upd (fun u e => by rw [e0] at e; cases e; exact t0) hq⟩
  have ne : ∀ b, b ≠ a → upd H a o' b = H b := fun b hb => upd_ne hb
  refine ⟨⟨by simp [R.len], R.nd, fun j b oo hj ho => ?_, tabs_upd R.tab fun u e => by rw [e0] at e; cases e; exact t0⟩, kp⟩
  by_cases q : j = i
  · subst q
    rw [hi] at hj
    cases hj
    have hl : j < hp.length := by rw [← R.len]; exact (List.getElem?_eq_some_iff.mp hi).1
    rw [List.getElem?_set_self hl] at ho
    cases ho
    exact h _ kp upd_same
  · rw [List.getElem?_set_ne (fun z => q z.symm)] at ho
    have nb : b ≠ a := by
      rintro rfl
      exact q (nd_inj R.nd hj hi)
    exact RO.mono kp (fun u e => by rw [ne b nb]; exact e) (R.ob j b oo hj ho)
/-- which dict of ours, not locked, a value is -/
def lkAt (B t : List O) : Res A → Option (Nat × List (Key × A))
  | .ok (.ref n) _ => if n < B.length then none else (match t[n - B.length]? with
    | some (.dic kvs) => some (n - B.length, kvs)
    | _ => none)
  | _ => none
theorem lkAt_ok {B t : List O} {r : Res A} {k : Nat} {kvs : List (Key × A)} (h : lkAt B t r = some (k, kvs)) : t[k]? = some (.dic kvs) := by
  unfold lkAt at h
  split at h
  · split at h
    · cases h
    · split at h
      · cases h; assumption
      · cases h
  · cases h
def Res.back {α : Type} (r : Res α) (k : Nat) (o : O) : Res α := match r with
  | .ok a t => .ok a (t.set k o)
  | .exc c fs t => .exc c fs t
  | .bad => .bad
def mLock {α : Type} (B : List O) (me : ME) (m : Sl → List O → Res α) : Sl → List O → Res α := fun s t => match lkAt B t (me s t) with
  | some (k, kvs) => (m s (t.set k (.fz kvs))).back k (.dic kvs)
  | none => m s t
theorem lock_ok {α β : Type} {R : List Addr → Hp → α → β → Prop} (hR : ∀ ρ H H' a b, Keep X.K ρ H ρ H' → R ρ H a b → R ρ H' a b) {Q : β → Hp → Prop} {ρ : List Addr} {H : Hp} {t : List O} {k : Nat} {kvs : List (Key × A)} {r : Res α}
    (rp : Rep X.K c.γ ρ (c.B ++ t) H) (hk : t[k]? = some (.dic kvs)) (p : Post X.K c.γ c.E c.B R Q (r.back k (.dic kvs)) ρ H) :
    ∃ a vs, H a = some (.dK vs) ∧ ∀ od, Rep X.K c.γ ρ (c.B ++ t.set k (.fz kvs)) (upd H a (.frz od (.dK vs))) ∧ Keep X.K ρ H ρ (upd H a (.frz od (.dK vs))) ∧
      Post X.K c.γ c.E c.B R (fun b H' => H' a = some (.frz od (.dK vs)) ∧ Q b (upd H' a (.dK vs))) r ρ (upd H a (.frz od (.dK vs))) := by
  have hl : k < t.length := (List.getElem?_eq_some_iff.mp hk).1
  have hl2 : c.B.length + k < ρ.length := by rw [rp.len, List.length_append]; omega
  obtain ⟨a, ha⟩ : ∃ a, ρ[c.B.length + k]? = some a := ⟨ρ[c.B.length + k], by simp [hl2]⟩
  have ho : (c.B ++ t)[c.B.length + k]? = some (.dic kvs) := by rw [List.getElem?_append_right (by omega)]; simpa using hk
  obtain ⟨vs, e1, w⟩ := rp.ob _ a _ ha ho
  refine ⟨a, vs, e1, fun od => ?_⟩
  obtain ⟨rl, kl⟩ := rp.put (i := c.B.length + k) ha (o := .fz kvs) (o' := .frz od (.dK vs)) (fun H' kp e => ⟨od, vs, e, RKs.mono kp _ _ w⟩)
  rw [set_top (by omega), Nat.add_sub_cancel_left] at rl
  have hm : a ∈ ρ := List.mem_of_getElem? ha
  have ne : ∀ {H : Hp} {o} b, b ≠ a → upd H a o b = H b := fun b hb => upd_ne hb
  refine ⟨rl, kl, ?_⟩
  cases r with
  | bad => exact p
  | exc C fs t2 =>
    intro ρ' H' C' d vs' f r' hc hd w'
    refine p ρ' H' C' d vs' ⟨f.ext, fun b hb hn => ?_, fun b o h hn hz => ?_, fun b o h hz => ?_, fun b o u h => ?_, fun n b hn hb => ?_⟩ r' hc hd w'
    · have := f.new b hb hn
      rw [ne b (fun z => hn (z ▸ hm))] at this; exact this
    · exact f.kept b o (by rw [ne b (fun z => hn (z ▸ hm))]; exact h) hn hz
    · have nb : b ≠ a := by
        rintro rfl
        rw [e1] at h; cases h; cases hz
      exact f.occ b o (by rw [ne b nb]; exact h) hz
    · have nb : b ≠ a := by
        rintro rfl
        rw [e1] at h; cases h
      exact f.frz b o u (by rw [ne b nb]; exact h)
    · have nb : b ≠ a := by
        rintro rfl
        have := nd_inj rp.nd hb ha
        omega
      rw [f.bs n b hn hb, ne b nb]
  | ok x t2 =>
    intro ρ' H' b f r' w'
    have hf := f.frz a od _ upd_same
    refine ⟨hf, ?_⟩
    obtain ⟨m, hρ⟩ := f.ext
    have ha' : ρ'[c.B.length + k]? = some a := by rw [hρ, List.getElem?_append_left hl2]; exact ha
    have kf := rl.keep f
    obtain ⟨rb, kb⟩ := r'.put (i := c.B.length + k) ha' (o := .dic kvs) (o' := .dK vs) (fun H2 kp e => ⟨vs, e, RKs.mono (kl.trans (kf.trans kp)) _ _ w⟩)
    rw [set_top (by omega), Nat.add_sub_cancel_left] at rb
    refine p ρ' _ b ⟨f.ext, fun b hb hn => ?_, fun b o h hn hz => ?_, fun b o h hz => ?_, fun b o u h => ?_, fun n b hn hb => ?_⟩ rb (hR _ _ _ _ _ kb w')
    · have := f.new b hb hn
      rw [ne b (fun z => hn (z ▸ hm))] at this; exact this
    · rw [ne b (fun z => hn (z ▸ hm))]
      exact f.kept b o (by rw [ne b (fun z => hn (z ▸ hm))]; exact h) hn hz
    · have nb : b ≠ a := by
        rintro rfl
        rw [e1] at h; cases h; cases hz
      obtain ⟨o', h', z'⟩ := f.occ b o (by rw [ne b nb]; exact h) hz
      exact ⟨o', by rw [ne b nb]; exact h', z'⟩
    · have nb : b ≠ a := by
        rintro rfl
        rw [e1] at h; cases h
      rw [ne b nb]
      exact f.frz b o u (by rw [ne b nb]; exact h)
    · have nb : b ≠ a := by
        rintro rfl
        have := nd_inj rp.nd hb ha
        omega
      rw [ne b nb, f.bs n b hn hb, ne b nb]
theorem se_lock {e : Expr} {me m : ME} (h : SE c X e m) : SE c X e (mLock c.B me m) := by
  have h2 : PE X e (fun σ H Q => tM c X (RV X.K c.γ) m σ H Q ∨ tLockE (tM c X (RV X.K c.γ) m) σ H Q) := ⟨fun pins s σ H Q I q => q.elim (h.run pins s σ H Q I) ((pe_lock h).run pins s σ H Q I)⟩
  refine PE.imp h2 fun σ H Q ⟨ρ, σa, t, r, s, p⟩ => ?_
  unfold mLock at p
  cases e1 : lkAt c.B t (me σa t) with
  | none => rw [e1] at p; exact .inl ⟨ρ, σa, t, r, s, p⟩
  | some kk =>
    obtain ⟨k, kvs⟩ := kk
    rw [e1] at p
    obtain ⟨a, vs, ha, q⟩ := lock_ok (R := RV X.K c.γ) (fun _ _ _ a b kp h => RV.mono kp a b h) r (lkAt_ok e1) p
    exact .inr ⟨a, .dK vs, ha, trivial, fun od => ⟨ρ, σa, _, (q od).1, RS.mono (q od).2.1 _ _ s, (q od).2.2⟩⟩
theorem RF.mono {ρ ρ' : List Addr} {H H' : Hp} (f : Keep K ρ H ρ' H') (a : Fl) (v : FV) (h : RF K c.γ ρ H a v) : RF K c.γ ρ' H' a v := by
  cases a <;> cases v <;> first | exact RS.mono f _ _ h | exact RV.mono f _ _ h | exact h.elim
theorem ss_lock {e : Stmt} {me : ME} {m : MS} (h : SS c X e m) : SS c X e (mLock c.B me m) := by
  have h2 : PS X e (fun D σ H => tS c X m D σ H ∨ tLock (tS c X m) D σ H) := ⟨fun pins s σ H Q I q => q.elim (h.run pins s σ H Q I) ((ps_lock h).run pins s σ H Q I)⟩
  refine PS.imp h2 fun D σ H ⟨ρ, σa, t, r, s, p⟩ => ?_
  unfold mLock at p
  cases e1 : lkAt c.B t (me σa t) with
  | none => rw [e1] at p; exact .inl ⟨ρ, σa, t, r, s, p⟩
  | some kk =>
    obtain ⟨k, kvs⟩ := kk
    rw [e1] at p
    obtain ⟨a, vs, ha, q⟩ := lock_ok (R := RF X.K c.γ) (fun _ _ _ a b kp h => RF.mono kp a b h) r (lkAt_ok e1) p
    refine .inr ⟨a, .dK vs, ha, trivial, fun od => ⟨ρ, σa, _, (q od).1, RS.mono (q od).2.1 _ _ s, ?_⟩⟩
    have q2 := (q od).2.2
    generalize m σa (t.set k (.fz kvs)) = rr at q2
    cases rr with
    | bad => exact q2
    | exc C fs t2 => exact q2
    | ok fl t2 =>
      intro ρ' H' fv f r' w
      have q3 := q2 ρ' H' fv f r' w
      cases fv <;> exact q3
end
end Ev
end
section
set_option Elab.async false
set_option linter.all false
set_option maxRecDepth 100000
set_option maxHeartbeats 400000
/-! Comprehensions. -/
namespace Ev
open PySem PySem.Spec PyProof.Rows L2
section
variable {c : Cc} {X : Cx} {K : PySem.W.Frag} {γ : Gm}
theorem wipe_get (σ : L2.St) : ∀ (vs : List Nat) (i : Nat), (wipe σ vs)[i]? = if i ∈ vs then (σ[i]?).map (fun _ => none) else σ[i]?
  | [], i => by simp [wipe]
  | v :: vs, i => by
    unfold wipe
    by_cases h : v = i
    · subst h
      rw [if_pos (List.mem_cons_self ..)]
      by_cases hl : v < (wipe σ vs).length
      · rw [List.getElem?_set_self hl]
        rw [wipe_length] at hl
        simp [hl]
      · rw [List.getElem?_eq_none (by simpa using hl)]
        rw [wipe_length] at hl
        rw [List.getElem?_eq_none (by omega)]; rfl
    · rw [List.getElem?_set_ne h, wipe_get σ vs i]
      by_cases hm : i ∈ vs
      · rw [if_pos hm, if_pos (List.mem_cons_of_mem _ hm)]
      · rw [if_neg hm, if_neg (by simp only [List.mem_cons, not_or]; exact ⟨fun e => h e.symm, hm⟩)]
theorem wipe_wipe (σ : L2.St) (vs : List Nat) : wipe (wipe σ vs) vs = wipe σ vs := by
  apply List.ext_getElem?
  intro i
  rw [wipe_get, wipe_get]
  by_cases h : i ∈ vs
  · rw [if_pos h, if_pos h, Option.map_map]; rfl
  · rw [if_neg h, if_neg h]
theorem wipe_set {σ : L2.St} {vs : List Nat} {i : Nat} {x : Option V} (h : i ∈ vs) : wipe (σ.set i x) vs = wipe σ vs := by
  apply List.ext_getElem?
  intro j
  rw [wipe_get, wipe_get]
  by_cases hj : j ∈ vs
  · rw [if_pos hj, if_pos hj]
    by_cases e : i = j
    · subst e
      by_cases hl : i < σ.length
      · rw [List.getElem?_set_self hl]; simp [hl]
      · rw [List.getElem?_eq_none (by simpa using hl), List.getElem?_eq_none (by omega)]
    · rw [List.getElem?_set_ne e]
  · rw [if_neg hj, if_neg hj, List.getElem?_set_ne (fun (e : i = j) => hj (e ▸ h))]
def wipeA (s : Sl) : List Nat → Sl
  | [] => s
  | v :: vs => (wipeA s vs).set v none
theorem RS.clr {ρ : List Addr} {H : Hp} : ∀ {sa : List (Option A)} {σ : L2.St} {i : Nat}, RS K γ ρ H sa σ → RS K γ ρ H (sa.set i none) (σ.set i none)
  | [], σ, _, e => by
    have e' : σ = [] := e
    rw [e']; rfl
  | x :: xs, σ, 0, e => by
    obtain ⟨w, r, rfl, q1, q2⟩ := e
    exact ⟨none, r, rfl, (fun b hb => by simp at hb), q2⟩
  | x :: xs, σ, i + 1, e => by
    obtain ⟨w, r, rfl, q1, q2⟩ := e
    exact ⟨w, r.set i none, rfl, q1, RS.clr q2⟩
theorem RS.wipe {ρ : List Addr} {H : Hp} {sa : List (Option A)} {σ : L2.St} (h : RS K γ ρ H sa σ) : ∀ vs : List Nat, RS K γ ρ H (wipeA sa vs) (L2.wipe σ vs)
  | [] => h
  | v :: vs => RS.clr (RS.wipe h vs)
/-- a target within a block: only the block's own slots -/
def RSW (K : PySem.W.Frag) (γ : Gm) (σ0 : L2.St) (vs : List Nat) (ρ : List Addr) (H : Hp) (s : Sl) (σ : L2.St) : Prop := RS K γ ρ H s σ ∧ wipe σ vs = wipe σ0 vs
def GOkV (c : Cc) (K : PySem.W.Frag) (vs : List Nat) (g : TG) (f : MG) : Prop := ∀ ρ t H σ σa x a Q, Rep K c.γ ρ (c.B ++ t) H → RS K c.γ ρ H σa σ → RV K c.γ ρ H a x → Post K c.γ c.E c.B (RSW K c.γ σ vs) Q (f a σa t) ρ H → g x σ H Q
theorem ok_gNV {i : Nat} {vs : List Nat} (h : i ∈ vs) : GOkV c K vs (gName i) (gN i) := fun ρ t H σ σa x a Q r s w p => p ρ H _ (Fwd.refl _ _) r ⟨RS.set s w, wipe_set h⟩
theorem gNames_okV {ρ : List Addr} {H : Hp} {Q : L2.St → Hp → Prop} {ws : List Nat} {σ0 : L2.St} : ∀ {is : List Nat} {as : List A} {vs : List V} {s s' : Sl} {σ : L2.St}, (∀ i ∈ is, i ∈ ws) → setAll is as s = some s' → RVs K c.γ ρ H as vs → RS K c.γ ρ H s σ → wipe σ ws = wipe σ0 ws → (∀ σ', RSW K c.γ σ0 ws ρ H s' σ' → Q σ' H) → gNames is vs σ H Q
  | [], [], vs, s, s', σ, hi, e, w, r, ew, q => by
    rw [rvs_nil] at w
    cases e
    exact ⟨w, q σ ⟨r, ew⟩⟩
  | i :: is, a :: as, vs, s, s', σ, hi, e, w, r, ew, q => by
    rw [rvs_cons] at w
    obtain ⟨v, vr, rfl, w1, w2⟩ := w
    exact ⟨v, vr, rfl, gNames_okV (s := s.set i (some a)) (fun j hj => hi j (List.mem_cons_of_mem _ hj)) e w2 (RS.set r w1) (by rw [wipe_set (hi i (List.mem_cons_self ..))]; exact ew) q⟩
  | [], _ :: _, vs, s, s', σ, hi, e, w, r, ew, q => by cases e
  | _ :: _, [], vs, s, s', σ, hi, e, w, r, ew, q => by cases e
theorem setAll_len : ∀ (is : List Nat) (as : List A) (s s' : Sl), setAll is as s = some s' → as.length = is.length := by
  intro is
  induction is with
  | nil =>
    intro as s s' h
    cases as with
    | nil => rfl
    | cons a as => cases h
  | cons i is ih =>
    intro as s s' h
    cases as with
    | nil => cases h
    | cons a as => simp [ih as _ _ h]
theorem ok_gTV {is vs : List Nat} (hi : ∀ i ∈ is, i ∈ vs) : GOkV c K vs (gTup K is.length (gNames is)) (gT is) := by
  intro ρ t H σ σa x a Q r s w p
  unfold gT at p
  cases e : tupOf a with
  | none => simp only [e] at p; exact p.elim
  | some as =>
    cases e2 : setAll is as σa with
    | none => simp only [e, e2] at p; exact p.elim
    | some s' =>
      simp only [e, e2] at p
      have fin : ∀ σ', RSW K c.γ σ vs ρ H s' σ' → Q σ' H := fun σ' h => p ρ H σ' (Fwd.refl _ _) r h
      cases a with
      | tup ys =>
        cases e
        rw [rv_tup] at w
        obtain ⟨q, us, rfl, hq, w⟩ := w
        exact ⟨q, us, rfl, SqT.of hq, by rw [w.length, setAll_len _ _ _ _ e2], gNames_okV hi e2 w s rfl fin⟩
      | ktup ys =>
        cases e
        rw [rv_ktup] at w
        obtain ⟨q, us, rfl, hq, w⟩ := w
        exact ⟨q, us, rfl, SqT.ofK hq, by rw [w.length, setAll_len _ _ _ _ e2], gNames_okV hi e2 w s rfl fin⟩
      | _ => cases e
/-! what lies beside -/
theorem Rep.other {ρ : List Addr} {hp : List O} {H : Hp} (R : Rep K γ ρ hp H) {D : Addr} {o o' : HO} (h : H D = some o) (ht : noT o = true) (hn : D ∉ ρ) : Rep K γ ρ hp (upd H D o') ∧ Keep K ρ H ρ (upd H D o') := by
  have kp : Keep K ρ H ρ (upd H D o') := ⟨⟨[], by simp⟩, fun q vs hq => tup_upd (fun u e => by rw [h] at e; cases e; exact ht) hq⟩
  refine ⟨⟨R.len, R.nd, fun j b oo hj ho => RO.mono kp (fun u e => ?_) (R.ob j b oo hj ho), tabs_upd R.tab fun u e => by rw [h] at e; cases e; exact ht⟩, kp⟩
  rw [upd_ne (fun (z : b = D) => hn (z ▸ List.mem_of_getElem? hj))]; exact e
theorem Rep.adopt {ρ : List Addr} {hp : List O} {H : Hp} (R : Rep K γ ρ hp H) {D : Addr} {o : O} (hn : D ∉ ρ) (h : RO K γ (ρ ++ [D]) H o D) : Rep K γ (ρ ++ [D]) (hp ++ [o]) H := by
  have kp : Keep K ρ H (ρ ++ [D]) H := ⟨⟨[D], rfl⟩, fun q vs hq => hq⟩
  refine ⟨by simp [R.len], nodup_push R.nd hn, fun i a oo hi ho => ?_, R.tab⟩
  by_cases hl : i < ρ.length
  · rw [List.getElem?_append_left hl] at hi
    rw [List.getElem?_append_left (by rw [← R.len]; exact hl)] at ho
    exact RO.mono kp (fun u e => e) (R.ob i a oo hi ho)
  · rw [List.getElem?_append_right (by omega)] at hi
    rw [List.getElem?_append_right (by rw [← R.len]; omega)] at ho
    have e : i - ρ.length = 0 := by
      have := (List.getElem?_eq_some_iff.mp hi).1
      simp at this; omega
    rw [e] at hi
    rw [← R.len, e] at ho
    have e1 : D = a := by simpa using hi
    have e2 : o = oo := by simpa using ho
    rw [← e1, ← e2]; exact h
/-- the thing at D is new since H0 and not ours: it may be written -/
theorem Fwd.beside {nb : Nat} {ρ0 ρ : List Addr} {H0 H : Hp} (f : Fwd nb ρ0 H0 ρ H) {D : Addr} (n0 : H0 D = none) (hn : D ∉ ρ) {o : HO} : Fwd nb ρ0 H0 ρ (upd H D o) := by
  obtain ⟨m, e⟩ := f.ext
  refine ⟨⟨m, e⟩, f.new, fun a u h q z => ?_, fun a u h z => ?_, fun a u v h => ?_, fun n a hl ha => ?_⟩
  · rw [upd_ne (ne_of_none h n0)]; exact f.kept a u h q z
  · rw [upd_ne (ne_of_none h n0)]; exact f.occ a u h z
  · rw [upd_ne (ne_of_none h n0)]; exact f.frz a u v h
  · have : a ≠ D := by
      rintro rfl
      exact hn (by rw [e]; exact List.mem_append_left _ (List.mem_of_getElem? ha))
    rw [upd_ne this]; exact f.bs n a hl ha
theorem Fwd.adopt {nb : Nat} {ρ0 ρ : List Addr} {H0 H : Hp} (f : Fwd nb ρ0 H0 ρ H) {D : Addr} (n0 : H0 D = none) : Fwd nb ρ0 H0 (ρ ++ [D]) H := by
  obtain ⟨m, e⟩ := f.ext
  refine ⟨⟨m ++ [D], by rw [e, List.append_assoc]⟩, fun a ha hn => ?_, f.kept, f.occ, f.frz, f.bs⟩
  rcases List.mem_append.mp ha with h | h
  · exact f.new a h hn
  · have : a = D := by simpa using h
    rw [this]; exact n0
theorem Fwd.beyond {nb : Nat} {ρ ρ' : List Addr} {H H' : Hp} (f : Fwd nb ρ H ρ' H') {D : Addr} {o : HO} (h : H D = some o) (hn : D ∉ ρ) (hz : isTb o = false := by rfl) : D ∉ ρ' ∧ H' D = some o :=
  ⟨fun q => (by rw [f.new D q hn] at h; cases h), f.kept D o h hn hz⟩
/-! no exception -/
def Res.noX {α : Type} (r : Res α) : Res α := match r with
  | .ok a t => .ok a t
  | _ => .bad
def E0 : XK := fun _ _ _ => False
def Cc.q (c : Cc) : Cc := { c with E := E0 }
theorem Post.bindX {α β α' β' α2 : Type} {R : List Addr → Hp → α → β → Prop} {R' : List Addr → Hp → α' → β' → Prop} {E E' : XK} {B : List O} {Q : β → Hp → Prop} {Q' : β' → Hp → Prop} {r : Res α} {k : α → List O → Res α2} {k2 : α2 → List O → Res α'} {ρ1 ρc : List Addr} {H1 Hc : Hp}
    (h : Post K γ E B R' Q' ((r.bind k).noX.bind k2) ρ1 H1) (hk : ∀ a t ρ' H' b, Fwd B.length ρc Hc ρ' H' → Rep K γ ρ' (B ++ t) H' → R ρ' H' a b → Post K γ E B R' Q' ((k a t).noX.bind k2) ρ1 H1 → Q b H') : Post K γ E' B R Q r ρc Hc := by
  cases r with
  | ok a t => exact fun ρ' H' b f q w => hk a t ρ' H' b f q w h
  | exc C fs t => exact h.elim
  | bad => exact h.elim
/-! list comprehensions -/
def lcGo (B : List O) (I : ItM) (g : MG) (mt : MT) (me : ME) (s : Sl) : Nat → List O → Res (List A)
  | 0, t => if I.fin (B ++ t) = true then .ok [] t else .bad
  | k + 1, t => match I.get (I.n - (k + 1)) (B ++ t) with
    | none => .bad
    | some a => (g a s t).bind fun s1 t1 => (mt s1 t1).bind fun b t2 => match b with
      | true => (me s1 t2).bind fun y t3 => (lcGo B I g mt me s k t3).bind fun ys t4 => .ok (y :: ys) t4
      | false => lcGo B I g mt me s k t2
def mLc (B : List O) (vs : List Nat) (mi : MI) (g : MG) (mt : MT) (me : ME) : ME := fun s t => (mi s t).bind fun I t1 =>
  if I.n ≤ sizeLine then (lcGo B I g mt me (wipeA s vs) I.n t1).noX.bind fun ys t2 => mkO B (.lst ys) t2 else .bad
theorem Res.bind_bind {α β δ : Type} (r : Res α) (f : α → List O → Res β) (g : β → List O → Res δ) : (r.bind f).bind g = r.bind fun a t => (f a t).bind g := by
  cases r <;> rfl
theorem Res.noX_bind {α β δ : Type} (r : Res α) (f : α → List O → Res β) (g : β → List O → Res δ) : ((r.bind f).noX.bind g) = (r.noX.bind fun a t => (f a t).noX.bind g) := by
  cases r <;> rfl
theorem lcGo_ok {vs : List Nat} {g : TG} {f : MG} {mt : MT} {me : ME} {J : It} {I : ItM} {σ : L2.St} {σa : Sl} {Q : VK} {ρ1 : List Addr} {H1 : Hp} {t1 : List O} (hg : GOkV c.q X.K vs g f) (r1 : Rep X.K c.γ ρ1 (c.B ++ t1) H1) (s1 : RS X.K c.γ ρ1 H1 σa σ) (lk : Lk c X.K ρ1 H1 J I) (hn : I.n ≤ sizeLine)
    (q : Post X.K c.γ c.E c.B (RV X.K c.γ) Q ((lcGo c.B I f mt me (wipeA σa vs) I.n t1).noX.bind fun ys t2 => mkO c.B (.lst ys) t2) ρ1 H1) {D : Addr} (hD : H1 D = none) :
    ∃ W : Nat → Nat → Hp → Prop, (∃ m, W 0 m (upd H1 D (.lst []))) ∧ ∀ i m H, W i m H →
  (J.stop i H ∧ Q (.ref D) H) ∨ (J.go i H ∧ ∃ Nx : Hp → Prop, (∀ H', Nx H' → ∃ m', m' < m ∧ W (i + 1) m' H') ∧ ∀ x H', J.yld i H x H' → g x (wipe σ vs) H' fun σ2 H2 => wipe σ2 vs = wipe σ vs ∧ tM c.q X RB mt σ2 H2 fun b H3 =>
    if b = true then tM c.q X (RV X.K c.γ) me σ2 H3 fun y H4 => ∃ acc, H4 D = some (.lst acc) ∧ acc.length < sizeLine ∧ Nx (upd H4 D (.lst (acc ++ [y]))) else Nx H3) := by
  let P : Nat → Nat → Hp → Prop := fun i m H => ∃ ρ t acc vacc, i + m = I.n ∧ acc.length ≤ i ∧ Fwd c.B.length ρ1 H1 ρ H ∧ D ∉ ρ ∧ H D = some (.lst vacc) ∧ Rep X.K c.γ ρ (c.B ++ t) H ∧ RVs X.K c.γ ρ H acc vacc ∧
    Post X.K c.γ c.E c.B (RV X.K c.γ) Q ((lcGo c.B I f mt me (wipeA σa vs) m t).noX.bind fun ys t2 => mkO c.B (.lst (acc ++ ys)) t2) ρ1 H1
  refine ⟨P, ⟨I.n, ρ1, t1, [], [], by omega, Nat.le_refl _, (Fwd.refl _ _).beside hD (r1.fresh hD), r1.fresh hD, upd_same, (r1.junk (nb := 0) hD).1, by rw [rvs_nil], q⟩, ?_⟩
  rintro i m H ⟨ρ, t, acc, vacc, him, hacc, fw, hDn, hDv, r, wacc, p⟩
  have kp : Keep X.K ρ1 H1 ρ H := r1.keep fw
  obtain ⟨l1, l2⟩ := lk ρ t H kp (fun a o u h => fw.frz a o u h) r
  cases m with
  | zero =>
    unfold lcGo at p
    by_cases hfin : I.fin (c.B ++ t) = true
    · rw [if_pos hfin] at p
      have e : i = I.n := by omega
      subst e
      refine .inl ⟨l2 hfin, ?_⟩
      have p' : Post X.K c.γ c.E c.B (RV X.K c.γ) Q (mkO c.B (.lst (acc ++ [])) t) ρ1 H1 := p
      rw [List.append_nil] at p'
      refine p' (ρ ++ [D]) H (.ref D) (fw.adopt hD) (by rw [← List.append_assoc]; exact r.adopt hDn ⟨vacc, hDv, RVs.mono ⟨⟨[D], rfl⟩, fun _ _ h => h⟩ _ _ wacc⟩) ?_
      rw [rv_ref]
      have hl : c.B.length + t.length = ρ.length := by rw [r.len, List.length_append]
      exact ⟨D, by rw [hl]; simp, rfl⟩
    · rw [if_neg hfin] at p; exact p.elim
  | succ m =>
    unfold lcGo at p
    have e : I.n - (m + 1) = i := by omega
    rw [e] at p
    cases eg : I.get i (c.B ++ t) with
    | none => rw [eg] at p; exact p.elim
    | some a =>
      rw [eg] at p
      obtain ⟨go, yl⟩ := l1 i a (by omega) eg
      refine .inr ⟨go, P (i + 1) m, fun H' h => ⟨m, Nat.lt_succ_self m, h⟩, fun x H' y => ?_⟩
      obtain ⟨fx, r2, w⟩ := yl x H' y
      obtain ⟨n2, d2⟩ := fx.beyond hDv hDn
      have fw2 := fw.trans fx
      have wacc2 := RVs.mono (r.keep fx) _ _ wacc
      have s2 : RS X.K c.γ ρ H' (wipeA σa vs) (wipe σ vs) := (RS.mono (r1.keep fw2) _ _ s1).wipe vs
      refine hg ρ t H' (wipe σ vs) (wipeA σa vs) x a _ r2 s2 w (Post.bindX p fun sg tg ρg Hg σg fg rg wg pg => ?_)
      obtain ⟨wg, wg2⟩ := wg
      rw [wipe_wipe] at wg2
      refine ⟨wg2, ρg, sg, tg, rg, wg, ?_⟩
      obtain ⟨ng, dg⟩ := fg.beyond d2 n2
      have waccg := RVs.mono (r2.keep fg) _ _ wacc2
      refine Post.bindX pg fun b tb ρb Hb bb fb rb wb pb => ?_
      cases wb
      obtain ⟨nb, db⟩ := fb.beyond dg ng
      have waccb := RVs.mono (rg.keep fb) _ _ waccg
      have fwb := (fw2.trans fg).trans fb
      cases b with
      | false =>
        rw [if_neg Bool.false_ne_true]
        exact ⟨ρb, tb, acc, vacc, by omega, by omega, fwb, nb, db, rb, waccb, pb⟩
      | true =>
        rw [if_pos rfl]
        refine ⟨ρb, sg, tb, rb, RS.mono (rg.keep fb) _ _ wg, Post.bindX pb fun yy ty ρy Hy yv fy ry wy py => ?_⟩
        obtain ⟨ny, dy⟩ := fy.beyond db nb
        have waccy := RVs.mono (rb.keep fy) _ _ waccb
        have hlen := waccy.length
        refine ⟨vacc, dy, by omega, ?_⟩
        obtain ⟨ro, ko⟩ := ry.other (o' := .lst (vacc ++ [yv])) dy rfl ny
        refine ⟨ρy, ty, acc ++ [yy], vacc ++ [yv], by omega, by simp; omega, (fwb.trans fy).beside hD ny, ny, upd_same, ro, RVs.mono ko _ _ (waccy.append (by rw [rvs_cons]; exact ⟨_, _, rfl, wy, by rw [rvs_nil]⟩)), ?_⟩
        rw [Res.noX_bind] at py
        have e2 : ∀ r : Res (List A), (r.noX.bind fun ys t4 => (Res.ok (yy :: ys) t4).noX.bind fun ys t2 => mkO c.B (.lst (acc ++ ys)) t2) = r.noX.bind fun ys t2 => mkO c.B (.lst (acc ++ [yy] ++ ys)) t2 := by
          intro r
          cases r with
          | ok ys t4 => show mkO c.B (.lst (acc ++ (yy :: ys))) t4 = mkO c.B (.lst (acc ++ [yy] ++ ys)) t4; rw [List.append_assoc]; rfl
          | _ => rfl
        rw [e2] at py
        exact py
theorem tLc_ok {vs : List Nat} {g : TG} {f : MG} {mi : MI} {mt : MT} {me : ME} {σ : L2.St} {H : Hp} {Q : VK} (hg : GOkV c.q X.K vs g f) (p : tM c X (RV X.K c.γ) (mLc c.B vs mi f mt me) σ H Q) :
    tLc (fun σ H R => tM c X (RIt c X.K) mi σ H R) g (tM c.q X RB mt) (tM c.q X (RV X.K c.γ) me) vs σ H Q := by
  refine tM.bind (R := RIt c X.K) (m := mi) (k := fun s (I : ItM) t1 => if I.n ≤ sizeLine then (lcGo c.B I f mt me (wipeA s vs) I.n t1).noX.bind fun ys t2 => mkO c.B (.lst ys) t2 else .bad) p fun ρ H1 σa I J t r s lk q => ?_
  intro D hD
  by_cases hn : I.n ≤ sizeLine
  · rw [if_pos hn] at q
    exact lcGo_ok hg r s lk hn q hD
  · rw [if_neg hn] at q; exact q.elim
/-- tests of a clause -/
def mYes : MT := fun _ t => .ok true t
theorem sts_nil : PTs X [] (tM c X RB mYes) := ⟨fun pins s σ H Q I ⟨ρ, σa, t, r, rs, p⟩ => pts_nil.run pins s σ H Q I (Post.now p r rfl)⟩
theorem sts_one {e : Expr} {mt : MT} (h : ST c X e mt) : PTs X [e] (tM c X RB mt) := pts_one h
theorem se_lc {elt tg iter : Expr} {ifs : List Expr} {scope : Scope} {own : List (Str × Nat)} {pos : Pos} {g : TG} {f : MG} {mi : MI} {mt : MT} {me : ME} (hc : X.calm = true) (hN : X.N.Nodup) (hi : SI c X tg iter mi) (ok : BlkOk X.N X.env.scope scope own)
    (hf : GOkV c.q X.K (own.map (·.2)) g f)
    (hg : ∀ (s : Shared) (H : Hp) (C : Addr) (cl : List (Str × Addr)) (fp : List Addr), PG (X.blk s H scope (compEnvC scope cl C X.env) fp) tg g) (ht : ∀ (s : Shared) (H : Hp) (C : Addr) (cl : List (Str × Addr)) (fp : List Addr), PTs (X.blk s H scope (compEnvC scope cl C X.env) fp) ifs (tM c.q (X.blk s H scope (compEnvC scope cl C X.env) fp) RB mt))
    (he : ∀ (s : Shared) (H : Hp) (C : Addr) (cl : List (Str × Addr)) (fp : List Addr), SE c.q (X.blk s H scope (compEnvC scope cl C X.env) fp) elt me) (hs : ∀ x, foldedSetIterable iter X.env x = pure x := by intro _; rfl) :
    SE c X (.ListComp elt [⟨tg, iter, ifs, 0⟩] scope pos) (mLc c.B (own.map (·.2)) mi f mt me) :=
  PE.imp (pe_lc (tt := tM c.q X RB mt) (te := tM c.q X (RV X.K c.γ) me) hc hN hi ok hg ht he hs) fun σ H Q p => tLc_ok hf p
theorem ss_setLc {i : Nat} {y : Str} {py : Pos} {elt tg iter : Expr} {ifs : List Expr} {scope : Scope} {own : List (Str × Nat)} {pos spos : Pos} {g : TG} {f : MG} {mi : MI} {mt : MT} {me : ME} (hc : X.calm = true) (hN : X.N.Nodup) (hy : X.N[i]? = some y) (hyl : X.env.scope.names.lookup y = some .local)
    (hsw : swapsWith (.ListComp elt [⟨tg, iter, ifs, 0⟩] scope pos) (some (.Name y py)) spos.line X.env = pure true) (hi : SI c X tg iter mi) (ok : BlkOk X.N X.env.scope scope own)
    (hf : GOkV c.q X.K (own.map (·.2)) g f)
    (hg : ∀ (s : Shared) (H : Hp) (C : Addr) (cl : List (Str × Addr)) (fp : List Addr), PG (X.blk s H scope (compEnvC scope cl C X.env) fp) tg g) (ht : ∀ (s : Shared) (H : Hp) (C : Addr) (cl : List (Str × Addr)) (fp : List Addr), PTs (X.blk s H scope (compEnvC scope cl C X.env) fp) ifs (tM c.q (X.blk s H scope (compEnvC scope cl C X.env) fp) RB mt))
    (he : ∀ (s : Shared) (H : Hp) (C : Addr) (cl : List (Str × Addr)) (fp : List Addr), SE c.q (X.blk s H scope (compEnvC scope cl C X.env) fp) elt me) (hs : ∀ x, foldedSetIterable iter X.env x = pure x := by intro _; rfl) :
    SS c X (.Assign [.Name y py] (.ListComp elt [⟨tg, iter, ifs, 0⟩] scope pos) spos) (mAsg (gN i) (mLc c.B (own.map (·.2)) mi f mt me)) := by
  refine PS.imp (ps_setLc (tt := tM c.q X RB mt) (te := tM c.q X (RV X.K c.γ) me) hc hN hy hyl hsw hi ok hg ht he hs) fun D σ H p => ?_
  refine tLc_ok hf (tS.bind (k := fun s a t1 => (gN i a s t1).bind fun s' t2 => .ok (.nx s') t2) p fun ρ H1 σa a x t r s w q => ?_)
  exact nowS (fv := .nx (σ.set i (some x))) q r (RS.set s w)
end
end Ev
end
section
set_option Elab.async false
set_option linter.all false
set_option maxRecDepth 100000
set_option maxHeartbeats 400000
/-! Stores, fields, displays, more methods. -/
namespace Ev
open PySem PySem.Spec PyProof.Rows L2
section
variable {c : Cc} {X : Cx} {K : PySem.W.Frag} {γ : Gm} {ρ : List Addr} {H : Hp}
/-! dicts by keys -/
def putA {κ : Type} [DecidableEq κ] (kvs : List (κ × A)) (k : κ) (v : A) : List (κ × A) :=
  if (kvs.any fun kv => decide (kv.1 = k)) = true then kvs.map (fun kv => if kv.1 = k then (kv.1, v) else kv) else kvs ++ [(k, v)]
theorem RKs.append {κ : Type} : ∀ {xs ys : List (κ × A)} {us vs : List (κ × V)}, RKs K γ ρ H xs us → RKs K γ ρ H ys vs → RKs K γ ρ H (xs ++ ys) (us ++ vs)
  | [], ys, us, vs, h, h' => by
    have e : us = [] := h
    subst e
    simpa using h'
  | x :: xs, ys, us, vs, h, h' => by
    obtain ⟨v, r, rfl, q1, q2⟩ := h
    exact ⟨v, r ++ vs, rfl, q1, RKs.append q2 h'⟩
theorem RKs.any {κ : Type} {f : κ → Bool} : ∀ {kvs : List (κ × A)} {vs : List (κ × V)}, RKs K γ ρ H kvs vs → (vs.any fun kv => f kv.1) = kvs.any fun kv => f kv.1
  | [], vs, h => by
    have e : vs = [] := h
    subst e; rfl
  | x :: xs, vs, h => by
    obtain ⟨v, r, rfl, _, q⟩ := h
    simp [List.any_cons, RKs.any q]
theorem RKs.over {κ : Type} [DecidableEq κ] {k : κ} {a : A} {y : V} (w : RV K γ ρ H a y) : ∀ {kvs : List (κ × A)} {vs : List (κ × V)}, RKs K γ ρ H kvs vs → RKs K γ ρ H (kvs.map (fun kv => if kv.1 = k then (kv.1, a) else kv)) (vs.map (fun kv => if kv.1 = k then (kv.1, y) else kv))
  | [], vs, h => by
    have e : vs = [] := h
    subst e; rfl
  | x :: xs, vs, h => by
    obtain ⟨v, r, rfl, q1, q⟩ := h
    by_cases hk : x.1 = k
    · exact ⟨y, _, by simp [hk], by simp [hk]; exact w, RKs.over w q⟩
    · exact ⟨v, _, by simp [hk], by simp [hk]; exact q1, RKs.over w q⟩
theorem RKs.put {κ : Type} [DecidableEq κ] {k : κ} {a : A} {y : V} {kvs : List (κ × A)} {vs : List (κ × V)} (h : RKs K γ ρ H kvs vs) (w : RV K γ ρ H a y) : RKs K γ ρ H (putA kvs k a) (putK vs k y) := by
  unfold putA putK
  rw [RKs.any (f := fun z => decide (z = k)) h]
  by_cases hk : (kvs.any fun kv => decide (kv.1 = k)) = true
  · rw [if_pos hk, if_pos hk]; exact RKs.over w h
  · rw [if_neg hk, if_neg hk]; exact RKs.append h ⟨y, [], rfl, w, rfl⟩
/-! o[i] = v -/
def keysA (a : A) : Option (List Key) := match a with
  | .tup xs => mapO keyOf xs
  | _ => none
def putObj (o : O) (i v : A) : Option O := match o with
  | .lst xs => (match i with
    | .int k => (match ixN xs.length k with
      | some j => some (.lst (xs.set j v))
      | none => none)
    | _ => none)
  | .dic kvs => (match keyOf i with
    | some k => if kvs.length < sizeLine then some (.dic (putA kvs k v)) else none
    | none => none)
  | .dicT kvs => (match keysA i with
    | some k => if kvs.length < sizeLine then some (.dicT (putA kvs k v)) else none
    | none => none)
  | _ => none
def gPut (B : List O) (o i v : A) (s : Sl) : List O → Res Sl := fun t => match o with
  | .ref n => if B.length ≤ n then (match (B ++ t)[n]? with
    | some ob => (match putObj ob i v with
      | some ob' => .ok s (t.set (n - B.length) ob')
      | none => .bad)
    | none => .bad) else .bad
  | _ => .bad
def rSetAny : V → V → V → Hp → (Hp → Prop) → Prop := fun o i v H Q => rSetL o i v H Q ∨ ∃ a H4, o = .ref a ∧ DPut H a i v H4 ∧ Q H4
theorem set_any (hu : X.A.units + 1 < cLine) : PSet X rSetAny := by
  intro pins s σ H o i v ov iv u Q I ro ri rv h
  rcases h with h | ⟨a, H4, rfl, g, q⟩
  · exact set_list pins s σ H o i v ov iv u Q I ro ri rv h
  · cases ro
    exact d_setItem hu I g ri rv fun s' I' => ⟨H4, I', q⟩
theorem RVs.set : ∀ {xs : List A} {vs : List V} {j : Nat} {a : A} {v : V}, RVs K γ ρ H xs vs → RV K γ ρ H a v → RVs K γ ρ H (xs.set j a) (vs.set j v)
  | [], vs, j, a, v, h, w => by
    rw [rvs_nil] at h
    subst h
    simp [rvs_nil]
  | x :: xs, vs, 0, a, v, h, w => by
    rw [rvs_cons] at h
    obtain ⟨u, r, rfl, q1, q2⟩ := h
    show RVs _ _ _ _ (a :: xs) (v :: r)
    rw [rvs_cons]
    exact ⟨v, r, rfl, w, q2⟩
  | x :: xs, vs, j + 1, a, v, h, w => by
    rw [rvs_cons] at h
    obtain ⟨u, r, rfl, q1, q2⟩ := h
    show RVs _ _ _ _ (x :: xs.set j a) (u :: r.set j v)
    rw [rvs_cons]
    exact ⟨u, _, rfl, q1, RVs.set q2 w⟩
theorem put_ok {t : List O} {x y v : V} {o i a : A} {s : Sl} {σ : L2.St} {Q : L2.St → Hp → Prop} (r : Rep K c.γ ρ (c.B ++ t) H) (rs : RS K c.γ ρ H s σ) (wo : RV K c.γ ρ H o x) (wi : RV K c.γ ρ H i y) (wa : RV K c.γ ρ H a v) (p : Post K c.γ c.E c.B (RS K c.γ) Q (gPut c.B o i a s t) ρ H) : rSetAny x y v H (fun H3 => Q σ H3) := by
  unfold gPut at p
  cases o with
  | ref n =>
    by_cases hb : c.B.length ≤ n
    · simp only [if_pos hb] at p
      cases e : (c.B ++ t)[n]? with
      | none => simp only [e] at p; exact p.elim
      | some ob =>
        simp only [e] at p
        cases e2 : putObj ob i a with
        | none => simp only [e2] at p; exact p.elim
        | some ob' =>
          simp only [e2] at p
          obtain ⟨l, rfl, hl, q⟩ := r.objAt wo e
          have fin : ∀ o' : HO, (∀ o u, H l ≠ some (.frz o u)) → (∀ H', Keep K ρ H ρ H' → H' l = some o' → RO K c.γ ρ H' ob' l) → Q σ (upd H l o') := fun o' nf ho => by
            obtain ⟨r', f⟩ := r.write (nb := c.B.length) (o := ob') hl hb nf ho
            rw [set_top hb] at r'
            exact p ρ _ σ f r' (RS.mono (r.keep f) _ _ rs)
          cases ob with
          | lst xs =>
            obtain ⟨vs, hz, wv⟩ := q
            cases i with
            | int k =>
              simp only [putObj] at e2
              cases e3 : ixN xs.length k with
              | none => simp only [e3] at e2; cases e2
              | some j =>
                simp only [e3] at e2
                cases e2
                rw [rv_int] at wi
                refine .inl ⟨l, vs, k, j, rfl, wi, hz, by rw [wv.length]; exact e3, fin _ (fun o u z => by rw [hz] at z; cases z) fun H' kp e => ⟨_, e, RVs.mono kp _ _ (RVs.set wv wa)⟩⟩
            | _ => simp only [putObj] at e2; cases e2
          | dic kvs =>
            obtain ⟨vs, hz, wv⟩ := q
            simp only [putObj] at e2
            cases e3 : keyOf i with
            | none => simp only [e3] at e2; cases e2
            | some k =>
              simp only [e3] at e2
              by_cases hs : kvs.length < sizeLine
              · rw [if_pos hs] at e2
                cases e2
                refine .inr ⟨l, _, rfl, .inl ⟨vs, k, hz, keyOf_ok e3 wi, by rw [wv.length]; exact hs, rfl⟩, fin _ (fun o u z => by rw [hz] at z; cases z) fun H' kp e => ⟨_, e, RKs.mono kp _ _ (RKs.put wv wa)⟩⟩
              · rw [if_neg hs] at e2; cases e2
          | dicT kvs =>
            obtain ⟨vs, hz, wv⟩ := q
            simp only [putObj] at e2
            cases e3 : keysA i with
            | none => simp only [e3] at e2; cases e2
            | some k =>
              simp only [e3] at e2
              by_cases hs : kvs.length < sizeLine
              · rw [if_pos hs] at e2
                cases e2
                unfold keysA at e3
                cases i with
                | tup ys =>
                  rw [rv_tup] at wi
                  obtain ⟨b, us, rfl, hb', wu⟩ := wi
                  have := keys_ok e3 wu
                  subst this
                  refine .inr ⟨l, _, rfl, .inr ⟨vs, k, b, hz, rfl, hb', by rw [wv.length]; exact hs, rfl⟩, fin _ (fun o u z => by rw [hz] at z; cases z) fun H' kp e => ⟨_, e, RKs.mono kp _ _ (RKs.put wv wa)⟩⟩
                | _ => cases e3
              · rw [if_neg hs] at e2; cases e2
          | _ => simp only [putObj] at e2; cases e2
    · simp only [if_neg hb] at p; exact p.elim
  | _ => exact p.elim
def gSubA (B : List O) (mo mi : ME) : MG := fun a s t => (mo s t).bind fun o t1 => (mi s t1).bind fun i t2 => gPut B o i a s t2
theorem ok_gSub {mo mi : ME} : GOk c X.K (gSub (tM c X (RV X.K c.γ) mo) (tM c X (RV X.K c.γ) mi) rSetAny) (gSubA c.B mo mi) := by
  intro ρ t H σ σa x a Q r s w p
  refine ⟨ρ, σa, t, r, s, Post.bind p fun o t1 ρ1 H1 ov _ f1 r1 w1 p1 => ?_⟩
  have s1 := RS.mono (r.keep f1) _ _ s
  refine ⟨ρ1, σa, t1, r1, s1, Post.bind p1 fun i t2 ρ2 H2 iv _ f2 r2 w2 p2 => ?_⟩
  have k2 := r1.keep f2
  exact put_ok r2 (RS.mono k2 _ _ s1) (RV.mono k2 _ _ w1) w2 (RV.mono ((r.keep f1).trans k2) _ _ w) p2
theorem ss_put {o i e : Expr} {pos pos' : Pos} {mo mi ma : ME} (hu : X.A.units + 1 < cLine) (ho : SE c X o mo) (hi : SE c X i mi) (he : SE c X e ma)
    (ha : ∀ v, assign (.Subscript o i pos') X.env v = (do
      let ov ← holding [v] (eval o X.env)
      let iv ← holding [v, ov] (eval i X.env)
      standAt pos'
      holding [v, ov, iv] (setItem ov iv v)
      release [v, ov, iv] []) := by intro _; rfl)
    (hs : swapsWithSole [.Subscript o i pos'] e pos.line X.env = pure false := by rfl) (hw : swappedStores [.Subscript o i pos'] e X.env = pure none := by rfl) : SS c X (.Assign [.Subscript o i pos'] e pos) (mAsg (gSubA c.B mo mi) ma) :=
  ss_asg (ps_asg he (pg_sub ho hi (set_any hu) ha) hs hw) ok_gSub
/-! fields -/
def putFA (f : Str) (v : A) : List (Str × A) → List (Str × A)
  | [] => [(f, v)]
  | x :: xs => if x.1 = f then (f, v) :: xs else x :: putFA f v xs
def fld (B : List O) (f : Str) : A → List O → Res A := fun a t => match a with
  | .ref n => (match (B ++ t)[n]? with
    | some (.ins _ fs) => (match fs.lookup f with
      | some v => .ok v t
      | none => .bad)
    | _ => .bad)
  | _ => .bad
theorem RKs.look {f : Str} : ∀ {kvs : List (Str × A)} {vs : List (Str × V)} {a : A}, RKs K γ ρ H kvs vs → kvs.lookup f = some a → ∃ v, vs.lookup f = some v ∧ RV K γ ρ H a v
  | [], _, _, _, e => by simp at e
  | x :: xs, vs, a, h, e => by
    obtain ⟨v, r, rfl, q, q2⟩ := h
    obtain ⟨k, y⟩ := x
    rw [List.lookup_cons] at e ⊢
    cases hk : f == k with
    | true => rw [hk] at e; simp at e; subst e; exact ⟨v, by simp [hk], q⟩
    | false =>
      rw [hk] at e
      obtain ⟨u, e1, e2⟩ := RKs.look q2 e
      exact ⟨u, by simp [hk]; exact e1, e2⟩
theorem RKs.look0 {f : Str} : ∀ {kvs : List (Str × A)} {vs : List (Str × V)}, RKs K γ ρ H kvs vs → kvs.lookup f = none → vs.lookup f = none
  | [], vs, h, e => by
    have e' : vs = [] := h
    subst e'; rfl
  | x :: xs, vs, h, e => by
    obtain ⟨v, r, rfl, q, q2⟩ := h
    obtain ⟨k, y⟩ := x
    rw [List.lookup_cons] at e ⊢
    cases hk : f == k with
    | true => rw [hk] at e; simp at e
    | false => rw [hk] at e; simp only [hk]; exact RKs.look0 q2 e
/-- what holds of a class of ours, by its number -/
def ClsG (c : Cc) (K : PySem.W.Frag) (f : Str) (g : Nat) : Prop := ∀ C, c.γ[g]? = some C → Cls K C ∧ NoAttr K C f
def fldC (B : List O) (cs : List Nat) (f : Str) : A → List O → Res A := fun a t => match a with
  | .ref n => (match (B ++ t)[n]? with
    | some (.ins g fs) => if cs.contains g = true then (match fs.lookup f with
      | some v => .ok v t
      | none => .bad) else .bad
    | _ => .bad)
  | _ => .bad
theorem se_fld {e : Expr} {f : Str} {pos : Pos} {ma : ME} (cs : List Nat) (he : SE c X e ma) (hc : ∀ g ∈ cs, ClsG c X.K f g) (hb : attributeBase e f X.env (eval e X.env) = eval e X.env := by rfl) : SE c X (.Attribute e f pos) (mUn (fldC c.B cs f) ma) := by
  refine se_un (r := fun x H Q => ∃ a C dx fs v, x = .ref a ∧ H a = some (.ins C dx fs) ∧ Cls X.K C ∧ NoAttr X.K C f ∧ fs.lookup f = some v ∧ Q v H) (pe_fld he hb) fun ρ t H Q x a r w p => ?_
  unfold fldC at p
  cases a with
  | ref n =>
    cases e1 : (c.B ++ t)[n]? with
    | none => simp only [e1] at p; exact p.elim
    | some ob =>
      cases ob with
      | ins g fs =>
        simp only [e1] at p
        by_cases hg : cs.contains g = true
        · rw [if_pos hg] at p
          cases e2 : fs.lookup f with
          | none => simp only [e2] at p; exact p.elim
          | some v =>
            simp only [e2] at p
            obtain ⟨l, rfl, hl, C, dx, vs, hC, hz, wv⟩ := r.objAt w e1
            obtain ⟨u, hu, wu⟩ := RKs.look wv e2
            obtain ⟨c1, c2⟩ := hc g (by simpa using hg) C hC
            exact ⟨l, C, dx, vs, u, rfl, hz, c1, c2, hu, Post.now p r wu⟩
        · rw [if_neg hg] at p; exact p.elim
      | _ => simp only [e1] at p; exact p.elim
  | _ => exact p.elim
theorem RKs.putF {f : Str} {a : A} {y : V} (w : RV K γ ρ H a y) : ∀ {kvs : List (Str × A)} {vs : List (Str × V)}, RKs K γ ρ H kvs vs → RKs K γ ρ H (putFA f a kvs) (L2.putF f y vs)
  | [], vs, h => by
    have e : vs = [] := h
    subst e
    exact ⟨y, [], rfl, w, rfl⟩
  | x :: xs, vs, h => by
    obtain ⟨v, r, rfl, q1, q⟩ := h
    obtain ⟨k, z⟩ := x
    unfold putFA L2.putF
    by_cases hk : k = f
    · subst hk
      simp
      exact ⟨y, r, rfl, w, q⟩
    · simp [hk]
      exact ⟨v, _, rfl, q1, RKs.putF w q⟩
def gFld (B : List O) (cs : List Nat) (f : Str) (o v : A) (s : Sl) : List O → Res Fl := fun t => match o with
  | .ref n => if B.length ≤ n then (match (B ++ t)[n]? with
    | some (.ins g fs) => if (cs.contains g && decide (fs.length < 1000)) = true then .ok (.nx s) (t.set (n - B.length) (.ins g (putFA f v fs))) else .bad
    | _ => .bad) else .bad
  | _ => .bad
def mFld (B : List O) (cs : List Nat) (f : Str) (mo ma : ME) : MS := fun s t => (ma s t).bind fun v t1 => (mo s t1).bind fun o t2 => gFld B cs f o v s t2
theorem ss_fld {o e : Expr} {f : Str} {pos pos' : Pos} {mo ma : ME} (cs : List Nat) (ho : SE c X o mo) (he : SE c X e ma) (hc : ∀ g ∈ cs, ClsG c X.K f g) (hs : swapsWith e (some (.Attribute o f pos')) pos.line X.env = pure false := by rfl) : SS c X (.Assign [.Attribute o f pos'] e pos) (mFld c.B cs f mo ma) := by
  refine PS.imp (ps_fld ho he hs) fun D σ H p => ?_
  refine tS.bind (R := RV X.K c.γ) (m := ma) (k := fun s v t1 => (mo s t1).bind fun o t2 => gFld c.B cs f o v s t2) p fun ρ H1 σa v y t r s w q => ?_
  refine ⟨ρ, σa, t, r, s, Post.bind q fun a t2 ρ2 H2 x _ f2 r2 w2 p2 => ?_⟩
  have k2 := r.keep f2
  have w := RV.mono k2 _ _ w
  have s := RS.mono k2 _ _ s
  unfold gFld at p2
  cases a with
  | ref n =>
    by_cases hb : c.B.length ≤ n
    · simp only [if_pos hb] at p2
      cases e1 : (c.B ++ t2)[n]? with
      | none => simp only [e1] at p2; exact p2.elim
      | some ob =>
        cases ob with
        | ins g fs =>
          simp only [e1] at p2
          by_cases hg : (cs.contains g && decide (fs.length < 1000)) = true
          · rw [if_pos hg] at p2
            rw [Bool.and_eq_true] at hg
            obtain ⟨l, rfl, hl, C, dx, vs, hC, hz, wv⟩ := r2.objAt w2 e1
            obtain ⟨c1, c2⟩ := hc g (by simpa using hg.1) C hC
            refine ⟨l, C, dx, vs, rfl, hz, c1, c2, by rw [wv.length]; exact of_decide_eq_true hg.2, ?_⟩
            obtain ⟨r', fw⟩ := r2.write (nb := c.B.length) (o := .ins g (putFA f v fs)) (o' := .ins C dx (L2.putF f y vs)) hl hb (fun o u z => by rw [hz] at z; cases z) (fun H' kp e => ⟨C, dx, _, hC, e, RKs.mono kp _ _ (RKs.putF w wv)⟩)
            rw [set_top hb] at r'
            exact p2 ρ2 _ (.nx σ) fw r' (RS.mono (r2.keep fw) _ _ s)
          · rw [if_neg hg] at p2; exact p2.elim
        | _ => simp only [e1] at p2; exact p2.elim
    · simp only [if_neg hb] at p2; exact p2.elim
  | _ => exact p2.elim
/-! names of the module -/
theorem se_glob {x : Str} {v : V} {u : Value} {a : A} {pos : Pos} (hg : Gl X x) (hm : X.mg x = some u) (r : RelV v u) (hr : ∀ ρ H, RV X.K c.γ ρ H a v) (hd : (x == ("__debug__" : Str)) = false := by decide) : SE c X (.Name x pos) (mCon a) := se_con (pe_glob hg hm r hd) hr
/-! what is not reached -/
theorem se_bad {e : Expr} : SE c X e (fun _ _ => .bad) := ⟨fun _ _ _ _ _ _ ⟨_, _, _, _, _, p⟩ => p.elim⟩
theorem st_bad {e : Expr} : ST c X e (fun _ _ => .bad) := ⟨fun _ _ _ _ _ _ ⟨_, _, _, _, _, p⟩ => p.elim⟩
theorem ss_bad {e : Stmt} : SS c X e (fun _ _ => .bad) := ⟨fun _ _ _ _ _ _ ⟨_, _, _, _, _, p⟩ => p.elim⟩
theorem sss_bad {e : List Stmt} : SSs c X e (fun _ _ => .bad) := ⟨fun _ _ _ _ _ _ ⟨_, _, _, _, _, p⟩ => p.elim⟩
end
end Ev
end
section
set_option Elab.async false
set_option linter.all false
set_option maxRecDepth 100000
set_option maxHeartbeats 400000
/-! Displays of dicts, dict comprehensions, dicts walked, more methods. -/
namespace Ev
open PySem PySem.Spec PyProof.Rows L2
section
variable {c : Cc} {X : Cx} {K : PySem.W.Frag} {γ : Gm} {ρ : List Addr} {H : Hp} {tg : Expr}
theorem Post.bindF {α β α' β' : Type} {R : List Addr → Hp → α → β → Prop} {R' : List Addr → Hp → α' → β' → Prop} {E : XK} {B : List O} {Q : β → Hp → Prop} {Q' : β' → Hp → Prop} {r : Res α} {k : α → List O → Res α'} {ρ1 ρc : List Addr} {H1 Hc : Hp}
    (h : Post K γ E B R' Q' (r.bind k) ρ1 H1) (fw : Fwd B.length ρ1 H1 ρc Hc) (hk : ∀ a t ρ' H' b, Fwd B.length ρc Hc ρ' H' → Rep K γ ρ' (B ++ t) H' → R ρ' H' a b → Post K γ E B R' Q' (k a t) ρ1 H1 → Q b H') : Post K γ E B R Q r ρc Hc := by
  cases r with
  | ok a t => exact fun ρ' H' b f q w => hk a t ρ' H' b f q w h
  | exc C fs t => exact fun ρ' H' C d vs g q hc hd w => h ρ' H' C d vs (fw.trans g) q hc hd w
  | bad => exact h.elim
/-! {k: v, ..} -/
def mPairs : List (ME × ME) → Sl → List O → Res (List (Key × A))
  | [], _, t => .ok [] t
  | (mk, mv) :: r, s, t => (mk s t).bind fun k t1 => (mv s t1).bind fun v t2 => match keyOf k with
    | some kk => (mPairs r s t2).bind fun kvs t3 => .ok ((kk, v) :: kvs) t3
    | none => .bad
def mergeA (kvs more : List (Key × A)) : List (Key × A) := more.foldl (fun acc kv => putA acc kv.1 kv.2) kvs
def mDisp (B : List O) (prs : List (ME × ME)) : ME := fun s t => (mPairs prs s t).bind fun kvs t1 => if kvs.length ≤ 15 then mkO B (.dic (mergeA [] kvs)) t1 else .bad
theorem RKs.merge : ∀ {more : List (Key × A)} {ms : List (Key × V)} {kvs : List (Key × A)} {vs : List (Key × V)}, RKs K γ ρ H more ms → RKs K γ ρ H kvs vs → RKs K γ ρ H (mergeA kvs more) (mergeK vs ms)
  | [], ms, kvs, vs, h, q => by
    have e : ms = [] := h
    subst e; exact q
  | x :: more, ms, kvs, vs, h, q => by
    obtain ⟨v, r, rfl, w, h⟩ := h
    exact RKs.merge (more := more) (ms := r) (kvs := putA kvs x.1 x.2) (vs := putK vs x.1 v) h (RKs.put q w)
theorem pairs_ok {D : Addr} {ρ1 : List Addr} {H1 : Hp} {Q : VK} {σ : L2.St} {s : Sl} (hD : H1 D = none) : ∀ (prs : List (ME × ME)) (acc : List (Key × A)) (vacc : List (Key × V)) (t : List O) (ρ : List Addr) (H : Hp),
    Post X.K c.γ c.E c.B (RV X.K c.γ) Q ((mPairs prs s t).bind fun kvs t1 => if (acc ++ kvs).length ≤ 15 then mkO c.B (.dic (mergeA [] (acc ++ kvs))) t1 else .bad) ρ1 H1 → Fwd c.B.length ρ1 H1 ρ H → D ∉ ρ → H D = some (.dK []) → Rep X.K c.γ ρ (c.B ++ t) H → RS X.K c.γ ρ H s σ → RKs X.K c.γ ρ H acc vacc →
    tPairs (prs.map fun x => (tM c X (RV X.K c.γ) x.1, tM c X (RV X.K c.γ) x.2)) σ H fun ps H2 => H2 D = some (.dK []) ∧ ∃ kvs : List (Key × V), (vacc.map fun kv => (kV kv.1, kv.2)) ++ ps = kvs.map (fun kv => (kV kv.1, kv.2)) ∧ kvs.length ≤ 15 ∧ Q (.ref D) (upd H2 D (.dK (mergeK [] kvs)))
  | [], acc, vacc, t, ρ, H, p, fw, hn, hd, r, rs, wa => by
    refine ⟨hd, vacc, List.append_nil _, ?_⟩
    have p' : Post X.K c.γ c.E c.B (RV X.K c.γ) Q (if (acc ++ []).length ≤ 15 then mkO c.B (.dic (mergeA [] (acc ++ []))) t else .bad) ρ1 H1 := p
    rw [List.append_nil] at p'
    by_cases hl : acc.length ≤ 15
    · rw [if_pos hl] at p'
      refine ⟨by rw [wa.length]; exact hl, ?_⟩
      obtain ⟨ro, ko⟩ := r.other (o' := .dK (mergeK [] vacc)) hd rfl hn
      have wm : RKs X.K c.γ ρ (upd H D (.dK (mergeK [] vacc))) (mergeA [] acc) (mergeK [] vacc) := RKs.mono ko _ _ (RKs.merge wa rfl)
      refine p' (ρ ++ [D]) _ (.ref D) ((fw.beside hD hn).adopt hD) (by rw [← List.append_assoc]; exact ro.adopt hn ⟨_, upd_same, RKs.mono ⟨⟨[D], rfl⟩, fun _ _ h => h⟩ _ _ wm⟩) ?_
      rw [rv_ref]
      have hl : c.B.length + t.length = ρ.length := by rw [r.len, List.length_append]
      exact ⟨D, by rw [hl]; simp, rfl⟩
    · rw [if_neg hl] at p'; exact p'.elim
  | (mk, mv) :: prs, acc, vacc, t, ρ, H, p, fw, hn, hd, r, rs, wa => by
    unfold mPairs at p
    rw [Res.bind_bind] at p
    refine ⟨ρ, s, t, r, rs, Post.bindF p fw fun k t1 ρ' H' kv f1 r1 w1 p1 => ?_⟩
    obtain ⟨n1, d1⟩ := f1.beyond hd hn
    have rs1 := RS.mono (r.keep f1) _ _ rs
    rw [Res.bind_bind] at p1
    refine ⟨ρ', s, t1, r1, rs1, Post.bindF p1 (fw.trans f1) fun v t2 ρ2 H2 vv f2 r2 w2 p2 => ?_⟩
    obtain ⟨n2, d2⟩ := f2.beyond d1 n1
    have k2 := r1.keep f2
    cases ek : keyOf k with
    | none => simp only [ek] at p2; exact p2.elim
    | some kk =>
      simp only [ek] at p2
      rw [Res.bind_bind] at p2
      have p3 : Post X.K c.γ c.E c.B (RV X.K c.γ) Q ((mPairs prs s t2).bind fun kvs t1 => if ((acc ++ [(kk, v)]) ++ kvs).length ≤ 15 then mkO c.B (.dic (mergeA [] ((acc ++ [(kk, v)]) ++ kvs))) t1 else .bad) ρ1 H1 := by
        have e : ∀ kvs : List (Key × A), (acc ++ [(kk, v)]) ++ kvs = acc ++ ((kk, v) :: kvs) := fun kvs => by rw [List.append_assoc]; rfl
        simp only [e]
        exact p2
      have q := pairs_ok hD prs (acc ++ [(kk, v)]) (vacc ++ [(kk, vv)]) t2 ρ2 H2 p3 ((fw.trans f1).trans f2) n2 d2 r2 (RS.mono k2 _ _ rs1) (RKs.append (RKs.mono ((r.keep f1).trans k2) _ _ wa) ⟨vv, [], rfl, w2, rfl⟩)
      have ekv := keyOf_ok ek w1
      subst ekv
      refine Eq.mp (congrArg (tPairs _ _ _) (funext fun ps => funext fun H3 => ?_)) q
      rw [List.map_append, List.append_assoc]
      rfl
theorem se_disp {pos : Pos} {keys : List (Option Expr)} {values : List Expr} {prs : List (ME × ME)} (h : PPs X pos keys values (prs.map fun x => (tM c X (RV X.K c.γ) x.1, tM c X (RV X.K c.γ) x.2))) (hall : keys.all (·.isSome) = true := by rfl) (hl : keys.length = values.length := by rfl) (h0 : keys ≠ [] := by exact fun h => nomatch h)
    (h15 : keys.length ≤ 15 := by decide) : SE c X (.Dict keys values pos) (mDisp c.B prs) := by
  refine PE.imp (pe_disp h hall hl h0 h15) fun σ H Q ⟨ρ, σa, t, r, s, p⟩ => ?_
  intro D hD
  have q := pairs_ok (X := X) (c := c) (σ := σ) (D := D) hD prs [] [] t ρ (upd H D (.dK [])) p ((Fwd.refl _ _).beside hD (r.fresh hD)) (r.fresh hD) upd_same (r.junk (nb := 0) hD).1 (RS.mono (r.keep (r.junk (nb := 0) hD).2) _ _ s) rfl
  exact q
/-! dict comprehensions -/
def dcGo (B : List O) (I : ItM) (g : MG) (mt : MT) (mk mv : ME) (s : Sl) : Nat → List (Key × A) → List O → Res (List (Key × A))
  | 0, acc, t => if I.fin (B ++ t) = true then .ok acc t else .bad
  | k + 1, acc, t => match I.get (I.n - (k + 1)) (B ++ t) with
    | none => .bad
    | some a => (g a s t).bind fun s1 t1 => (mt s1 t1).bind fun b t2 => match b with
      | true => (mk s1 t2).bind fun y t3 => (mv s1 t3).bind fun z t4 => match keyOf y with
        | some kk => dcGo B I g mt mk mv s k (putA acc kk z) t4
        | none => .bad
      | false => dcGo B I g mt mk mv s k acc t2
def mDc (B : List O) (vs : List Nat) (mi : MI) (g : MG) (mt : MT) (mk mv : ME) : ME := fun s t => (mi s t).bind fun I t1 =>
  if I.n ≤ sizeLine then (dcGo B I g mt mk mv (wipeA s vs) I.n [] t1).noX.bind fun ys t2 => mkO B (.dic ys) t2 else .bad
theorem length_putA {κ : Type} [DecidableEq κ] (kvs : List (κ × A)) (k : κ) (v : A) : (putA kvs k v).length ≤ kvs.length + 1 := by
  unfold putA
  split
  · rw [List.length_map]; omega
  · rw [List.length_append]; exact Nat.le_refl _
theorem dcGo_ok {vs : List Nat} {g : TG} {f : MG} {mt : MT} {mk mv : ME} {J : It} {I : ItM} {σ : L2.St} {σa : Sl} {Q : VK} {ρ1 : List Addr} {H1 : Hp} {t1 : List O} (hg : GOkV c.q X.K vs g f) (r1 : Rep X.K c.γ ρ1 (c.B ++ t1) H1) (s1 : RS X.K c.γ ρ1 H1 σa σ) (lk : Lk c X.K ρ1 H1 J I) (hn : I.n ≤ sizeLine)
    (q : Post X.K c.γ c.E c.B (RV X.K c.γ) Q ((dcGo c.B I f mt mk mv (wipeA σa vs) I.n [] t1).noX.bind fun ys t2 => mkO c.B (.dic ys) t2) ρ1 H1) {D : Addr} (hD : H1 D = none) :
    ∃ W : Nat → Nat → Hp → Prop, (∃ m, W 0 m (upd H1 D (.dK []))) ∧ ∀ i m H, W i m H →
  (J.stop i H ∧ Q (.ref D) H) ∨ (J.go i H ∧ ∃ Nx : Hp → Prop, (∀ H', Nx H' → ∃ m', m' < m ∧ W (i + 1) m' H') ∧ ∀ x H', J.yld i H x H' → g x (wipe σ vs) H' fun σ2 H2 => wipe σ2 vs = wipe σ vs ∧ tM c.q X RB mt σ2 H2 fun b H3 =>
    if b = true then tM c.q X (RV X.K c.γ) mk σ2 H3 fun y H4 => tM c.q X (RV X.K c.γ) mv σ2 H4 fun z H5 => ∃ kvs k, y = kV k ∧ H5 D = some (.dK kvs) ∧ kvs.length < sizeLine ∧ Nx (upd H5 D (.dK (putK kvs k z))) else Nx H3) := by
  let P : Nat → Nat → Hp → Prop := fun i m H => ∃ ρ t acc vacc, i + m = I.n ∧ acc.length ≤ i ∧ Fwd c.B.length ρ1 H1 ρ H ∧ D ∉ ρ ∧ H D = some (.dK vacc) ∧ Rep X.K c.γ ρ (c.B ++ t) H ∧ RKs X.K c.γ ρ H acc vacc ∧
    Post X.K c.γ c.E c.B (RV X.K c.γ) Q ((dcGo c.B I f mt mk mv (wipeA σa vs) m acc t).noX.bind fun ys t2 => mkO c.B (.dic ys) t2) ρ1 H1
  refine ⟨P, ⟨I.n, ρ1, t1, [], [], by omega, Nat.le_refl _, (Fwd.refl _ _).beside hD (r1.fresh hD), r1.fresh hD, upd_same, (r1.junk (nb := 0) hD).1, rfl, q⟩, ?_⟩
  rintro i m H ⟨ρ, t, acc, vacc, him, hacc, fw, hDn, hDv, r, wacc, p⟩
  have kp : Keep X.K ρ1 H1 ρ H := r1.keep fw
  obtain ⟨l1, l2⟩ := lk ρ t H kp (fun a o u h => fw.frz a o u h) r
  cases m with
  | zero =>
    unfold dcGo at p
    by_cases hfin : I.fin (c.B ++ t) = true
    · rw [if_pos hfin] at p
      have e : i = I.n := by omega
      subst e
      refine .inl ⟨l2 hfin, ?_⟩
      have p' : Post X.K c.γ c.E c.B (RV X.K c.γ) Q (mkO c.B (.dic acc) t) ρ1 H1 := p
      refine p' (ρ ++ [D]) H (.ref D) (fw.adopt hD) (by rw [← List.append_assoc]; exact r.adopt hDn ⟨vacc, hDv, RKs.mono ⟨⟨[D], rfl⟩, fun _ _ h => h⟩ _ _ wacc⟩) ?_
      rw [rv_ref]
      have hl : c.B.length + t.length = ρ.length := by rw [r.len, List.length_append]
      exact ⟨D, by rw [hl]; simp, rfl⟩
    · rw [if_neg hfin] at p; exact p.elim
  | succ m =>
    unfold dcGo at p
    have e : I.n - (m + 1) = i := by omega
    rw [e] at p
    cases eg : I.get i (c.B ++ t) with
    | none => rw [eg] at p; exact p.elim
    | some a =>
      rw [eg] at p
      obtain ⟨go, yl⟩ := l1 i a (by omega) eg
      refine .inr ⟨go, P (i + 1) m, fun H' h => ⟨m, Nat.lt_succ_self m, h⟩, fun x H' y => ?_⟩
      obtain ⟨fx, r2, w⟩ := yl x H' y
      obtain ⟨n2, d2⟩ := fx.beyond hDv hDn
      have fw2 := fw.trans fx
      have wacc2 := RKs.mono (r.keep fx) _ _ wacc
      have s2 : RS X.K c.γ ρ H' (wipeA σa vs) (wipe σ vs) := (RS.mono (r1.keep fw2) _ _ s1).wipe vs
      refine hg ρ t H' (wipe σ vs) (wipeA σa vs) x a _ r2 s2 w (Post.bindX p fun sg tg ρg Hg σg fg rg wg pg => ?_)
      obtain ⟨wg, wg2⟩ := wg
      rw [wipe_wipe] at wg2
      refine ⟨wg2, ρg, sg, tg, rg, wg, ?_⟩
      obtain ⟨ng, dg⟩ := fg.beyond d2 n2
      have waccg := RKs.mono (r2.keep fg) _ _ wacc2
      refine Post.bindX pg fun b tb ρb Hb bb fb rb wb pb => ?_
      cases wb
      obtain ⟨nb, db⟩ := fb.beyond dg ng
      have waccb := RKs.mono (rg.keep fb) _ _ waccg
      have fwb := (fw2.trans fg).trans fb
      cases b with
      | false =>
        rw [if_neg Bool.false_ne_true]
        exact ⟨ρb, tb, acc, vacc, by omega, by omega, fwb, nb, db, rb, waccb, pb⟩
      | true =>
        rw [if_pos rfl]
        refine ⟨ρb, sg, tb, rb, RS.mono (rg.keep fb) _ _ wg, Post.bindX pb fun yy ty ρy Hy yv fy ry wy py => ?_⟩
        obtain ⟨ny, dy⟩ := fy.beyond db nb
        refine ⟨ρy, sg, ty, ry, RS.mono ((rg.keep fb).trans (rb.keep fy)) _ _ wg, Post.bindX py fun zz tz ρz Hz zv fz rz wz pz => ?_⟩
        obtain ⟨nz, dz⟩ := fz.beyond dy ny
        have waccz := RKs.mono ((rb.keep fy).trans (ry.keep fz)) _ _ waccb
        have hlen := waccz.length
        cases ek : keyOf yy with
        | none => simp only [ek] at pz; exact pz.elim
        | some kk =>
          simp only [ek] at pz
          refine ⟨vacc, kk, keyOf_ok ek wy, dz, by omega, ?_⟩
          obtain ⟨ro, ko⟩ := rz.other (o' := .dK (putK vacc kk zv)) dz rfl nz
          have hl2 := length_putA acc kk zz
          exact ⟨ρz, tz, putA acc kk zz, putK vacc kk zv, by omega, by omega, ((fwb.trans fy).trans fz).beside hD nz, nz, upd_same, ro, RKs.mono ko _ _ (RKs.put waccz wz), pz⟩
theorem se_dc {kx vx tg iter : Expr} {ifs : List Expr} {scope : Scope} {own : List (Str × Nat)} {pos : Pos} {g : TG} {f : MG} {mi : MI} {mt : MT} {mk mv : ME} (hc : X.calm = true) (hN : X.N.Nodup) (hi : SI c X tg iter mi) (ok : BlkOk X.N X.env.scope scope own)
    (hf : GOkV c.q X.K (own.map (·.2)) g f)
    (hg : ∀ (s : Shared) (H : Hp) (C : Addr) (cl : List (Str × Addr)) (fp : List Addr), PG (X.blk s H scope (compEnvC scope cl C X.env) fp) tg g) (ht : ∀ (s : Shared) (H : Hp) (C : Addr) (cl : List (Str × Addr)) (fp : List Addr), PTs (X.blk s H scope (compEnvC scope cl C X.env) fp) ifs (tM c.q (X.blk s H scope (compEnvC scope cl C X.env) fp) RB mt))
    (hk : ∀ (s : Shared) (H : Hp) (C : Addr) (cl : List (Str × Addr)) (fp : List Addr), SE c.q (X.blk s H scope (compEnvC scope cl C X.env) fp) kx mk)
    (he : ∀ (s : Shared) (H : Hp) (C : Addr) (cl : List (Str × Addr)) (fp : List Addr), SE c.q (X.blk s H scope (compEnvC scope cl C X.env) fp) vx mv) (hs : ∀ x, foldedSetIterable iter X.env x = pure x := by intro _; rfl) :
    SE c X (.DictComp kx vx [⟨tg, iter, ifs, 0⟩] scope pos) (mDc c.B (own.map (·.2)) mi f mt mk mv) := by
  refine PE.imp (pe_dc (tt := tM c.q X RB mt) (tk := tM c.q X (RV X.K c.γ) mk) (tv := tM c.q X (RV X.K c.γ) mv) hc hN hi ok hg ht hk he hs) fun σ H Q p => ?_
  refine tM.bind (R := RIt c X.K) (m := mi) (k := fun s (I : ItM) t1 => if I.n ≤ sizeLine then (dcGo c.B I f mt mk mv (wipeA s (own.map (·.2))) I.n [] t1).noX.bind fun ys t2 => mkO c.B (.dic ys) t2 else .bad) p fun ρ H1 σa I J t r s lk q => ?_
  intro D hD
  by_cases hn : I.n ≤ sizeLine
  · rw [if_pos hn] at q
    exact dcGo_ok hf r s lk hn q hD
  · rw [if_neg hn] at q; exact q.elim
/-! a dict that is walked is locked for good -/
theorem pi_keysN {e : Expr} {td : TE} (he : PE X e td) : PI X tg e (fun σ H R => td σ H fun x H1 => ∃ d kvs, x = .ref d ∧ ((H1 d = some (.dK kvs) ∧ ∀ o, R (Itk d o kvs) (upd H1 d (.frz o (.dK kvs)))) ∨ ∃ o, H1 d = some (.frz o (.dK kvs)) ∧ R (Itk d o kvs) H1)) := by
  refine ⟨fun pins s σ H R I h => ?_⟩
  refine thn (he.run pins s σ H _ I h) fun u s1 ⟨x, H1, I1, rx, d, kvs, ex, q⟩ => ?_
  subst ex
  obtain rfl : u = Value.ref d := rx
  have fin : ∀ {H1 : Hp} {o : Obj}, Inv X pins σ H1 s1 → H1 d = some (.frz o (.dK kvs)) → R (Itk d o kvs) H1 → wpAny (model X.prog X.w) X.A (pyIter (.ref d)) (PIE X pins σ tg R) X.xe s1 := fun {H1 o} I1 hd q => by
    obtain ⟨hs, hgd, hx, es, ep, vs, hdt, hsz, kv, hm⟩ := I1.frzK hd
    refine iter_keys hs hgd hx hdt (pi_one (tk := s1.toks) I1 _ (turn_keys _ hdt) ⟨_, Heap.get?_push_size _ rfl, rfl, ?_⟩ q)
    rw [hsz] <;> rfl
  rcases q with ⟨hd, q⟩ | ⟨o, hd, q⟩
  · obtain ⟨od, I2⟩ := I1.lock hd trivial
    exact fin I2 upd_same (q od)
  · exact fin I1 hd q
theorem pi_valuesN {e : Expr} {td : TE} {apos cpos : Pos} (he : PE X e td) (hbase : attributeBase e "values" X.env (eval e X.env) = eval e X.env := by rfl) (hline : (apos.endLine == cpos.line) = true := by rfl) : PI X tg (.Call (.Attribute e "values" apos) [] [] cpos) (fun σ H R => td σ H fun x H1 => ∃ d kvs, x = .ref d ∧ ((H1 d = some (.dK kvs) ∧ ∀ o, R (Itd d o kvs) (upd H1 d (.frz o (.dK kvs)))) ∨ ∃ o, H1 d = some (.frz o (.dK kvs)) ∧ R (Itd d o kvs) H1)) := by
  refine ⟨fun pins s σ H R I h => ?_⟩
  refine wpAny_Call_method (T := "dict") (id := "dict.values") hbase rfl hline F.plainAttrs_dict F.slot_dict_values F.type_dict_values (thn (he.run pins s σ H _ I h) fun u s1 ⟨x, H1, I1, rx, d, kvs, ex, q⟩ => ?_)
  subst ex
  obtain rfl : u = Value.ref d := rx
  have fin : ∀ {H1 : Hp} {o : Obj}, Inv X pins σ H1 s1 → H1 d = some (.frz o (.dK kvs)) → R (Itd d o kvs) H1 → s1.TypeIs (.ref d) "dict" ∧ (∀ b, Value.ref d = .ref b → ∃ ob, s1.heap.get? b = some ob ∧ ob.dict = none) ∧ wpAny (model X.prog X.w) X.A (callWith cpos (.builtin "dict.values") [.ref d] (backTo cpos (starEach [] X.env)) (backToKw cpos (keywordEach [] X.env))) (fun v s' => wpAny (model X.prog X.w) X.A (pyIter v) (PIE X pins σ tg R) X.xe s') X.xe s1 := fun {H1 o} I1 hd q => by
    obtain ⟨hs, hgd, hx, es, ep, vs, hdt, hsz, kv, hm⟩ := I1.frzK hd
    have hl : kvs.length = vs.length := Paired.length kv
    refine ⟨hm.dictOf.typeIs, hm.dictOf.mapOf.noDict, ?_⟩
    have I2 : Inv X pins σ H1 { s1 with heap := s1.heap.push { cls := .type "dict_values", data := .fields #[.ref d] } } := I1.kept (t' := s1.toks) fun b ob q => Heap.get?_push_of_some _ q
    have fin : wpAny (model X.prog X.w) X.A (pyIter (.ref s1.heap.objs.size)) (PIE X pins σ tg R) X.xe { s1 with heap := s1.heap.push { cls := .type "dict_values", data := .fields #[.ref d] } } := by
      refine wpAny_pyIter_values (d := d) (knd := mixKind X.prog X.w) ⟨_, Heap.get?_push_size _ rfl, rfl, rfl⟩ (hm.push _) (pi_one (tk := s1.toks) I2 _ (turn_vals _ hdt) ⟨_, Heap.get?_push_size _ rfl, rfl, ?_⟩ q)
      rw [hl] <;> rfl
    show wpAny _ _ (callWith cpos (.builtin "dict.values") [.ref d] [] []) _ X.xe s1
    exact method_meetsIn F.slot_dict_values F.entry_dict_values rfl (PySem.evalArgs_none ⟨rfl, hm.dictOf.typeIs, F.args_dict_values_1 _, _, meets_dict_values (mixKind X.prog X.w) d hs, ⟨vs, hm.dictOf⟩, fin⟩)
  rcases q with ⟨hd, q⟩ | ⟨o, hd, q⟩
  · obtain ⟨od, I2⟩ := I1.lock hd trivial
    exact fin I2 upd_same (q od)
  · exact fin I1 hd q
def onN (B : List O) (f : List (Key × A) → List A) : A → List O → Res ItM
  | .ref n, t => if B.length ≤ n then (match (B ++ t)[n]? with
    | some (.fz kvs) => .ok (itL (f kvs)) t
    | some (.dic kvs) => .ok (itL (f kvs)) (t.set (n - B.length) (.fz kvs))
    | _ => .bad) else .bad
  | _, _ => .bad
theorem onN_ok {f : List (Key × A) → List A} {ρ : List Addr} {H : Hp} {R : It → Hp → Prop} {J : Addr → Obj → List (Key × V) → It} {a : A} {x : V} {t : List O} (r : Rep X.K c.γ ρ (c.B ++ t) H) (w : RV X.K c.γ ρ H a x) (q : Post X.K c.γ c.E c.B (RIt c X.K) R (onN c.B f a t) ρ H)
    (lk : ∀ ρ H a o kvs vs, H a = some (.frz o (.dK vs)) → RKs X.K c.γ ρ H kvs vs → Lk c X.K ρ H (J a o vs) (itL (f kvs))) : ∃ d vs, x = .ref d ∧ ((H d = some (.dK vs) ∧ ∀ o, R (J d o vs) (upd H d (.frz o (.dK vs)))) ∨ ∃ o, H d = some (.frz o (.dK vs)) ∧ R (J d o vs) H) := by
  cases a with
  | ref n =>
    unfold onN at q
    by_cases hb : c.B.length ≤ n
    · simp only [if_pos hb] at q
      cases e1 : (c.B ++ t)[n]? with
      | none => simp only [e1] at q; exact q.elim
      | some ob =>
        cases ob with
        | fz kvs =>
          simp only [e1] at q
          obtain ⟨d, rfl, hd, o, vs, e2, wk⟩ := r.objAt w e1
          exact ⟨d, vs, rfl, .inr ⟨o, e2, Post.now (b := J d o vs) q r (lk ρ H d o kvs vs e2 wk)⟩⟩
        | dic kvs =>
          simp only [e1] at q
          obtain ⟨d, rfl, hd, vs, e2, wk⟩ := r.objAt w e1
          refine ⟨d, vs, rfl, .inl ⟨e2, fun o => ?_⟩⟩
          obtain ⟨r', f'⟩ := r.write (nb := c.B.length) (o := .fz kvs) (o' := .frz o (.dK vs)) hd hb (fun o u z => by rw [e2] at z; cases z) (fun H' kp e => ⟨o, vs, e, RKs.mono kp _ _ wk⟩)
          rw [set_top hb] at r'
          exact q ρ _ (J d o vs) f' r' (lk ρ _ d o kvs vs upd_same (RKs.mono (r.keep f') _ _ wk))
        | _ => simp only [e1] at q; exact q.elim
    · simp only [if_neg hb] at q; exact q.elim
  | _ => exact q.elim
def mIN (B : List O) (f : List (Key × A) → List A) (ma : ME) : MI := fun s t => (ma s t).bind (onN B f)
theorem si_keysN {e : Expr} {ma : ME} (h : SE c X e ma) : SI c X tg e (mIN c.B ksA ma) := by
  refine PI.imp (pi_keysN h) fun σ H R p => ?_
  refine tM.bind (R := RV X.K c.γ) (m := ma) (k := fun _ (a : A) t1 => onN c.B ksA a t1) p fun ρ H1 σa a x t r s w q => ?_
  exact onN_ok (J := Itk) r w q fun ρ H a o kvs vs e w => lk_keys e w
theorem si_valsN {e : Expr} {apos cpos : Pos} {ma : ME} (h : SE c X e ma) (hbase : attributeBase e "values" X.env (eval e X.env) = eval e X.env := by rfl) (hline : (apos.endLine == cpos.line) = true := by rfl) : SI c X tg (.Call (.Attribute e "values" apos) [] [] cpos) (mIN c.B vsA ma) := by
  refine PI.imp (pi_valuesN h hbase hline) fun σ H R p => ?_
  refine tM.bind (R := RV X.K c.γ) (m := ma) (k := fun _ (a : A) t1 => onN c.B vsA a t1) p fun ρ H1 σa a x t r s w q => ?_
  exact onN_ok (J := Itd) r w q fun ρ H a o kvs vs e w => lk_vals e w
end
end Ev
end
section
set_option Elab.async false
set_option linter.all false
set_option maxRecDepth 100000
set_option maxHeartbeats 400000
/-! enumerate of lists and tuples, zip of a text and a tuple. -/
namespace PySem
set_option maxHeartbeats 1000000 in
theorem meets_enum1 {v : Value} {o : Obj} {H : Heap → Prop} (B : Begins v o H) :
    Meets (Builtin.«enumerate.__new__» ⟨[.type "enumerate", v], []⟩) (fun _ R s => H s.heap ∧
      R (.ok (.ret (.ref (s.heap.push o).objs.size))) { s with heap := (s.heap.push o).push { cls := .type "enumerate", data := .fields #[.none, .bool false, .ref s.heap.objs.size, rawInt 0, .none, .none] } }) :=
  .of_wp fun prog w A R s h => by
    obtain ⟨hp, g, d, tk, os⟩ := s; obtain ⟨h1, h⟩ := h
    have hsub := sub_enumerate
    have q1 : ∀ {A' : Around} {E : Value → Shared → Prop} {Q : Value → Shared → Prop}, Q (.ref hp.objs.size) ⟨hp.push o, g, d, tk, os⟩ → wpAny (model prog w) A' (pyIter v) Q E ⟨hp, g, d, tk, os⟩ :=
      fun q => B.iter prog w _ _ ⟨hp, g, d, tk, os⟩ _ h1 q
    wp_walk using q1
    refine wpAny_stack_any fun st => wpAny_pure ?_
    split
    · rename_i c _ _ _ _ _
      cases (c == Value.type "enumerate")
      · wp_walk using q1
        exact ⟨_, rfl, h⟩
      · wp_walk using q1
        exact ⟨_, rfl, h⟩
    · wp_walk using q1
      exact ⟨_, rfl, h⟩
section
variable {prog : Program} {w : World} {A : Around} {E : Value → Shared → Prop} {s : Shared}
theorem enum1_begins {v : Value} {o : Obj} {H : Heap → Prop} {Q : Value → Shared → Prop} (B : Begins v o H) (h1 : H s.heap)
    (h : ∀ h', IsEnum h' (s.heap.objs.size + 1) s.heap.objs.size 0 .none → h'.get? s.heap.objs.size = some o → h'.objs.size = s.heap.objs.size + 2 →
      (∀ b o, s.heap.get? b = some o → h'.get? b = some o) → Q (.ref (s.heap.objs.size + 1)) { s with heap := h' }) :
    wpAny (model prog w) A (call (.type "enumerate") [v]) Q E s := by
  refine callType_new F.called_enumerate (by decide) (F.typeCall_enumerate_1 _) (F.newCall_enumerate_1 _) (fun obj => F.args_object_init_2 obj _) F.entry_enumerate_new
    (meets_enum1 B) ⟨h1, ?_⟩
  have hz : (s.heap.push o).objs.size = s.heap.objs.size + 1 := Heap.size_push ..
  show _ ∧ _
  rw [hz]
  have he : IsEnum ((s.heap.push o).push { cls := .type "enumerate", data := .fields #[.none, .bool false, .ref s.heap.objs.size, rawInt 0, .none, .none] }) (s.heap.objs.size + 1) s.heap.objs.size 0 .none := by
    have := Heap.get?_push_size (s.heap.push o) (o := { cls := .type "enumerate", data := .fields #[.none, .bool false, .ref s.heap.objs.size, rawInt 0, .none, .none] }) rfl
    rw [hz] at this; exact this
  refine ⟨⟨_, he, rfl⟩, h _ he (Heap.get?_push_of_some _ (Heap.get?_push_size _ B.free)) (by rw [Heap.size_push, hz]) fun b o x => Heap.get?_push_of_some _ (Heap.get?_push_of_some _ x)⟩
end
end PySem
namespace Ev
open PySem PySem.Spec PyProof.Rows L2
/-- the tuple at a, each item in a new pair -/
def IteT (K : PySem.W.Frag) (a : Addr) : It :=
  ⟨fun i H => ∃ (xs : List V) (x : V), SqT K H a xs ∧ xs[i]? = some x, fun i H v H' => ∃ T x, v = .ref T ∧ H T = none ∧ H' = upd H T (.tup [.int (i : Nat), x]) ∧ ∀ xs, SqT K H a xs → xs[i]? = some x, fun i H => ∃ xs : List V, SqT K H a xs ∧ xs.length = i⟩
theorem tup_ne {h : Heap} {a b : Addr} {its : Array Value} {o : Obj} {n : String} (p : h.IsTuple a its) (e : h.get? b = some o) (hc : o.cls = .type n) (hn : n ≠ "tuple") : a ≠ b := by
  rintro rfl
  obtain ⟨o', e', c', _⟩ := p
  rw [e] at e'
  cases e'
  rw [hc] at c'
  exact hn (by injection c')
theorem turn_enumT {P : Program} {w : World} {K : PySem.W.Frag} {elts : List Expr} {kk : Nat} {tpos : Pos} (a e it : Addr) :
    Turn P w K (.Tuple elts kk tpos) (IteT K a) [e, it] e (fun i h => (∃ old, IsEnum h e it ((i : Nat) : Int) old) ∧ h.IsTupleIter it a i ∧ e ≠ it) where
  mem := by simp
  obj := fun i h st b hb => by
    obtain ⟨⟨old, he⟩, ⟨o, ho, hc, hd⟩, _⟩ := st
    have e' : b = e ∨ b = it := by simpa using hb
    rcases e' with z | z
    · rw [z]; exact ⟨_, he, fun v q => nomatch q⟩
    · rw [z]; exact ⟨o, ho, fun v q => by rw [hd] at q; cases q⟩
  keep := fun i h h' st k => let ⟨⟨old, he⟩, hi, hne⟩ := st; ⟨⟨old, k e (by simp) _ he⟩, hi.at fun o q => k it (by simp) o q, hne⟩
  item := by
    intro X hP hw hK hc i pins s σ H E I hf st hg
    subst hP hw hK
    obtain ⟨⟨old, he⟩, hit, hne⟩ := st
    obtain ⟨xs, x, hq, hx⟩ := hg
    obtain ⟨its, rv, p, hz⟩ := I.tuple hq
    obtain ⟨u, hu, ru⟩ := rv.get hx
    have hel : e < s.heap.objs.size := Heap.lt_size he
    have hil : it < s.heap.objs.size := by obtain ⟨_, q, _⟩ := hit; exact Heap.lt_size q
    obtain ⟨oi, hoi, hci, _⟩ := id hit
    have nai : a ≠ it := tup_ne p hoi hci (by decide)
    have nae : a ≠ e := tup_ne p he rfl (by decide)
    have hlt : i < its.toArray.size := by
      rw [List.size_toArray]
      exact (List.getElem?_eq_some_iff.mp hu).1
    refine wpAny_pyNext_enum_itemD (Draws.tuple (A := X.A.in1) (I.ok.hd hc) it a nai its.toArray) he ⟨hit, p⟩ hlt hne (by simp only [List.mem_cons, List.not_mem_nil, or_false, not_or]; exact ⟨hne, fun z => nae z.symm⟩) fun y h' tk hy ho hst hT hsz hk => ?_
    obtain ⟨hit', _⟩ := hst
    have ey : y = u := by
      have hy' : its.toArray[i]? = some y := hy
      rw [List.getElem?_toArray, hu] at hy'
      exact (Option.some.inj hy').symm
    subst ey
    refine ⟨_, rfl, wpAny_letOwnedTupleGo_enum (s := { s with heap := h', toks := tk + 1 }) ho fun h'' he' sb => ?_⟩
    have hT2 : h''.get? s.heap.objs.size = some { cls := .type "tuple", data := .seq #[.int i tk, y] } := (sb.2 _ (Nat.ne_of_gt hel)).trans hT
    have new : ObjOk X.prog X.w (upd H s.heap.objs.size (.tup [.int (i : Nat), x])) h'' s.heap.objs.size (.tup [.int (i : Nat), x]) :=
      ⟨by show 2 ≤ sizeLine; decide, [.int i tk, y], .cons ⟨_, rfl⟩ (.cons ru .nil), ⟨_, hT2, rfl, _, rfl⟩⟩
    have I1 : Inv X pins σ (upd H s.heap.objs.size (.tup [.int (i : Nat), x])) { s with heap := h'', toks := tk + 1 } :=
      I.turnedNew (ch := [e, it]) (fun b ob hb q => (sb.2 b (fun z => hb (by simp [z]))).trans (hk b ob (fun z => hb (by simp [z])) (fun z => hb (by simp [z])) q)) hf (Nat.le_refl _) new
    refine ⟨.ref s.heap.objs.size, _, I1, rfl, ⟨_, x, rfl, I.hok.fresh (Nat.le_refl _), rfl, fun ys hy => by rw [I.tuple_inj hy hq]; exact hx⟩, ⟨⟨y, ?_⟩, hit'.at fun o q => (sb.2 it (Ne.symm hne)).trans q, hne⟩, fun b hb => ?_⟩
    · have e1 : ((i + 1 : Nat) : Int) = (i : Int) + 1 := by omega
      rw [e1]; exact he'
    · have hb' : b < s.heap.objs.size := by
        have e' : b = e ∨ b = it := by simpa using hb
        rcases e' with z | z
        · rw [z]; exact hel
        · rw [z]; exact hil
      rw [upd_ne (Nat.ne_of_lt hb')]
      exact (hf b hb).1
  done := by
    intro X hP hw hK hc i pins s σ H E I hf st hg
    subst hP hw hK
    obtain ⟨⟨old, he⟩, hit, hne⟩ := st
    obtain ⟨xs, hq, hx⟩ := hg
    obtain ⟨its, rv, p, hz⟩ := I.tuple hq
    obtain ⟨f0, f1, f2, f3, f4, f5⟩ := hf it (by simp)
    obtain ⟨oi, hoi, hci, _⟩ := id hit
    have nai : a ≠ it := tup_ne p hoi hci (by decide)
    have hl := rv.length
    have en : its.toArray.size = i := by rw [List.size_toArray]; omega
    subst en
    exact wpAny_pyNext_enum_endD (Draws.tuple (A := X.A.in1) (I.ok.hd hc) it a nai its.toArray) he ⟨hit, p⟩ fun h' eb => ⟨rfl, I.turned (t' := s.toks) (fun b o hb q => eb b o hb q) f0 f1 f3 f4 f5⟩
  self := fun A i s Q E st h => let ⟨⟨_, he⟩, _⟩ := st; wpAny_pyIter_enum he h
theorem pi_enumT {X : Cx} {e : Expr} {ta : TA} {p pos tpos : Pos} {elts : List Expr} {kk : Nat} (hg : Gl X "enumerate") (hm : X.mg "enumerate" = none) (ha : PA X [e] ta) (hs : starEach [e] X.env = [(false, eval e X.env)] := by rfl) :
    PI X (.Tuple elts kk tpos) (.Call (.Name "enumerate" p) [e] [] pos) (fun σ H R => ta σ H fun vs H1 => ∃ a xs, vs = [.ref a] ∧ ((SqL X.K H1 a xs ∧ R (Ite X.K a) H1) ∨ (SqT X.K H1 a xs ∧ R (IteT X.K a) H1))) := by
  refine ⟨fun pins s σ H R I h => ?_⟩
  refine Call_ (ld_blt I hg hm boot_enumerate (PyProof.Rows.callWith_type1 (thn (ha.run pos pins s σ H _ I h) fun us s1 ⟨vs, H1, I1, r1, q1⟩ => ?_) hs rfl))
  obtain ⟨a, xs, ex, q⟩ := q1
  subst ex
  cases r1 with
  | cons r rr =>
    cases rr
    cases r
    have fin : ∀ b ∈ [s1.heap.objs.size + 1, s1.heap.objs.size], FpOk X pins H1 b := fun b hb => by
      have e' : b = s1.heap.objs.size + 1 ∨ b = s1.heap.objs.size := by simpa using hb
      have hle : s1.heap.objs.size ≤ b := by
        rcases e' with z | z
        · rw [z]; exact Nat.le_add_right _ _
        · rw [z]; exact Nat.le_refl _
      exact I1.fpOk hle (I1.hok.fresh hle)
    rcases q with ⟨hq, q⟩ | ⟨hq, q⟩
    · obtain ⟨its, rv, p', hz⟩ := I1.list hq
      refine call_enumerate_list p'.isList fun h' he hit hsz hk => wpAny_pyIter_enum he ?_
      have I2 : Inv X pins σ H1 { s1 with heap := h' } := I1.kept (t' := s1.toks) hk
      exact ⟨s1.heap.objs.size + 1, [s1.heap.objs.size + 1, s1.heap.objs.size], _, _, H1, rfl, I2, turn_enum a (s1.heap.objs.size + 1) s1.heap.objs.size, ⟨⟨.none, he⟩, hit, Nat.succ_ne_self _⟩, fin, q⟩
    · obtain ⟨its, rv, p', hz⟩ := I1.tuple hq
      refine enum1_begins (begins_tuple a its.toArray) p' fun h' he hit hsz hk => wpAny_pyIter_enum he ?_
      have I2 : Inv X pins σ H1 { s1 with heap := h' } := I1.kept (t' := s1.toks) hk
      exact ⟨s1.heap.objs.size + 1, [s1.heap.objs.size + 1, s1.heap.objs.size], _, _, H1, rfl, I2, turn_enumT a (s1.heap.objs.size + 1) s1.heap.objs.size, ⟨⟨.none, he⟩, ⟨_, hit, rfl, rfl⟩, Nat.succ_ne_self _⟩, fin, q⟩
/-! zip(text, tuple) -/
def ItzS (K : PySem.W.Frag) (z : Str) (a : Addr) : It :=
  ⟨fun i H => ∃ (xs : List V) (k : Nat) (x : V), SqT K H a xs ∧ z.cps[i]? = some k ∧ xs[i]? = some x,
    fun i H v H' => ∃ T k x, v = .ref T ∧ H T = none ∧ H' = upd H T (.tup [.str ⟨#[k]⟩, x]) ∧ z.cps[i]? = some k ∧ ∀ xs, SqT K H a xs → xs[i]? = some x,
    fun i H => ∃ xs : List V, SqT K H a xs ∧ i ≤ z.cps.size ∧ i ≤ xs.length ∧ (i = z.cps.size ∨ i = xs.length)⟩
theorem turn_zipS {P : Program} {w : World} {K : PySem.W.Frag} {elts : List Expr} {kk : Nat} {tpos : Pos} {z : Str} {tk0 : Tok} {a N : Addr} :
    Turn P w K (.Tuple elts kk tpos) (ItzS K z a) [N + 4, N + 2, N + 3, N, N + 1] (N + 4) (fun i h => IsZip h (N + 4) (N + 2) (N + 3) .none ∧ IsTupOf2 h (N + 2) (.ref N) (.ref (N + 1)) ∧ (∃ x y, IsTupOf2 h (N + 3) x y) ∧ h.IsStrIter N (strIterType z) z tk0 i ∧ h.IsTupleIter (N + 1) a i ∧ a < N) where
  mem := by simp
  obj := fun i h st c hc => by
    obtain ⟨hz, hTI, ⟨x, y, hTO⟩, ⟨o1, e1, _, d1⟩, ⟨o2, e2, _, d2⟩, _⟩ := st
    have e' : c = N + 4 ∨ c = N + 2 ∨ c = N + 3 ∨ c = N ∨ c = N + 1 := by simpa using hc
    rcases e' with q | q | q | q | q
    · rw [q]; exact ⟨_, hz, fun v q => nomatch q⟩
    · rw [q]; exact ⟨_, hTI, fun v q => nomatch q⟩
    · rw [q]; exact ⟨_, hTO, fun v q => nomatch q⟩
    · rw [q]; exact ⟨o1, e1, fun v q => by rw [d1] at q; cases q⟩
    · rw [q]; exact ⟨o2, e2, fun v q => by rw [d2] at q; cases q⟩
  keep := fun i h h' st k => by
    obtain ⟨hz, hTI, ⟨x, y, hTO⟩, ⟨o1, e1, r1⟩, h2, hl⟩ := st
    exact ⟨k _ (by simp) _ hz, k _ (by simp) _ hTI, ⟨x, y, k _ (by simp) _ hTO⟩, ⟨o1, k _ (by simp) _ e1, r1⟩, h2.at fun o q => k _ (by simp) o q, hl⟩
  item := by
    intro X hP hw hK hc i pins s σ H E I hf st hg
    subst hP hw hK
    obtain ⟨hz, hTI, ⟨x0, y0, hTO⟩, h1, h2, hl⟩ := st
    obtain ⟨xs, k, x, hq, hk', hx⟩ := hg
    obtain ⟨its, rv, p, _⟩ := I.tuple hq
    obtain ⟨u, hu, ru⟩ := rv.get hx
    have hzl : N + 4 < s.heap.objs.size := Heap.lt_size hz
    have S := zip_sep2 (N := N) (fp1 := []) (fp2 := [a]) (by simp) (by simpa using hl)
    have hl1 : i < z.cps.size := (Array.getElem?_eq_some_iff.mp hk').1
    have hl2 : i < its.toArray.size := by
      rw [List.size_toArray]
      exact (List.getElem?_eq_some_iff.mp hu).1
    refine wpAny_pyNext_zipD2_item S (Draws.text (A := X.A.in1) (I.ok.hd hc) N z tk0) (Draws.tuple (A := X.A.in1) (I.ok.hd hc) (N + 1) a (Nat.ne_of_lt (Nat.lt_succ_of_lt hl)) its.toArray) hz hTI hTO h1 ⟨h2, p⟩ hl1 hl2 fun u1 u2 h' tk p1 p2 z' TO' h1' h2' hT hsz hk => ?_
    obtain ⟨h2', _⟩ := h2'
    obtain ⟨k2, t2, ek2, rfl⟩ := p1
    have ek : k2 = k := by rw [hk'] at ek2; exact (Option.some.inj ek2).symm
    subst ek
    have eu : u2 = u := by
      have hy' : its.toArray[i]? = some u2 := p2
      rw [List.getElem?_toArray, hu] at hy'
      exact (Option.some.inj hy').symm
    subst eu
    refine ⟨_, rfl, wpAny_letOwnedTupleGo_zip (s := { s with heap := h', toks := tk }) z' fun h'' z'' sb => ?_⟩
    have hT2 : h''.get? s.heap.objs.size = some { cls := .type "tuple", data := .seq #[.str ⟨#[k2]⟩ t2, u2] } := (sb.2 _ (Nat.ne_of_gt hzl)).trans hT
    have new : ObjOk X.prog X.w (upd H s.heap.objs.size (.tup [.str ⟨#[k2]⟩, x])) h'' s.heap.objs.size (.tup [.str ⟨#[k2]⟩, x]) :=
      ⟨by show 2 ≤ sizeLine; decide, [.str ⟨#[k2]⟩ t2, u2], .cons ⟨_, rfl⟩ (.cons ru .nil), ⟨_, hT2, rfl, _, rfl⟩⟩
    have I1 : Inv X pins σ (upd H s.heap.objs.size (.tup [.str ⟨#[k2]⟩, x])) { s with heap := h'', toks := tk } :=
      I.turnedNew (ch := [N + 4, N + 2, N + 3, N, N + 1]) (fun c o hb q => (sb.2 c (fun q' => hb (by simp [q']))).trans (hk c o (fun q' => hb (by simp [q'])) (fun q' => hb (by simp [q'])) (fun q' => hb (by simp [q'])) (fun q' => hb (by simp [q'])) q)) hf (Nat.le_refl _) new
    refine ⟨.ref s.heap.objs.size, _, I1, rfl, ⟨_, k2, x, rfl, I.hok.fresh (Nat.le_refl _), rfl, hk', fun l hl => by rw [I.tuple_inj hl hq]; exact hx⟩, ⟨z'', ?_, ⟨.str ⟨#[k2]⟩ t2, u2, ?_⟩, ?_, ?_, hl⟩, fun c hcm => ?_⟩
    · exact (sb.2 _ S.TIz).trans (hk _ _ S.TIz S.TITO S.TIi1 S.TIi2 hTI)
    · exact (sb.2 _ S.TOz).trans TO'
    · obtain ⟨o1, e1, r1⟩ := h1'
      exact ⟨o1, (sb.2 _ S.zi1.symm).trans e1, r1⟩
    · exact h2'.at fun o q => (sb.2 _ S.zi2.symm).trans q
    · have hlt : c < s.heap.objs.size := by
        have e' : c = N + 4 ∨ c = N + 2 ∨ c = N + 3 ∨ c = N ∨ c = N + 1 := by simpa using hcm
        rcases e' with q | q | q | q | q <;> (rw [q]; first | exact hzl | exact Nat.lt_of_le_of_lt (Nat.le_add_right N 4) hzl | exact Nat.lt_of_le_of_lt (Nat.add_le_add_left (by decide) N) hzl)
      rw [upd_ne (Nat.ne_of_lt hlt)]
      exact (hf c hcm).1
  done := by
    intro X hP hw hK hc i pins s σ H E I hf st hg
    subst hP hw hK
    obtain ⟨hz, hTI, ⟨x0, y0, hTO⟩, h1, h2, hl⟩ := st
    obtain ⟨xs, hq, hb1, hb2, hend⟩ := hg
    obtain ⟨its, rv, p, _⟩ := I.tuple hq
    have l1 := rv.length
    have S := zip_sep2 (N := N) (fp1 := []) (fp2 := [a]) (by simp) (by simpa using hl)
    exact wpAny_pyNext_zipD2_end S (Draws.text (A := X.A.in1) (I.ok.hd hc) N z tk0) (Draws.tuple (A := X.A.in1) (I.ok.hd hc) (N + 1) a (Nat.ne_of_lt (Nat.lt_succ_of_lt hl)) its.toArray) hz hTI hTO h1 ⟨h2, p⟩ hb1 (by rw [List.size_toArray, ← l1]; exact hb2) (hend.imp id fun h => by rw [List.size_toArray, ← l1]; exact h) fun h' tk hk => ⟨rfl, I.turnedL (t' := tk) (ch := [N + 4, N + 2, N + 3, N, N + 1]) (fun c o hb q =>
      hk c o (fun q' => hb (by simp [q'])) (fun q' => hb (by simp [q'])) (fun q' => hb (by simp [q'])) (fun q' => hb (by simp [q'])) q) hf⟩
  self := fun A i s Q E st h => wpAny_pyIter_zip st.1 h
theorem pi_zipS {X : Cx} {e e2 : Expr} {ta : TA} {p pos tpos : Pos} {elts : List Expr} {kk : Nat} (hg : Gl X "zip") (hm : X.mg "zip" = none) (ha : PA X [e, e2] ta)
    (hs : starEach [e, e2] X.env = (false, eval e X.env) :: starEach [e2] X.env := by rfl) (hpl : (backTo pos (starEach [e2] X.env)).any (·.1) = false := by rfl) :
    PI X (.Tuple elts kk tpos) (.Call (.Name "zip" p) [e, e2] [] pos) (fun σ H R => ta σ H fun vs H1 => ∃ z a xs, vs = [.str z, .ref a] ∧ SqT X.K H1 a xs ∧ R (ItzS X.K z a) H1) := by
  refine ⟨fun pins s σ H R I h => ?_⟩
  refine Call_ (ld_blt I hg hm PyProof.Rows.boot_zip (PyProof.Rows.callWith_type1 (thn (ha.run pos pins s σ H _ I h) fun us s1 ⟨vs, H1, I1, r1, q1⟩ => ?_) hs hpl))
  obtain ⟨z, a, xs, ex, hq, q⟩ := q1
  subst ex
  cases r1 with
  | cons r rr =>
    cases rr with
    | cons r' rr =>
      cases rr
      obtain ⟨tk, rfl⟩ := r
      cases r'
      obtain ⟨its, rv, p', _⟩ := I1.tuple hq
      refine zip_begins2 (begins_text z tk) (begins_tuple a its.toArray) trivial p' fun h' hz hTI hTO h1 h2 hsz hk => wpAny_pyIter_zip hz ?_
      have I2 : Inv X pins σ H1 { s1 with heap := h' } := I1.kept (t' := s1.toks) hk
      refine ⟨s1.heap.objs.size + 4, [s1.heap.objs.size + 4, s1.heap.objs.size + 2, s1.heap.objs.size + 3, s1.heap.objs.size, s1.heap.objs.size + 1], _, _, H1, rfl, I2, turn_zipS (z := z) (tk0 := tk) (a := a) (N := s1.heap.objs.size), ⟨hz, hTI, ⟨_, _, hTO⟩, ⟨_, h1, rfl, rfl⟩, ⟨_, h2, rfl, rfl⟩, ?_⟩, fun c hcm => ?_, q⟩
      · obtain ⟨o, e, _⟩ := p'
        exact Heap.lt_size e
      · have e' : c = s1.heap.objs.size + 4 ∨ c = s1.heap.objs.size + 2 ∨ c = s1.heap.objs.size + 3 ∨ c = s1.heap.objs.size ∨ c = s1.heap.objs.size + 1 := by simpa using hcm
        have hle : s1.heap.objs.size ≤ c := by
          rcases e' with q | q | q | q | q <;> (rw [q]; first | exact Nat.le_add_right _ _ | exact Nat.le_refl _)
        exact I1.fpOk hle (I1.hok.fresh hle)
section
variable {c : Cc} {X : Cx} {K : PySem.W.Frag} {γ : Gm} {ρ : List Addr} {H : Hp}
def numb (i : Nat) (a : A) : A := .tup [.int (i : Nat), a]
/-- numbered items of a list, as it stands -/
def itRE (n len : Nat) : ItM := ⟨len, fun i hp => (rdL hp n).bind fun xs => (xs[i]?).map (numb i), fun hp => match rdL hp n with
  | some xs => decide (xs.length ≤ len)
  | none => false⟩
def numbs (i : Nat) : List A → List A
  | [] => []
  | a :: as => numb i a :: numbs (i + 1) as
theorem numbs_len : ∀ (xs : List A) (i : Nat), (numbs i xs).length = xs.length
  | [], _ => rfl
  | a :: as, i => by simp [numbs, numbs_len as]
theorem numbs_get : ∀ (xs : List A) (i j : Nat), (numbs i xs)[j]? = (xs[j]?).map (numb (i + j))
  | [], _, _ => by simp [numbs]
  | a :: as, i, 0 => by simp [numbs]
  | a :: as, i, j + 1 => by
    simp only [numbs, List.getElem?_cons_succ]
    rw [numbs_get as (i + 1) j]
    have : i + 1 + j = i + (j + 1) := by omega
    rw [this]
theorem pair_ok {t : List O} {T : Addr} {x y : V} {a b : A} (r : Rep K c.γ ρ (c.B ++ t) H) (hT : H T = none) (wa : RV K c.γ ρ H a x) (wb : RV K c.γ ρ H b y) : Fwd c.B.length ρ H ρ (upd H T (.tup [x, y])) ∧ Rep K c.γ ρ (c.B ++ t) (upd H T (.tup [x, y])) ∧ RV K c.γ ρ (upd H T (.tup [x, y])) (.tup [a, b]) (.ref T) := by
  obtain ⟨r', f⟩ := r.junk (nb := c.B.length) (o' := .tup [x, y]) hT
  refine ⟨f, r', ?_⟩
  rw [rv_tup]
  refine ⟨T, _, rfl, upd_same, ?_⟩
  rw [rvs_cons]
  refine ⟨_, _, rfl, RV.mono (r.keep f) _ _ wa, ?_⟩
  rw [rvs_cons]
  exact ⟨_, _, rfl, RV.mono (r.keep f) _ _ wb, by rw [rvs_nil]⟩
theorem lk_enumL {n len : Nat} {a : Addr} (w : RV K c.γ ρ H (.ref n) (.ref a)) : Lk c K ρ H (Ite K a) (itRE n len) := by
  intro ρ1 t1 H1 kp fz r
  have w1 := RV.mono kp _ _ w
  refine ⟨fun i y hi hg => ?_, fun hf => ?_⟩
  · obtain ⟨xs, e1, e2⟩ := Option.bind_eq_some_iff.mp hg
    obtain ⟨b, vs, eb, hs, wv⟩ := rdL_ok r w1 e1
    cases eb
    obtain ⟨y0, e3, e4⟩ := Option.map_eq_some_iff.mp e2
    obtain ⟨v, hv, wy⟩ := wv.get e3
    refine ⟨⟨vs, v, hs, hv⟩, fun x H' hy => ?_⟩
    obtain ⟨T, x', rfl, hT, rfl, hx⟩ := hy
    have e5 := hx vs hs
    rw [hv] at e5
    cases e5
    rw [← e4]
    exact pair_ok r hT (by rw [rv_int]) wy
  · have hf' : (match rdL (c.B ++ t1) n with
      | some xs => decide (xs.length ≤ len)
      | none => false) = true := hf
    cases e1 : rdL (c.B ++ t1) n with
    | none => rw [e1] at hf'; cases hf'
    | some xs =>
      rw [e1] at hf'
      obtain ⟨b, vs, eb, hs, wv⟩ := rdL_ok r w1 e1
      cases eb
      exact ⟨vs, hs, by rw [wv.length]; exact of_decide_eq_true hf'⟩
theorem lk_enumT {xs : List A} {vs : List V} {a : Addr} (w : RVs K c.γ ρ H xs vs) (hs : ∀ ρ' H', Keep K ρ H ρ' H' → SqT K H' a vs) : Lk c K ρ H (IteT K a) (itL (numbs 0 xs)) := by
  intro ρ1 t1 H1 kp fz r
  refine ⟨fun i y hi hg => ?_, fun _ => ⟨vs, hs _ _ kp, ?_⟩⟩
  · have hg' : (numbs 0 xs)[i]? = some y := hg
    rw [numbs_get, Nat.zero_add] at hg'
    obtain ⟨y0, e3, e4⟩ := Option.map_eq_some_iff.mp hg'
    obtain ⟨v, hv, wy⟩ := (RVs.mono kp _ _ w).get e3
    refine ⟨⟨vs, v, hs _ _ kp, hv⟩, fun x H' hy => ?_⟩
    obtain ⟨T, x', rfl, hT, rfl, hx⟩ := hy
    have e5 := hx vs (hs _ _ kp)
    rw [hv] at e5
    cases e5
    rw [← e4]
    exact pair_ok r hT (by rw [rv_int]) wy
  · show vs.length = (numbs 0 xs).length
    rw [numbs_len, w.length]
def onEnum (B : List O) : List A → List O → Res ItM
  | [.tup xs], t1 => .ok (itL (numbs 0 xs)) t1
  | [.ktup xs], t1 => .ok (itL (numbs 0 xs)) t1
  | [.ref n], t1 => (match rdL (B ++ t1) n with
    | some xs => .ok (itRE n xs.length) t1
    | none => .bad)
  | _, _ => .bad
def mIEnum (B : List O) (ma : MA) : MI := fun s t => (ma s t).bind (onEnum B)
theorem si_enum {e : Expr} {elts : List Expr} {kk : Nat} {p pos tpos : Pos} {ma : MA} (hg : Gl X "enumerate") (hm : X.mg "enumerate" = none) (h : SA c X [e] ma) (hs : starEach [e] X.env = [(false, eval e X.env)] := by rfl) : SI c X (.Tuple elts kk tpos) (.Call (.Name "enumerate" p) [e] [] pos) (mIEnum c.B ma) := by
  refine PI.imp (pi_enumT hg hm h hs) fun σ H R p => ?_
  refine tM.bind (R := RVs X.K c.γ) (m := ma) (k := fun _ (as : List A) t1 => onEnum c.B as t1) p fun ρ H1 σa as xs t r s w q => ?_
  rcases as with _ | ⟨a, _ | ⟨b, as⟩⟩
  · exact q.elim
  · obtain ⟨x, rfl, w'⟩ := rvs_one w
    clear w
    have w := w'
    cases a with
    | tup ys =>
      rw [rv_tup] at w
      obtain ⟨b, vs, rfl, hb, wv⟩ := w
      exact ⟨b, vs, rfl, .inr ⟨SqT.of hb, Post.now (b := IteT X.K b) q r (lk_enumT wv fun _ _ k => SqT.of (k.tup _ _ hb))⟩⟩
    | ktup ys =>
      rw [rv_ktup] at w
      obtain ⟨b, vs, rfl, hb, wv⟩ := w
      exact ⟨b, vs, rfl, .inr ⟨SqT.ofK hb, Post.now (b := IteT X.K b) q r (lk_enumT wv fun _ _ k => SqT.ofK hb)⟩⟩
    | ref n =>
      rw [onEnum] at q
      cases e1 : rdL (c.B ++ t) n with
      | none => simp only [e1] at q; exact q.elim
      | some ys =>
        simp only [e1] at q
        obtain ⟨b, vs, rfl, hs, wv⟩ := rdL_ok r w e1
        exact ⟨b, vs, rfl, .inl ⟨hs, Post.now (b := Ite X.K b) q r (lk_enumL w)⟩⟩
    | _ => exact q.elim
  · cases a <;> exact q.elim
def zipSA : List Nat → List A → List A
  | k :: ks, a :: as => .tup [.str ⟨#[k]⟩, a] :: zipSA ks as
  | _, _ => []
theorem zipSA_get : ∀ (ks : List Nat) (as : List A) (i : Nat) (y : A), (zipSA ks as)[i]? = some y → ∃ k a, ks[i]? = some k ∧ as[i]? = some a ∧ y = .tup [.str ⟨#[k]⟩, a]
  | [], _, i, y, h => by simp [zipSA] at h
  | _ :: _, [], i, y, h => by simp [zipSA] at h
  | k :: ks, a :: as, 0, y, h => by simp [zipSA] at h; exact ⟨k, a, rfl, rfl, h.symm⟩
  | k :: ks, a :: as, i + 1, y, h => by
    simp only [zipSA, List.getElem?_cons_succ] at h ⊢
    exact zipSA_get ks as i y h
theorem zipSA_len : ∀ (ks : List Nat) (as : List A), (zipSA ks as).length ≤ ks.length ∧ (zipSA ks as).length ≤ as.length ∧ ((zipSA ks as).length = ks.length ∨ (zipSA ks as).length = as.length)
  | [], _ => by simp [zipSA]
  | _ :: _, [] => by simp [zipSA]
  | k :: ks, a :: as => by
    have := zipSA_len ks as
    simp only [zipSA, List.length_cons]
    omega
theorem lk_zipS {z : Str} {xs : List A} {vs : List V} {a : Addr} (w : RVs K c.γ ρ H xs vs) (hs : ∀ ρ' H', Keep K ρ H ρ' H' → SqT K H' a vs) : Lk c K ρ H (ItzS K z a) (itL (zipSA z.cps.toList xs)) := by
  intro ρ1 t1 H1 kp fz r
  refine ⟨fun i y hi hg => ?_, fun _ => ⟨vs, hs _ _ kp, ?_⟩⟩
  · obtain ⟨k, y0, e1, e3, e4⟩ := zipSA_get _ _ _ _ hg
    obtain ⟨v, hv, wy⟩ := (RVs.mono kp _ _ w).get e3
    have e1' : z.cps[i]? = some k := by simpa using e1
    refine ⟨⟨vs, k, v, hs _ _ kp, e1', hv⟩, fun x H' hy => ?_⟩
    obtain ⟨T, k', x', rfl, hT, rfl, hk, hx⟩ := hy
    have e5 := hx vs (hs _ _ kp)
    rw [hv] at e5
    cases e5
    rw [e1'] at hk
    cases hk
    rw [e4]
    exact pair_ok r hT (by rw [rv_str]) wy
  · have := zipSA_len z.cps.toList xs
    have hl := w.length
    show (zipSA z.cps.toList xs).length ≤ z.cps.size ∧ (zipSA z.cps.toList xs).length ≤ vs.length ∧ ((zipSA z.cps.toList xs).length = z.cps.size ∨ (zipSA z.cps.toList xs).length = vs.length)
    rw [Array.length_toList] at this
    rw [hl]
    exact this
def onZipS : List A → List O → Res ItM
  | [.str z, .tup xs], t1 => .ok (itL (zipSA z.cps.toList xs)) t1
  | [.str z, .ktup xs], t1 => .ok (itL (zipSA z.cps.toList xs)) t1
  | _, _ => .bad
def mIZipS (ma : MA) : MI := fun s t => (ma s t).bind onZipS
theorem si_zipS {e e2 : Expr} {elts : List Expr} {kk : Nat} {p pos tpos : Pos} {ma : MA} (hg : Gl X "zip") (hm : X.mg "zip" = none) (h : SA c X [e, e2] ma) (hs : starEach [e, e2] X.env = (false, eval e X.env) :: starEach [e2] X.env := by rfl) (hpl : (backTo pos (starEach [e2] X.env)).any (·.1) = false := by rfl) : SI c X (.Tuple elts kk tpos) (.Call (.Name "zip" p) [e, e2] [] pos) (mIZipS ma) := by
  refine PI.imp (pi_zipS hg hm h hs hpl) fun σ H R p => ?_
  refine tM.bind (R := RVs X.K c.γ) (m := ma) (k := fun _ (as : List A) t1 => onZipS as t1) p fun ρ H1 σa as xs t r s w q => ?_
  rcases as with _ | ⟨a, _ | ⟨b, _ | ⟨d, as⟩⟩⟩
  · exact q.elim
  · cases a <;> exact q.elim
  · obtain ⟨x, y, rfl, wa, wb⟩ := rvs_two w
    cases a with
    | str z =>
      rw [rv_str] at wa
      subst wa
      cases b with
      | tup ys =>
        rw [rv_tup] at wb
        obtain ⟨b, vs, rfl, hb, wv⟩ := wb
        exact ⟨z, b, vs, rfl, SqT.of hb, Post.now (b := ItzS X.K z b) q r (lk_zipS wv fun _ _ k => SqT.of (k.tup _ _ hb))⟩
      | ktup ys =>
        rw [rv_ktup] at wb
        obtain ⟨b, vs, rfl, hb, wv⟩ := wb
        exact ⟨z, b, vs, rfl, SqT.ofK hb, Post.now (b := ItzS X.K z b) q r (lk_zipS wv fun _ _ k => SqT.ofK hb)⟩
      | _ => exact q.elim
    | _ => exact q.elim
  · cases a <;> cases b <;> exact q.elim
end
end Ev
end
section
set_option Elab.async false
set_option linter.all false
set_option maxRecDepth 100000
set_option maxHeartbeats 400000
/-! More methods; dicts of the module. -/
namespace Ev
open PySem PySem.Spec PyProof.Rows L2
section
variable {c : Cc} {X : Cx} {K : PySem.W.Frag} {γ : Gm} {ρ : List Addr} {H : Hp}
/-! lists -/
theorem RVs.eraseIdx : ∀ {xs : List A} {vs : List V} {j : Nat}, RVs K γ ρ H xs vs → RVs K γ ρ H (xs.eraseIdx j) (vs.eraseIdx j)
  | [], vs, j, h => by
    rw [rvs_nil] at h
    subst h
    simp [rvs_nil]
  | x :: xs, vs, 0, h => by
    rw [rvs_cons] at h
    obtain ⟨u, r, rfl, q1, q2⟩ := h
    exact q2
  | x :: xs, vs, j + 1, h => by
    rw [rvs_cons] at h
    obtain ⟨u, r, rfl, q1, q2⟩ := h
    show RVs _ _ _ _ (x :: xs.eraseIdx j) (u :: r.eraseIdx j)
    rw [rvs_cons]
    exact ⟨u, _, rfl, q1, RVs.eraseIdx q2⟩
/-- a list of ours is changed -/
def onLst (B : List O) (a : A) (f : List A → Option (A × List A)) : List O → Res A := fun t => match a with
  | .ref n => if B.length ≤ n then (match (B ++ t)[n]? with
    | some (.lst xs) => (match f xs with
      | some (y, ys) => .ok y (t.set (n - B.length) (.lst ys))
      | none => .bad)
    | _ => .bad) else .bad
  | _ => .bad
theorem onLst_ok {t : List O} {x : V} {a : A} {Q : VK} {f : List A → Option (A × List A)} (r : Rep K c.γ ρ (c.B ++ t) H) (w : RV K c.γ ρ H a x) (p : Post K c.γ c.E c.B (RV K c.γ) Q (onLst c.B a f t) ρ H) :
    ∃ l xs vs y ys, x = .ref l ∧ H l = some (.lst vs) ∧ RVs K c.γ ρ H xs vs ∧ f xs = some (y, ys) ∧ ∀ v us, RV K c.γ ρ H y v → RVs K c.γ ρ H ys us → Q v (upd H l (.lst us)) := by
  unfold onLst at p
  cases a with
  | ref n =>
    by_cases hb : c.B.length ≤ n
    · simp only [if_pos hb] at p
      cases e : (c.B ++ t)[n]? with
      | none => simp only [e] at p; exact p.elim
      | some o =>
        cases o with
        | lst xs =>
          simp only [e] at p
          obtain ⟨l, rfl, hl, vs, hz, wv⟩ := r.objAt w e
          cases e2 : f xs with
          | none => simp only [e2] at p; exact p.elim
          | some q =>
            obtain ⟨y, ys⟩ := q
            simp only [e2] at p
            refine ⟨l, xs, vs, y, ys, rfl, hz, wv, e2, fun v us wy wu => ?_⟩
            exact write_ok (o := .lst ys) r hl hb (fun o u z => by rw [hz] at z; cases z) (fun H' k e => ⟨_, e, RVs.mono k _ _ wu⟩) (fun H' k => RV.mono k _ _ wy) p
        | _ => simp only [e] at p; exact p.elim
    · simp only [if_neg hb] at p; exact p.elim
  | _ => exact p.elim
def ins1 (i : Int) (y : A) (xs : List A) : Option (A × List A) := if (decide (xs.length < sizeLine) && decide (0 ≤ i) && decide (i < 2 ^ 63)) = true then some (.non, xs.take i.toNat ++ [y] ++ xs.drop i.toNat) else none
def fInsert (B : List O) : A → List A → List O → Res A := fun a as t => match as with
  | [.int i, y] => onLst B a (ins1 i y) t
  | _ => .bad
theorem ok_insert : OkM c K (fun x vs H Q => ∃ (l : Addr) (xs : List V) (i : Int) (y : V), x = .ref l ∧ vs = [.int i, y] ∧ H l = some (.lst xs) ∧ xs.length < sizeLine ∧ 0 ≤ i ∧ i < 2 ^ 63 ∧
    Q .non (upd H l (.lst (xs.take i.toNat ++ [y] ++ xs.drop i.toNat)))) (fInsert c.B) := by
  intro ρ t H Q x xs a as r w ws p
  unfold fInsert at p
  rcases as with _ | ⟨b, _ | ⟨d, _ | ⟨e, as⟩⟩⟩
  · exact p.elim
  · cases b <;> exact p.elim
  · cases b with
    | int i =>
      obtain ⟨bi, y, rfl, wb, wy⟩ := rvs_two ws
      rw [rv_int] at wb
      subst wb
      obtain ⟨l, ys, vs, z, zs, rfl, hz, wv, e1, q⟩ := onLst_ok r w p
      unfold ins1 at e1
      split at e1
      · rename_i hc
        simp only [Bool.and_eq_true, decide_eq_true_eq] at hc
        cases e1
        refine ⟨l, vs, i, y, rfl, rfl, hz, by rw [wv.length]; exact hc.1.1, hc.1.2, hc.2, q _ _ (by rw [rv_non]) ?_⟩
        exact ((wv.take _).append (by rw [rvs_cons]; exact ⟨_, _, rfl, wy, by rw [rvs_nil]⟩)).append (wv.drop _)
      · cases e1
    | _ => exact p.elim
  · cases b <;> exact p.elim
def popAt1 (i : Int) (xs : List A) : Option (A × List A) := if (decide (-(2 ^ 63) ≤ i) && decide (i < 2 ^ 63)) = true then (match seqIndex? i xs.length with
  | some k => (match xs[k]? with
    | some y => some (y, xs.eraseIdx k)
    | none => none)
  | none => none) else none
def fPopAt (B : List O) : A → List A → List O → Res A := fun a as t => match as with
  | [.int i] => onLst B a (popAt1 i) t
  | _ => .bad
theorem ok_popAt : OkM c K rPopAt (fPopAt c.B) := by
  intro ρ t H Q x xs a as r w ws p
  unfold fPopAt at p
  rcases as with _ | ⟨b, _ | ⟨d, as⟩⟩
  · exact p.elim
  · cases b with
    | int i =>
      obtain ⟨bi, rfl, wb⟩ := rvs_one ws
      rw [rv_int] at wb
      subst wb
      obtain ⟨l, ys, vs, z, zs, rfl, hz, wv, e1, q⟩ := onLst_ok r w p
      unfold popAt1 at e1
      split at e1
      · rename_i hc
        simp only [Bool.and_eq_true, decide_eq_true_eq] at hc
        split at e1
        · rename_i k hk
          split at e1
          · rename_i y hy
            cases e1
            obtain ⟨v, hv, wy⟩ := wv.get hy
            exact ⟨l, vs, i, k, v, rfl, rfl, hz, hc.1, hc.2, by rw [wv.length]; exact hk, hv, q _ _ wy wv.eraseIdx⟩
          · cases e1
        · cases e1
      · cases e1
    | _ => exact p.elim
  · cases b <;> exact p.elim
theorem RVs.rep {xs : List A} {vs : List V} (h : RVs K γ ρ H xs vs) : ∀ n : Nat, RVs K γ ρ H (List.replicate n xs).flatten (List.replicate n vs).flatten
  | 0 => by simp [rvs_nil]
  | n + 1 => by
    rw [List.replicate_succ, List.replicate_succ, List.flatten_cons, List.flatten_cons]
    exact h.append (RVs.rep h n)
/-- a list times an int -/
def fRep (B : List O) : A → A → List O → Res A := fun a b t => match a, b with
  | .ref n, .int k => (match (B ++ t)[n]? with
    | some (.lst xs) => if (decide (-(2 ^ 63) ≤ k) && decide (k < 2 ^ 63) && decide (xs.length * k.toNat ≤ sizeLine)) = true then mkO B (.lst (List.replicate k.toNat xs).flatten) t else .bad
    | _ => .bad)
  | _, _ => .bad
theorem ok_rep : Ok2 c K rRep (fRep c.B) := by
  intro ρ t H Q x y a b r wa wb p
  unfold fRep at p
  cases a with
  | ref n =>
    cases b with
    | int k =>
      rw [rv_int] at wb
      subst wb
      cases e : (c.B ++ t)[n]? with
      | none => simp only [e] at p; exact p.elim
      | some o =>
        cases o with
        | lst xs =>
          simp only [e] at p
          obtain ⟨l, rfl, hl, vs, hz, wv⟩ := r.objAt wa e
          split at p
          · rename_i hc
            simp only [Bool.and_eq_true, decide_eq_true_eq] at hc
            exact ⟨l, k, vs, rfl, rfl, hz, hc.1.1, hc.1.2, by rw [wv.length]; exact hc.2, fun q hq => mkO_ok (o := .lst (List.replicate k.toNat xs).flatten) r hq (fun ρ' H' kp e => ⟨_, e, RVs.mono kp _ _ (wv.rep _)⟩) p⟩
          · exact p.elim
        | _ => simp only [e] at p; exact p.elim
    | _ => exact p.elim
  | _ => exact p.elim
theorem se_rep {a b : Expr} {pos : Pos} {ma mb : ME} (ha : SE c X a ma) (hb : SE c X b mb) : SE c X (.BinOp a .Mult b pos) (mBin (fRep c.B) ma mb) := se_bin (pe_op op_rep ha hb) ok_rep
theorem se_insert {o e f : Expr} {apos cpos : Pos} {mo : ME} {ma : MA} (ho : SE c X o mo) (ha : SA c X [e, f] ma) (hbase : attributeBase o "insert" X.env (eval o X.env) = eval o X.env := by rfl)
    (hfew : ((backTo cpos (starEach [e, f] X.env)).all (fun x => !x.1) && (backToKw cpos (keywordEach [] X.env)).all (fun x => x.1.isSome)
      && decide (([e, f] : List Expr).length + ([] : List Keyword).length + (if ([] : List Keyword).isEmpty then 0 else 1) < 30)) = true := by rfl)
    (hline : (apos.endLine == cpos.line) = true := by rfl) (hs : starEach [e, f] X.env = (false, eval e X.env) :: starEach [f] X.env := by rfl) (hplain : (backTo cpos (starEach [f] X.env)).any (·.1) = false := by rfl) :
    SE c X (.Call (.Attribute o "insert" apos) [e, f] [] cpos) (mMet c.B "list" (fInsert c.B) mo ma) := se_met (pe_bm F.plainAttrs_list F.slot_list_insert F.type_list_insert mt_insert ho ha hbase hfew hline hs hplain) ok_insert
theorem se_append {o e : Expr} {apos cpos : Pos} {mo : ME} {ma : MA} (ho : SE c X o mo) (ha : SA c X [e] ma) (hbase : attributeBase o "append" X.env (eval o X.env) = eval o X.env := by rfl)
    (hfew : ((backTo cpos (starEach [e] X.env)).all (fun x => !x.1) && (backToKw cpos (keywordEach [] X.env)).all (fun x => x.1.isSome)
      && decide (([e] : List Expr).length + ([] : List Keyword).length + (if ([] : List Keyword).isEmpty then 0 else 1) < 30)) = true := by rfl)
    (hline : (apos.endLine == cpos.line) = true := by rfl) (hs : starEach [e] X.env = (false, eval e X.env) :: starEach [] X.env := by rfl) (hplain : (backTo cpos (starEach [] X.env)).any (·.1) = false := by rfl) :
    SE c X (.Call (.Attribute o "append" apos) [e] [] cpos) (mMet c.B "list" (fAppend c.B) mo ma) := se_met (pe_bm F.plainAttrs_list F.slot_list_append F.type_list_append mt_append ho ha hbase hfew hline hs hplain) ok_append
theorem se_popAt {o e : Expr} {apos cpos : Pos} {mo : ME} {ma : MA} (ho : SE c X o mo) (ha : SA c X [e] ma) (hbase : attributeBase o "pop" X.env (eval o X.env) = eval o X.env := by rfl)
    (hfew : ((backTo cpos (starEach [e] X.env)).all (fun x => !x.1) && (backToKw cpos (keywordEach [] X.env)).all (fun x => x.1.isSome)
      && decide (([e] : List Expr).length + ([] : List Keyword).length + (if ([] : List Keyword).isEmpty then 0 else 1) < 30)) = true := by rfl)
    (hline : (apos.endLine == cpos.line) = true := by rfl) (hs : starEach [e] X.env = (false, eval e X.env) :: starEach [] X.env := by rfl) (hplain : (backTo cpos (starEach [] X.env)).any (·.1) = false := by rfl) :
    SE c X (.Call (.Attribute o "pop" apos) [e] [] cpos) (mMet c.B "list" (fPopAt c.B) mo ma) := se_met (pe_bm F.plainAttrs_list F.slot_list_pop F.type_list_pop mt_popAt ho ha hbase hfew hline hs hplain) ok_popAt
theorem se_pop {o : Expr} {apos cpos : Pos} {mo : ME} (ho : SE c X o mo) (hbase : attributeBase o "pop" X.env (eval o X.env) = eval o X.env := by rfl) (hline : (apos.endLine == cpos.line) = true := by rfl) :
    SE c X (.Call (.Attribute o "pop" apos) [] [] cpos) (mMet c.B "list" (fPop c.B) mo mNil) := se_met0 (pe_bm0 F.plainAttrs_list F.slot_list_pop F.type_list_pop mt_pop ho hbase hline) ok_pop
/-! dicts: update, get -/
theorem mt_update : MtR X "dict.update" (fun x xs H Q => ∃ d o kvs more, x = .ref d ∧ xs = [.ref o] ∧ d ≠ o ∧ H d = some (.dK kvs) ∧ H o = some (.dK more) ∧ kvs.length + more.length ≤ sizeLine ∧ Q .non (upd H d (.dK (mergeK kvs more)))) := by
  intro pins s σ H x xs v us Q I rx rs h
  obtain ⟨d, o, kvs, more, rfl, rfl, hdo, hd, ho, hl, q⟩ := h
  cases rx
  obtain ⟨u, rfl, ru⟩ := rs.one
  cases ru
  obtain ⟨z1, n1, vs, rel, dd⟩ := dk_of I.hok hd
  obtain ⟨z2, n2, ms, rem, od⟩ := dk_of I.hok ho
  refine call_meetsIn PySem.F.slot_dict_update dd.typeIs PySem.F.entry_dict_update (PySem.F.args_dict_update_2 _ _) (meets_dict_update (mixKind X.prog X.w) d o hdo n2) ⟨vs, ms, dd, od, by rw [← rel.length, ← rem.length]; exact hl, fun h' dd' od' hs => ⟨.non, _, ?_, rfl, q⟩⟩
  have he : ∃ q, h'.get? d = some q := let ⟨q, _, _, hq, _⟩ := dd'; ⟨q, hq⟩
  have hz : (mergeK kvs more).length ≤ sizeLine := Nat.le_trans (length_mergeK more kvs) hl
  exact d_write (t' := s.toks) I (by rw [hd]; exact True.intro) hs he (dk_new hz n1 (rem.merge rel) dd')
def fUpdate (B : List O) : A → List A → List O → Res A := fun a as t => match a, as with
  | .ref n, [.ref m] => if (decide (B.length ≤ n) && decide (n ≠ m)) = true then (match (B ++ t)[n]?, (B ++ t)[m]? with
    | some (.dic kvs), some (.dic more) => if kvs.length + more.length ≤ sizeLine then .ok .non (t.set (n - B.length) (.dic (mergeA kvs more))) else .bad
    | _, _ => .bad) else .bad
  | _, _ => .bad
theorem ok_update : OkM c K (fun x xs H Q => ∃ d o kvs more, x = .ref d ∧ xs = [.ref o] ∧ d ≠ o ∧ H d = some (.dK kvs) ∧ H o = some (.dK more) ∧ kvs.length + more.length ≤ sizeLine ∧ Q .non (upd H d (.dK (mergeK kvs more)))) (fUpdate c.B) := by
  intro ρ t H Q x xs a as r w ws p
  unfold fUpdate at p
  cases a with
  | ref n =>
    rcases as with _ | ⟨b, _ | ⟨d, as⟩⟩
    · exact p.elim
    · cases b with
      | ref m =>
        obtain ⟨y, rfl, wy⟩ := rvs_one ws
        dsimp only at p
        split at p
        · rename_i hc
          simp only [Bool.and_eq_true, decide_eq_true_eq] at hc
          cases e : (c.B ++ t)[n]? with
          | none => simp only [e] at p; exact p.elim
          | some o =>
            cases e2 : (c.B ++ t)[m]? with
            | none => cases o <;> (simp only [e, e2] at p; exact p.elim)
            | some o2 =>
              cases o with
              | dic kvs =>
                cases o2 with
                | dic more =>
                  simp only [e, e2] at p
                  obtain ⟨d, rfl, hd, vs, hz, wv⟩ := r.objAt w e
                  obtain ⟨d2, rfl, hd2, vs2, hz2, wv2⟩ := r.objAt wy e2
                  split at p
                  · rename_i hl
                    refine ⟨d, d2, vs, vs2, rfl, rfl, fun z => hc.2 (nd_inj r.nd hd (z ▸ hd2)), hz, hz2, by rw [wv.length, wv2.length]; exact hl, ?_⟩
                    exact write_ok (o := .dic (mergeA kvs more)) r hd hc.1 (fun o u z => by rw [hz] at z; cases z) (fun H' k e => ⟨_, e, RKs.mono k _ _ (RKs.merge wv2 wv)⟩) (fun H' k => by rw [rv_non]) p
                  · exact p.elim
                | _ => simp only [e, e2] at p; exact p.elim
              | _ => simp only [e, e2] at p; exact p.elim
        · exact p.elim
      | _ => exact p.elim
    · cases b <;> exact p.elim
  | _ => exact p.elim
theorem se_update {o e : Expr} {apos cpos : Pos} {mo : ME} {ma : MA} (ho : SE c X o mo) (ha : SA c X [e] ma) (hbase : attributeBase o "update" X.env (eval o X.env) = eval o X.env := by rfl)
    (hfew : ((backTo cpos (starEach [e] X.env)).all (fun x => !x.1) && (backToKw cpos (keywordEach [] X.env)).all (fun x => x.1.isSome)
      && decide (([e] : List Expr).length + ([] : List Keyword).length + (if ([] : List Keyword).isEmpty then 0 else 1) < 30)) = true := by rfl)
    (hline : (apos.endLine == cpos.line) = true := by rfl) (hs : starEach [e] X.env = (false, eval e X.env) :: starEach [] X.env := by rfl) (hplain : (backTo cpos (starEach [] X.env)).any (·.1) = false := by rfl) :
    SE c X (.Call (.Attribute o "update" apos) [e] [] cpos) (mMet c.B "dict" (fUpdate c.B) mo ma) := se_met (pe_bm F.plainAttrs_dict F.slot_dict_update F.type_dict_update mt_update ho ha hbase hfew hline hs hplain) ok_update
end
end Ev
end
section
set_option Elab.async false
set_option linter.all false
set_option maxRecDepth 100000
set_option maxHeartbeats 400000
/-! Calls of defs, methods, classes. -/
namespace Ev
open PySem PySem.Spec PyProof.Rows L2
/-- what a def does: the objects that are only read, the arguments, the others -/
abbrev MF := List O → List A → List O → Res A
def spOf (K : PySem.W.Frag) (γ : Gm) (n : Nat) (mf : MF) : Sp := fun vs H Q E => ∃ ρ B t as, as.length = n ∧ Rep K γ ρ (B ++ t) H ∧ RVs K γ ρ H as vs ∧ Post K γ E B (RV K γ) Q (mf B as t) ρ H
theorem spOf_len {K : PySem.W.Frag} {γ : Gm} {n : Nat} {mf : MF} (vs : List V) (H : Hp) (Q : VK) (E : XK) (h : spOf K γ n mf vs H Q E) : vs.length = n := by
  obtain ⟨ρ, B, t, as, hl, _, w, _⟩ := h
  rw [w.length, hl]
def endF (fl : Fl) (t : List O) : Res A := match fl with
  | .nx _ => .ok .non t
  | .rt a => .ok a t
  | .bk _ => .bad
  | .ct _ => .bad
def startA (len : Nat) (as : List A) : Sl := as.map some ++ List.replicate (len - as.length) none
def runF (len : Nat) (mb : List O → MS) : MF := fun B as t => (mb B (startA len as) t).bind endF
section
variable {K : PySem.W.Frag} {γ : Gm} {ρ : List Addr} {H : Hp}
theorem rs_none : ∀ n : Nat, RS K γ ρ H (List.replicate n none) (List.replicate n none)
  | 0 => rfl
  | n + 1 => ⟨none, List.replicate n none, rfl, (fun a h => by simp at h), rs_none n⟩
theorem rs_app : ∀ {as : List A} {vs : List V} {s : Sl} {σ : L2.St}, RVs K γ ρ H as vs → RS K γ ρ H s σ → RS K γ ρ H (as.map some ++ s) (vs.map some ++ σ)
  | [], vs, s, σ, h, q => by
    rw [rvs_nil] at h
    subst h
    exact q
  | a :: as, vs, s, σ, h, q => by
    rw [rvs_cons] at h
    obtain ⟨v, r, rfl, w, h⟩ := h
    exact ⟨some v, _, rfl, (fun b hb => by cases hb; exact ⟨v, rfl, w⟩), rs_app h q⟩
theorem rs_start {N : List Str} {as : List A} {vs : List V} (h : RVs K γ ρ H as vs) : RS K γ ρ H (startA N.length as) (L2.start N vs) := by
  unfold startA L2.start
  rw [h.length]
  exact rs_app h (rs_none _)
end
/-- a body's end is the call's end -/
theorem body_ok {c : Cc} {X : Cx} {N : List Str} {Q : VK} {ρ : List Addr} {H : Hp} {as : List A} {vs : List V} {t : List O} {mb : List O → MS} (r : Rep X.K c.γ ρ (c.B ++ t) H) (w : RVs X.K c.γ ρ H as vs) (p : Post X.K c.γ c.E c.B (RV X.K c.γ) Q (runF N.length mb c.B as t) ρ H) :
    tS c X (mb c.B) { nx := fun _ H' => Q .non H', rt := Q } (L2.start N vs) H := by
  refine ⟨ρ, _, t, r, rs_start w, Post.bind p fun fl t2 ρ' H' fv _ f r' wf q => ?_⟩
  cases fl with
  | nx s =>
    cases fv with
    | nx σ => exact Post.now (R := RV X.K c.γ) (Q := Q) (a := .non) (b := .non) q r' (by rw [rv_non])
    | _ => exact wf.elim
  | rt a =>
    cases fv with
    | rt v => exact Post.now (R := RV X.K c.γ) (Q := Q) (a := a) (b := v) q r' wf
    | _ => exact wf.elim
  | bk s => exact q.elim
  | ct s => exact q.elim
/-- THE RULE: a def by what its body does -/
theorem fn_does {P : Program} {w : World} {K : PySem.W.Frag} {mg : Str → Option Value} {base : Heap} {γ : Gm} {x qual : Str} {params : Arguments} {body : List Stmt} {scope : Scope} {dvs : List V} {kws : List (Str × V)} {f : Addr} {fd : FuncData} {N ps : List Str} {k n : Nat} {mb : List O → MS}
    (F : FunD K x qual params body scope dvs kws f fd) (S : FnScope N ps scope) (hn : ps.length = n) {len : Nat} (hN : N.length = len)
    (hb : ∀ (c : Cc) (cdv : Value) (A : Around) (outer : List Env) (s : Shared) (H : Hp), c.γ = γ → Room k (A.deeper (envOfC qual scope s.heap.objs.size f cdv)) → SSs c (cxOf (CX P w) P w K mg base N qual scope f cdv A outer s H c.E) body (mb c.B)) :
    FnOk P w K mg base (CX P w) (k + 1) f fd ps (spOf K γ n (runF len mb)) := by
  subst hN
  refine F.ok S (fun vs H Q E h => by rw [spOf_len vs H Q E h, hn]) fun cdv A outer s H vs Q E hr h => ?_
  obtain ⟨ρ, B, t, as, hl, r, wv, p⟩ := h
  exact ⟨_, hb ⟨γ, E, B⟩ cdv A outer s H rfl hr, body_ok (c := ⟨γ, E, B⟩) (X := cxOf (CX P w) P w K mg base N qual scope f cdv A outer s H E) r wv p⟩
/-- what a body knows of itself -/
theorem tkF {P : Program} {w : World} {K : PySem.W.Frag} {mg : Str → Option Value} {base : Heap} {N : List Str} {qual : Str} {scope : Scope} {f : Addr} {cdv : Value} {A : Around} {outer : List Env} {s : Shared} {H : Hp} {E : XK} :
    Takes (cxOf (CX P w) P w K mg base N qual scope f cdv A outer s H E) (fun cls d _ H => E cls d H) := takes_of rfl rfl rfl rfl
theorem ownF {P : Program} {w : World} {K : PySem.W.Frag} {mg : Str → Option Value} {base : Heap} {N : List Str} {qual : Str} {scope : Scope} {f : Addr} {cdv : Value} {A : Around} {outer : List Env} {s : Shared} {H : Hp} {E : XK} :
    PassesOwn (model P w) (cxOf (CX P w) P w K mg base N qual scope f cdv A outer s H E).A (cxOf (CX P w) P w K mg base N qual scope f cdv A outer s H E).env (cxOf (CX P w) P w K mg base N qual scope f cdv A outer s H E).xe := passes_of rfl
theorem psF {X : Cx} {E : XK} (tk : Takes X (fun cls d _ H => E cls d H)) : Passes (CX X.prog X.w) X E := passes_call tk fun _ _ _ _ h => h
section
variable {c : Cc} {X : Cx} {K : PySem.W.Frag} {γ : Gm} {ρ : List Addr} {H : Hp} {k n : Nat} {f C : Addr} {fd : FuncData} {ps : List Str} {mf : MF} {x m : Str} {p pos apos : Pos} {e o : Expr} {es : List Expr} {ma : MA} {mo : ME}
def mCallF (B : List O) (n : Nat) (mf : MF) (ma : MA) : ME := fun s t => (ma s t).bind fun as t1 => if as.length = n then mf B as t1 else .bad
theorem se_call (F : FnOk X.prog X.w X.K X.mg X.base (CX X.prog X.w) k f fd ps (spOf X.K c.γ n mf)) (hr : Room k X.A) (hx : Passes (CX X.prog X.w) X c.E) (hg : Gl X x) (hm : X.mg x = some (.ref f)) (hk : PySem.W.keepIn X.K (.ref f) = true) (hb : Binds X.K fd ps [])
    (ha : SA c X (e :: es) ma) (hdb : (x == ("__debug__" : Str)) = false := by decide) (he : starEach (e :: es) X.env = (false, eval e X.env) :: starEach es X.env := by rfl) (hpl : (backTo pos (starEach es X.env)).any (·.1) = false := by rfl) :
    SE c X (.Call (.Name x p) (e :: es) [] pos) (mCallF c.B n mf ma) := by
  refine PE.imp (pe_call F hr hg hm hk hb .nil hx ha hdb he hpl) fun σ H Q p => ?_
  refine tM.bind (R := RVs X.K c.γ) (m := ma) (k := fun _ (as : List A) t1 => if as.length = n then mf c.B as t1 else .bad) p fun ρ H1 σa as vs t r s w q => ?_
  by_cases hl : as.length = n
  · rw [if_pos hl] at q
    rw [List.append_nil]
    exact ⟨ρ, c.B, t, as, hl, r, w, q⟩
  · rw [if_neg hl] at q; exact q.elim
def mCallF0 (B : List O) (mf : MF) : ME := fun _ t => mf B [] t
theorem se_call0 (F : FnOk X.prog X.w X.K X.mg X.base (CX X.prog X.w) k f fd ps (spOf X.K c.γ 0 mf)) (hr : Room k X.A) (hx : Passes (CX X.prog X.w) X c.E) (hg : Gl X x) (hm : X.mg x = some (.ref f)) (hk : PySem.W.keepIn X.K (.ref f) = true) (hb : Binds X.K fd ps [])
    (hdb : (x == ("__debug__" : Str)) = false := by decide) : SE c X (.Call (.Name x p) [] [] pos) (mCallF0 c.B mf) :=
  PE.imp (pe_call0 F hr hg hm hk hb .nil hx hdb) fun σ H Q ⟨ρ, σa, t, r, s, q⟩ => ⟨ρ, c.B, t, [], rfl, r, by rw [rvs_nil]; rfl, q⟩
/-- a method of a class of ours -/
def insOf (B t : List O) (g : Nat) (m : Str) : A → Bool
  | .ref n => (match (B ++ t)[n]? with
    | some (.ins g' fs) => decide (g' = g) && decide (fs.lookup m = none)
    | _ => false)
  | _ => false
theorem insOf_ok {t : List O} {g : Nat} {m : Str} {a : A} {x : V} (r : Rep K c.γ ρ (c.B ++ t) H) (w : RV K c.γ ρ H a x) (h : insOf c.B t g m a = true) : ∃ b C dx fs, x = .ref b ∧ c.γ[g]? = some C ∧ H b = some (.ins C dx fs) ∧ fs.lookup m = none := by
  cases a with
  | ref n =>
    unfold insOf at h
    cases e : (c.B ++ t)[n]? with
    | none => simp only [e] at h; cases h
    | some ob =>
      cases ob with
      | ins g' fs =>
        simp only [e, Bool.and_eq_true, decide_eq_true_eq] at h
        obtain ⟨l, rfl, hl, C, dx, vs, hC, hz, wv⟩ := r.objAt w e
        rw [h.1] at hC
        exact ⟨l, C, dx, vs, rfl, hC, hz, RKs.look0 wv h.2⟩
      | _ => simp only [e] at h; cases h
  | _ => cases h
def mMethF (B : List O) (g : Nat) (m : Str) (n : Nat) (mf : MF) (mo : ME) (ma : MA) : ME := fun s t => (mo s t).bind fun a t1 => if insOf B t1 g m a = true then (ma s t1).bind fun as t2 => if (a :: as).length = n then mf B (a :: as) t2 else .bad else .bad
theorem se_meth {pl : Sem Bool} {g : Nat} (ho : SE c X o mo) (hC : c.γ[g]? = some C) (cl : Cls X.K C) (hm : Meth X.K C m f) (F : FnOk X.prog X.w X.K X.mg X.base (CX X.prog X.w) k f fd ps (spOf X.K c.γ n mf)) (hr : Room k X.A) (hx : Passes (CX X.prog X.w) X c.E) (hb : Binds X.K fd ps []) (ha : SA c X (e :: es) ma)
    (hst : starEach (e :: es) X.env = (false, eval e X.env) :: starEach es X.env := by rfl) (hpl : (backTo pos (starEach es X.env)).any (·.1) = false := by rfl)
    (ht : eval (.Call (.Attribute o m apos) (e :: es) [] pos) X.env = (do
      let ov ← eval o X.env
      standAt apos.atName
      let (f, first) ← holding [ov] (getMethod ov m pl)
      callWith pos f first (backTo pos (starEach (e :: es) X.env)) (backToKw pos (keywordEach [] X.env))) := by rfl) :
    SE c X (.Call (.Attribute o m apos) (e :: es) [] pos) (mMethF c.B g m n mf mo ma) := by
  refine PE.imp (pe_meth ho cl hm F hr hb .nil hx ha hst hpl ht) fun σ H Q p => ?_
  refine tM.bind (R := RV X.K c.γ) (m := mo) (k := fun s (a : A) t1 => if insOf c.B t1 g m a = true then (ma s t1).bind fun as t2 => if (a :: as).length = n then mf c.B (a :: as) t2 else .bad else .bad) p fun ρ H1 σa a v t r s w q => ?_
  by_cases hi : insOf c.B t g m a = true
  · rw [if_pos hi] at q
    obtain ⟨b, C', dx, fs, rfl, hC', hz, hl⟩ := insOf_ok r w hi
    rw [hC] at hC'
    cases hC'
    refine ⟨b, dx, fs, rfl, hz, hl, ρ, σa, t, r, s, Post.bind q fun as t2 ρ2 H2 vs _ f2 r2 w2 p2 => ?_⟩
    by_cases hn : (a :: as).length = n
    · rw [if_pos hn] at p2
      rw [List.append_nil]
      exact ⟨ρ2, c.B, t2, a :: as, hn, r2, by rw [rvs_cons]; exact ⟨_, _, rfl, RV.mono (r.keep f2) _ _ w, w2⟩, p2⟩
    · rw [if_neg hn] at p2; exact p2.elim
  · rw [if_neg hi] at q; exact q.elim
def mMethF0 (B : List O) (g : Nat) (m : Str) (mf : MF) (mo : ME) : ME := fun s t => (mo s t).bind fun a t1 => if insOf B t1 g m a = true then mf B [a] t1 else .bad
theorem se_meth0 {pl : Sem Bool} {g : Nat} (ho : SE c X o mo) (hC : c.γ[g]? = some C) (cl : Cls X.K C) (hm : Meth X.K C m f) (F : FnOk X.prog X.w X.K X.mg X.base (CX X.prog X.w) k f fd ps (spOf X.K c.γ 1 mf)) (hr : Room k X.A) (hx : Passes (CX X.prog X.w) X c.E) (hb : Binds X.K fd ps [])
    (ht : eval (.Call (.Attribute o m apos) [] [] pos) X.env = (do
      let ov ← eval o X.env
      standAt apos.atName
      let (f, first) ← holding [ov] (getMethod ov m pl)
      callWith pos f first (backTo pos (starEach [] X.env)) (backToKw pos (keywordEach [] X.env))) := by rfl) :
    SE c X (.Call (.Attribute o m apos) [] [] pos) (mMethF0 c.B g m mf mo) := by
  refine PE.imp (pe_meth0 ho cl hm F hr hb .nil hx ht) fun σ H Q p => ?_
  refine tM.bind (R := RV X.K c.γ) (m := mo) (k := fun s (a : A) t1 => if insOf c.B t1 g m a = true then mf c.B [a] t1 else .bad) p fun ρ H1 σa a v t r s w q => ?_
  by_cases hi : insOf c.B t g m a = true
  · rw [if_pos hi] at q
    obtain ⟨b, C', dx, fs, rfl, hC', hz, hl⟩ := insOf_ok r w hi
    rw [hC] at hC'
    cases hC'
    exact ⟨b, dx, fs, rfl, hz, hl, ρ, c.B, t, [a], rfl, r, by rw [rvs_cons]; exact ⟨_, _, rfl, w, by rw [rvs_nil]; rfl⟩, q⟩
  · rw [if_neg hi] at q; exact q.elim
/-- e.f, a property -/
def mProp (B : List O) (g : Nat) (mf : MF) (mo : ME) : ME := fun s t => (mo s t).bind fun a t1 => match a with
  | .ref n => (match (B ++ t1)[n]? with
    | some (.ins g' _) => if g' = g then (mf B [.ref n] t1).noX else .bad
    | _ => .bad)
  | _ => .bad
theorem se_prop {g : Nat} {pa : Addr} (ho : SE c X o mo) (hC : c.γ[g]? = some C) (cl : Cls X.K C) (hp : PropOf X.K C m pa f) (F : FnOk X.prog X.w X.K X.mg X.base (CX X.prog X.w) k f fd ps (spOf X.K c.γ 1 mf)) (hr : Room (k + 1) X.A) (hb : Binds X.K fd ps [])
    (hab : attributeBase o m X.env (eval o X.env) = eval o X.env := by rfl) : SE c X (.Attribute o m pos) (mProp c.B g mf mo) := by
  have hx : Passes (CX X.prog X.w) X.nox E0 := fun pins σ H s e s' I q => by
    obtain ⟨_, _, _, _, _, _, _, _, _, _, _, _, z⟩ := q
    exact z.elim
  refine PE.imp (pe_prop ho cl hp F hr hb .nil hx hab) fun σ H Q p => ?_
  refine tM.bind (R := RV X.K c.γ) (m := mo) (k := fun s (a : A) t1 => match a with
    | .ref n => (match (c.B ++ t1)[n]? with
      | some (.ins g' _) => if g' = g then (mf c.B [.ref n] t1).noX else .bad
      | _ => .bad)
    | _ => .bad) p fun ρ H1 σa a v t r s w q => ?_
  cases a with
  | ref n =>
    cases e1 : (c.B ++ t)[n]? with
    | none => simp only [e1] at q; exact q.elim
    | some ob =>
      cases ob with
      | ins g' fs =>
        simp only [e1] at q
        by_cases hg : g' = g
        · rw [if_pos hg] at q
          obtain ⟨l, rfl, hl, C', dx, vs, hC', hz, wv⟩ := r.objAt w e1
          rw [hg, hC] at hC'
          cases hC'
          refine ⟨l, dx, vs, rfl, hz, ρ, c.B, t, [.ref n], rfl, r, by rw [rvs_cons]; exact ⟨_, _, rfl, w, by rw [rvs_nil]⟩, ?_⟩
          generalize mf c.B [.ref n] t = rr at q
          cases rr with
          | ok a t2 => exact q
          | exc _ _ _ => exact q.elim
          | bad => exact q.elim
        · rw [if_neg hg] at q; exact q.elim
      | _ => simp only [e1] at q; exact q.elim
  | _ => exact q.elim
/-- C(..) -/
def mMakeF (B : List O) (g : Nat) (n : Nat) (mf : MF) (ma : MA) : ME := fun s t => (ma s t).bind fun as t1 => if as.length + 1 = n then
  (mf B (.ref (B.length + t1.length) :: as) (t1 ++ [.ins g []])).bind fun v t2 => (match v with
    | .non => .ok (.ref (B.length + t1.length)) t2
    | _ => .bad) else .bad
theorem make_ok {g : Nat} {as : List A} {vs : List V} {t : List O} {Q : VK} (hC : c.γ[g]? = some C) (hl : as.length + 1 = n) (r : Rep X.K c.γ ρ (c.B ++ t) H) (w : RVs X.K c.γ ρ H as vs) (q : Post X.K c.γ c.E c.B (RV X.K c.γ) Q ((mf c.B (.ref (c.B.length + t.length) :: as) (t ++ [.ins g []])).bind fun v t2 => (match v with
    | .non => .ok (.ref (c.B.length + t.length)) t2
    | _ => .bad)) ρ H) (x dx : Addr) (hx : H x = none) (hd : H dx = none) (ne : dx ≠ x) : spOf X.K c.γ n mf (.ref x :: vs) (upd (upd H dx (.own x)) x (.ins C dx [])) (fun v H2 => v = .non ∧ Q (.ref x) H2) c.E := by
  obtain ⟨r1, f1⟩ := r.junk (nb := c.B.length) (o' := .own x) hd
  have hx1 : upd H dx (.own x) x = none := by rw [upd_ne (Ne.symm ne)]; exact hx
  obtain ⟨r2, f2⟩ := r1.push (nb := c.B.length) (o := .ins g []) (o' := .ins C dx []) hx1 ⟨C, dx, [], hC, upd_same, rfl⟩
  have fw := f1.trans f2
  have hi : (ρ ++ [x])[c.B.length + t.length]? = some x := by
    have e : c.B.length + t.length = ρ.length := by rw [r.len, List.length_append]
    rw [e]; simp
  refine ⟨ρ ++ [x], c.B, t ++ [.ins g []], .ref (c.B.length + t.length) :: as, by simpa using hl, by rw [← List.append_assoc]; exact r2, by rw [rvs_cons]; exact ⟨_, _, rfl, by rw [rv_ref]; exact ⟨x, hi, rfl⟩, RVs.mono (r.keep fw) _ _ w⟩, ?_⟩
  refine Post.bindF q fw fun v t2 ρ' H' b f3 r3 w3 q3 => ?_
  cases v with
  | non =>
    rw [rv_non] at w3
    refine ⟨w3, q3 ρ' H' (.ref x) (fw.trans f3) r3 ?_⟩
    rw [rv_ref]
    obtain ⟨m, e⟩ := f3.ext
    exact ⟨x, by rw [e, List.getElem?_append_left (List.getElem?_eq_some_iff.mp hi).1]; exact hi, rfl⟩
  | _ => exact q3.elim
theorem se_make {g : Nat} (hC : c.γ[g]? = some C) (M : Mk X.K C f) (F : FnOk X.prog X.w X.K X.mg X.base (CX X.prog X.w) k f fd ps (spOf X.K c.γ n mf)) (hr : Room (k + 1) X.A) (hx : Passes (CX X.prog X.w) X c.E) (hg : Gl X x) (hm : X.mg x = some (.ref C)) (hb : Binds X.K fd ps [])
    (ha : SA c X (e :: es) ma) (hdb : (x == ("__debug__" : Str)) = false := by decide) (he : starEach (e :: es) X.env = (false, eval e X.env) :: starEach es X.env := by rfl) (hpl : (backTo pos (starEach es X.env)).any (·.1) = false := by rfl) :
    SE c X (.Call (.Name x p) (e :: es) [] pos) (mMakeF c.B g n mf ma) := by
  refine PE.imp (pe_make M F hr hg hm hb .nil hx ha hdb he hpl) fun σ H Q p => ?_
  refine tM.bind (R := RVs X.K c.γ) (m := ma) (k := fun _ (as : List A) t1 => if as.length + 1 = n then
    (mf c.B (.ref (c.B.length + t1.length) :: as) (t1 ++ [.ins g []])).bind fun v t2 => (match v with
      | .non => .ok (A.ref (c.B.length + t1.length)) t2
      | _ => .bad) else .bad) p fun ρ H1 σa as vs t r s w q => ?_
  by_cases hl : as.length + 1 = n
  · rw [if_pos hl] at q
    intro x dx h1 h2 h3
    rw [List.append_nil]
    exact make_ok hC hl r w q x dx h1 h2 h3
  · rw [if_neg hl] at q; exact q.elim
/-- one of two ways, by the state -/
def mAlt {α : Type} (f : Sl → List O → Bool) (m1 m2 : Sl → List O → Res α) : Sl → List O → Res α := fun s t => match f s t with
  | true => m1 s t
  | false => m2 s t
theorem se_alt {m1 m2 : ME} (f : Sl → List O → Bool) (h1 : SE c X e m1) (h2 : SE c X e m2) : SE c X e (mAlt f m1 m2) := by
  have h : PE X e (fun σ H Q => tM c X (RV X.K c.γ) m1 σ H Q ∨ tM c X (RV X.K c.γ) m2 σ H Q) := ⟨fun pins s σ H Q I q => q.elim (h1.run pins s σ H Q I) (h2.run pins s σ H Q I)⟩
  refine PE.imp h fun σ H Q ⟨ρ, σa, t, r, s, p⟩ => ?_
  unfold mAlt at p
  cases e1 : f σa t with
  | true => rw [e1] at p; exact .inl ⟨ρ, σa, t, r, s, p⟩
  | false => rw [e1] at p; exact .inr ⟨ρ, σa, t, r, s, p⟩
/-- a def's promise, by what it does -/
theorem FnOk.same {P : Program} {w : World} {mg : Str → Option Value} {base : Heap} {CX : CXT} {mf' : MF} (F : FnOk P w K mg base CX k f fd ps (spOf K γ n mf)) (h : ∀ B as t, mf' B as t = mf B as t) : FnOk P w K mg base CX k f fd ps (spOf K γ n mf') :=
  F.imp fun vs H Q E ⟨ρ, B, t, as, hl, r, w, p⟩ => ⟨ρ, B, t, as, hl, r, w, by rw [← h]; exact p⟩
end
end Ev
end
section
set_option Elab.async false
set_option linter.all false
set_option maxRecDepth 100000
set_option maxHeartbeats 1000000
/-! Own errors whose __init__ ends in super().__init__(..). -/
namespace Ev
open PySem PySem.Spec PyProof.Rows L2
/-- what the written part says of super() in the def at f of the class at C, over ValueError -/
structure SupF (P : Program) (K : PySem.W.Frag) (mg : Str → Option Value) (C f cc cda : Addr) : Prop where
  fn : ∃ oc od osl fd ar, K.lookup f = some (⟨oc, od, .func fd, osl⟩ : Obj) ∧ (fd.params.posonlyargs ++ fd.params.args).head? = some ar ∧ ar.arg = ("self" : Str)
  code : ∃ ccl cdd vs ccs file tf, K.lookup cda = some (⟨ccl, cdd, .fields vs, ccs⟩ : Obj) ∧ vs[2]? = some (.str file tf) ∧ ((P.main.file : Str) == file) = true
  cell : ∃ cl cld csl, K.lookup cc = some (⟨cl, cld, .cell (some (.ref C)), csl⟩ : Obj)
  self : PySem.W.mroIn K C (.ref C) = some true
  sup : PySem.W.ks_superIn K C C "__init__" = some (some (.builtin "ValueError.__init__"))
  sub : PySem.W.subIn K (.ref C) (.type "ValueError") = some true
  opq : PySem.W.nsIn K cStatics "thirdparty.any" = some none
  mgs : mg "super" = none
  top : (P.main.scope.names.lookup ("super" : Str)).isSome = false
theorem sup_init {X : Cx} {C f cc cda a L : Addr} {qual : Str} {scope : Scope} {body : List Stmt} {p0 p1 p2 pos : Pos} {e : Expr} {es : List Expr} {ta : TA} {pl : Sem Bool} {pins : List (Addr × Obj)} {s : Shared} {σ : L2.St} {H : Hp} {d : Addr} {Q : Hp → Prop}
    (SF : SupF X.prog X.K X.mg C f cc cda) (henv : X.env = PySem.W.envX qual scope L f (.ref cda) [("__class__", cc)]) (hks : scope.names.lookup ("super" : Str) = some .globalImplicit) (hkc : scope.names.lookup ("__class__" : Str) = some .free) (hka : scope.names.lookup ("self" : Str) = some .local)
    (h0 : X.N[0]? = some ("self" : Str)) (T : OexC X.K C) (ha : PA X (e :: es) ta) (I : Inv X pins σ H s) (hσ : σ[0]? = some (some (.ref a))) (ea : H a = some (exo a C (some d)))
    (h : ta σ H fun vs H1 => vs.length ≤ 1000 ∧ H1 a = some (exo a C (some d)) ∧ Q H1)
    (he : starEach (e :: es) X.env = (false, eval e X.env) :: starEach es X.env) (hpl : (backTo pos (starEach es X.env)).any (·.1) = false)
    (hev : eval (.Call (.Attribute (.Call (.Name "super" p0) [] [] p1) "__init__" p2) (e :: es) [] pos) X.env = (do
      let ov ← attributeBase (.Call (.Name "super" p0) [] [] p1) "__init__" X.env (eval (.Call (.Name "super" p0) [] [] p1) X.env)
      standAt p2.atName
      let (f, first) ← holding [ov] (getMethod ov "__init__" pl)
      callWith pos f first (backTo pos (starEach (e :: es) X.env)) [])) :
    PySem.wpAt (model X.prog X.w) X.A (.func body X.env) (eval (.Call (.Attribute (.Call (.Name "super" p0) [] [] p1) "__init__" p2) (e :: es) [] pos) X.env) (fun v s' => ∃ H', Inv X pins σ H' s' ∧ Q H') X.xe s := by
  obtain ⟨oc, od, osl, fd, ar, hf, hp, har⟩ := SF.fn
  obtain ⟨ccl, cdd, vs, ccs, file, tf, hcode, hvs, hfile⟩ := SF.code
  obtain ⟨cl, cld, csl, hcell⟩ := SF.cell
  obtain ⟨nm, q, N, bs, bm, sn, sub, ab, col, dd, k0, k1, k2, k3, k5, hC, hbm⟩ := T.cls
  have hcl : PySem.W.clsIn X.K C = some { name := nm, bases := bs, mro := .ref C :: bm, ns := N, qualname := q, hasDict := true, slotNames := sn, subclasses := sub, abstract := ab, collection := col, hasDel := false } := by unfold PySem.W.clsIn; rw [hC] <;> rfl
  obtain ⟨t1, ho⟩ := exo_at I.hok ea
  obtain ⟨m, hn, look⟩ := I.loc
  have hkind : X.env.scope.kind = .function := I.ok.kind
  have hks' : X.env.kindOf "super" = some .globalImplicit := by rw [henv]; exact hks
  have hkc' : X.env.kindOf "__class__" = some .free := by rw [henv]; exact hkc
  have hka' : X.env.kindOf "self" = some .local := by rw [henv]; exact hka
  have hself : m "self" = some (.ref a) := by
    obtain ⟨u, ru, lk⟩ := look 0 "self" (.ref a) h0 hσ (.inl (by rw [henv]; exact hka))
    have eu : u = .ref a := ru
    subst eu
    rcases lk with ⟨_, z⟩ | ⟨z | z, _⟩
    · exact z
    · rw [hka'] at z; cases z
    · rw [hka'] at z; cases z
  obtain ⟨mb, hb, hbl⟩ := I.mod.blt
  refine ks_wpAt_MethodCall (pl := pl) ?_ hev
  refine ks_wpAt_super_base (cc := cda) (f := f) hks' hkc' (by decide) (by rw [henv]) (I.kIn _ _ hf) rfl hp (by rw [henv]) (I.kIn _ _ hcode) rfl hvs hfile SF.top ?_
  refine PySem.W.ks_loadName_global hkind hks' (Calls.loadGlobal_builtin (by rw [I.ok.glob]; exact I.mod.glob.keeps I.bk) SF.mgs (by rw [I.ok.blt]; exact hb.keeps I.bk) ((hbl "super" (by decide)).trans PyProof.Rows.Boot.«super») ⟨rfl, ?_⟩)
  refine wpAny_loadName_free hkind hkc' (by rw [henv]; rfl) ⟨_, I.kIn _ _ hcell, rfl⟩ ?_
  rw [har]
  refine wpAny_loadName_local hkind hka' hn hself ?_
  refine ks_wpAny_isType_cls (I.kIn _ _ hC) rfl ⟨rfl, ?_⟩
  obtain ⟨hp0, g, dr, tk, os⟩ := s
  refine ks_wpAny_call_super (I.kIn _ _ hC) rfl ho rfl (fun c z => nomatch z) (PySem.W.looks_mroIn I.kIn SF.self) (fun h' e' k => ?_)
  have X' : X.K.In h' := I.kIn.keeps k
  have ho' := k _ _ ho
  have LT : PySem.W.Looks (model X.prog X.w) h' (typeOf (.ref a)) (.ref C) := fun A Q E s k q => wpAny_typeOf_ref (k _ _ ho') q
  have hI : PySem.W.Looks (model X.prog X.w) h' (isInstance (.ref a) (.type "ValueError")) true := LT.andThen (PySem.W.looks_subIn X' SF.sub)
  have hC' := X' _ _ hC
  have hsup : PySem.W.alongIn X.K "__init__" (((Value.ref C :: bm).dropWhile (· != .ref C)).drop 1) = some (some (.builtin "ValueError.__init__")) := by
    have z := SF.sup
    unfold PySem.W.ks_superIn at z
    rw [hcl] at z
    exact z
  have naC : a ≠ C := by
    rintro rfl
    rw [I.kIn _ _ hC] at ho
    cases ho
  refine PySem.W.kxs_getMethod PySem.W.kxs_ValueError e' (PySem.W.looks_opaque X' SF.opq) (l₀ := .ref C :: bm) ((PySem.W.looks_clsIn X' hcl).andThen .now) rfl X' hsup hI naC (by decide) ?_
  have hsz : hp0.objs.size ≤ h'.objs.size := Nat.le_of_lt (Heap.lt_size e')
  have I2 : Inv X ((h'.objs.size, PySem.W.kxs_mw "ValueError.__init__" a) :: pins) σ H ⟨h'.push (PySem.W.kxs_mw "ValueError.__init__" a), g, dr, tk + 1, os⟩ :=
    ClX.pin_new (s := ⟨hp0, g, dr, tk, os⟩) I (fun b o z => Heap.get?_push_of_some _ (k b o z)) hsz (Heap.get?_push_size _ rfl) (fun v z => nomatch z)
  have args := ha.run pos _ _ σ H _ I2 h
  rw [he] at args ⊢
  refine PySem.W.kxs_callWith (i := "ValueError.__init__") (x := a) (u := h'.objs.size) (by show (false || (backTo pos (starEach es X.env)).any (·.1)) = false; rw [hpl]; rfl) (Calls.evalArgs_plain (thn args fun us s4 ⟨vs4, H4, I4, r4, hl4, ea4, q4⟩ => ⟨ClX.pin_at I4, ?_⟩))
  have hu := ClX.pin_at I4
  have J4 := ClX.unpin I4
  obtain ⟨t4, ho4⟩ := exo_at J4.hok ea4
  have hC4 := J4.kIn _ _ hC
  have hus : us.length ≤ sizeLine := by
    rw [← Paired.length r4, sizeLine_eq]
    omega
  obtain ⟨h4, g4, d4, tk4, os4⟩ := s4
  have fin : ∀ h5, (∀ b o, b ≠ a → h4.get? b = some o → h5.get? b = some o) → h5.get? a = some (PySem.W.excObj C h4.objs.size (some d) .none) → h5.get? h4.objs.size = some (PySem.W.excTup us) → ∃ H', Inv X pins σ H' ⟨h5, g4, d4, tk4, os4⟩ ∧ Q H' := fun h5 k5 e5 _ => by
    have J := J4.write (t' := tk4) (x := a) (e := a) (o := exo a C (some d)) (by rw [ea4]; exact True.intro) (.inl rfl) k5 ⟨_, e5⟩ (exo_ok e5)
    have eu : upd H4 a (exo a C (some d)) = H4 := by
      funext b
      by_cases hb : b = a
      · rw [hb, upd_same, ea4]
      · rw [upd_ne hb]
    rw [eu] at J
    exact ⟨H4, J, q4⟩
  refine wpAny_call (codeAny_of_tree ?_)
  show wpAny _ X.A.in1 (callAny (.ref h'.objs.size) ⟨[] ++ us, []⟩) _ _ _
  simp only [callAny, List.nil_append]
  refine wpAny_bind (wpAny_load hu ?_)
  simp only [PySem.W.kxs_mw, show (Value.type "method-wrapper" == Value.type "method" || Value.type "method-wrapper" == Value.type "builtin_function_or_method" || Value.type "method-wrapper" == Value.type "method-wrapper") = true by decide, if_true]
  refine PySem.W.KFB.if_so (by decide) ?_
  refine wpAny_bind (PySem.W.check_bound_init F.excBase_ValueError.toExcCallFacts hC4 ho4 rfl ?_)
  refine wpAny_bind (wpAny_pure (wpAny_pure ?_))
  refine ⟨plainId_quiet F.excBase_ValueError.init.plain _, codeAny_builtin F.excBase_ValueError.initEntry ?_⟩
  exact PySem.W.exc_init_tree (cls := .ref C) (t0 := t4) (dv := some d) (c2 := .none) (c3 := .none) (b4 := .bool false) ho4 hus fin
end Ev
end
section
set_option Elab.async false
set_option linter.all false
set_option maxRecDepth 100000
set_option maxHeartbeats 1000000
/-! The __init__ of an own error keeps its promise. -/
namespace Ev
open PySem PySem.Spec PyProof.Rows L2 NdefX
theorem step_at {X : Cx} {st : Stmt} {rest body : List Stmt} {t : TS} {nx : L2.St → Hp → Prop} {σ : L2.St} {H : Hp} {s : Shared} {pins : List (Addr × Obj)} {Q : Flow → Shared → Prop} (h : PS X st t) (I : Inv X pins σ H s) (ht : t ⟨nx, fun _ _ => False, fun _ _ => False, fun _ _ => False⟩ σ H)
    (k : ∀ σ' H' s', Inv X pins σ' H' s' → nx σ' H' → PySem.wpAt (model X.prog X.w) X.A (.func body X.env) (execs rest X.env) Q X.xe s') : PySem.wpAt (model X.prog X.w) X.A (.func body X.env) (execs (st :: rest) X.env) Q X.xe s := by
  refine ks_wpAt_execs_cons (wpAt_of_wpAny (thn (h.run pins s σ H _ I ht) fun fl s' hsp => ?_))
  cases fl with
  | next => obtain ⟨σ', H', J, q⟩ := hsp; exact k σ' H' s' J q
  | brk => obtain ⟨_, _, _, q⟩ := hsp; exact q.elim
  | cont => obtain ⟨_, _, _, q⟩ := hsp; exact q.elim
  | ret v => obtain ⟨_, _, _, _, _, q⟩ := hsp; exact q.elim
/-- what is wanted ahead of the last statement -/
def AtSup (C : Addr) (ta : TA) (Q : Hp → Prop) : L2.St → Hp → Prop := fun σ H => ∃ a d, σ[0]? = some (some (.ref a)) ∧ H a = some (exo a C (some d)) ∧ ta σ H fun ws H1 => ws.length ≤ 1000 ∧ H1 a = some (exo a C (some d)) ∧ Q H1
theorem last_at {X : Cx} {C f cc cda L : Addr} {qual : Str} {scope : Scope} {body : List Stmt} {p0 p1 p2 pos epos : Pos} {e : Expr} {es : List Expr} {ta : TA} {pl : Sem Bool} {pins : List (Addr × Obj)} {s : Shared} {σ : L2.St} {H : Hp} {Q : Hp → Prop} {R : Flow → Shared → Prop}
    (SF : SupF X.prog X.K X.mg C f cc cda) (henv : X.env = PySem.W.envX qual scope L f (.ref cda) [("__class__", cc)]) (hks : scope.names.lookup ("super" : Str) = some .globalImplicit) (hkc : scope.names.lookup ("__class__" : Str) = some .free) (hka : scope.names.lookup ("self" : Str) = some .local)
    (h0 : X.N[0]? = some ("self" : Str)) (T : OexC X.K C) (ha : PA X (e :: es) ta) (I : Inv X pins σ H s) (h : AtSup C ta Q σ H) (fin : ∀ σ' H' s', Inv X pins σ' H' s' → Q H' → R .next s')
    (he : starEach (e :: es) X.env = (false, eval e X.env) :: starEach es X.env) (hpl : (backTo pos (starEach es X.env)).any (·.1) = false)
    (hev : eval (.Call (.Attribute (.Call (.Name "super" p0) [] [] p1) "__init__" p2) (e :: es) [] pos) X.env = (do
      let ov ← attributeBase (.Call (.Name "super" p0) [] [] p1) "__init__" X.env (eval (.Call (.Name "super" p0) [] [] p1) X.env)
      standAt p2.atName
      let (f, first) ← holding [ov] (getMethod ov "__init__" pl)
      callWith pos f first (backTo pos (starEach (e :: es) X.env)) []))
    (hi : interactive X.env = false) (hsw : swapsWith (.Call (.Attribute (.Call (.Name "super" p0) [] [] p1) "__init__" p2) (e :: es) [] pos) none epos.line X.env = pure false) :
    PySem.wpAt (model X.prog X.w) X.A (.func body X.env) (execs [.Expr (.Call (.Attribute (.Call (.Name "super" p0) [] [] p1) "__init__" p2) (e :: es) [] pos) epos] X.env) R X.xe s := by
  obtain ⟨a, d, hσ, ea, h⟩ := h
  refine ks_wpAt_execs_cons (ks_wpAt_Expr_any (ks_wpAt_mono (sup_init SF henv hks hkc hka h0 T ha I hσ ea h he hpl hev) (fun v s' ⟨H', J, q⟩ => ?_) fun _ _ z => z) hi hsw)
  exact wpAt_of_wpAny (wpAny_execs_nil (fin σ H' s' J q))
/-- an __init__ of one or two stores, then super().__init__(..) -/
theorem fn_init {CX : CXT} {P : Program} {w : World} {K : PySem.W.Frag} {mg : Str → Option Value} {base : Heap} {k : Nat} {f C cc cda : Addr} {name qual : Str} {params : Arguments} {body : List Stmt} {scope : Scope} {dV kV doc pm ct oc : Value} {an od : Option Addr}
    {osl : Array (Option Value)} {N ps : List Str} {sp : Sp} (lk : K.lookup f = some ⟨oc, od, .func (PySem.W.fnX name qual params body scope [("__class__", cc)] dV kV doc pm an (.ref cda) ct), osl⟩) (hcd : PySem.W.codeIn K (.ref cda) qual = true) (S : NScope N ps ["__class__"] scope)
    (SF : SupF P K mg C f cc cda) (len : ∀ vs H Q E, sp vs H Q E → vs.length = ps.length)
    (hbody : ∀ (A : Around) (outer : List Env) (s : Shared) (H : Hp) (vs : List V) (Q : VK) (E : XK) (s' : Shared) (R : Flow → Shared → Prop), Room k (A.deeper (envF ⟨name, qual, params, body, scope, [("__class__", cc)], cda⟩ f s.heap.objs.size)) → sp vs H Q E →
      Inv (ncx CX P w K mg base N ⟨name, qual, params, body, scope, [("__class__", cc)], cda⟩ f A outer s H E) [] (startF N vs [some (.ref C)]) H s' →
      (∀ σ' H' s'', Inv (ncx CX P w K mg base N ⟨name, qual, params, body, scope, [("__class__", cc)], cda⟩ f A outer s H E) [] σ' H' s'' → Q .non H' → R .next s'') →
      PySem.wpAt (model P w) (A.deeper (envF ⟨name, qual, params, body, scope, [("__class__", cc)], cda⟩ f s.heap.objs.size)) (.func body (envF ⟨name, qual, params, body, scope, [("__class__", cc)], cda⟩ f s.heap.objs.size)) (execs body (envF ⟨name, qual, params, body, scope, [("__class__", cc)], cda⟩ f s.heap.objs.size)) R
        (ncx CX P w K mg base N ⟨name, qual, params, body, scope, [("__class__", cc)], cda⟩ f A outer s H E).xe s') :
    FnOk P w K mg base CX (k + 1) f (PySem.W.fnX name qual params body scope [("__class__", cc)] dV kV doc pm an (.ref cda) ct) ps sp := by
  refine ⟨len, fun A outer s H args us vs Q E hr e0 hb r hsp => ?_⟩
  have hl := len _ _ _ _ hsp
  have KX : K.In s.heap := e0.mod.kin.keeps fun b o e => (e0.bs b o e).1
  have lim : s.heap.NoLimit := e0.mod.nolimit.keeps fun b o e => (e0.bs b o e).1
  obtain ⟨cl, cld, csl, hcell⟩ := SF.cell
  have CA : CellsAt [("__class__", cc)] ["__class__"] [some (.ref C)] s.heap H := by
    have one : ∀ y c, List.lookup y [(("__class__" : Str), cc)] = some c → y = "__class__" ∧ c = cc := fun y c e => by
      simp only [List.lookup] at e
      split at e
      · rename_i hy
        cases e
        exact ⟨beq_iff_eq.mp hy, rfl⟩
      · cases e
    have hc0 := e0.bs cc _ (e0.mod.kin _ _ hcell)
    refine ⟨rfl, fun y c e => ?_, fun x y c e1 e2 => by rw [(one x c e1).1, (one y c e2).1], fun i y hi => ?_⟩
    · rw [(one y c e).2]
      exact ⟨hc0.2, _, _, hc0.1, rfl⟩
    · cases i with
      | zero =>
        have ey : ("__class__" : Str) = y := by simpa using hi
        subst ey
        refine ⟨cc, rfl, fun v hv => ?_⟩
        have ev : V.ref C = v := by simpa using hv
        subst ev
        exact ⟨.ref C, rfl, _, hc0.1, rfl⟩
      | succ i => simp at hi
  refine ks_codeAny_call_defAt (binds := ps.zip us) hr.depth (KX _ _ lk) rfl lim (PySem.W.codeRec_of KX hcd) rfl hb S.nocell (fun ⟨n, _⟩ hy => S.par n (List.of_mem_zip hy).1) (fun h₁ hns kp => ?_) S.co S.gen S.kind
  have I : Inv (ncx CX P w K mg base N ⟨name, qual, params, body, scope, [("__class__", cc)], cda⟩ f A outer s H E) [] (startF N vs [some (.ref C)]) H { s with heap := h₁, toks := s.toks + (ps.zip us).length } := inv_startN (F := ⟨name, qual, params, body, scope, [("__class__", cc)], cda⟩) S hr.hd e0 hl r CA hns kp
  exact hbody A outer s H vs Q E _ _ (hr.deeper _) hsp I fun σ' H' s'' J q => ⟨.non, H', J.os, J.bare, J.base, J.hok, rfl, q⟩
end Ev
end
section
set_option Elab.async false
set_option linter.all false
set_option maxRecDepth 100000
set_option maxHeartbeats 1000000
/-! Own errors are made and raised. -/
namespace Ev
open PySem PySem.Spec PyProof.Rows L2 NdefX
/-- self.f of an error that is being made -/
def tOxf (K : PySem.W.Frag) (f : Str) (te : TE) : TE := fun σ H Q => te σ H fun x H1 => ∃ (a C dx : Addr) (fs : List (Str × V)) (v : V), x = .ref a ∧ XfC K C ∧ PySem.W.findIn K (.ref C) f = some none ∧ H1 a = some (exo a C (some dx)) ∧ H1 dx = some (exd dx fs) ∧ fs.lookup f = some v ∧ Q v H1
theorem pe_oxf {X : Cx} {e : Expr} {te : TE} {pos : Pos} {f : Str} (he : PE X e te) (hb : attributeBase e f X.env (eval e X.env) = eval e X.env := by rfl) : PE X (.Attribute e f pos) (tOxf X.K f te) := by
  refine ⟨fun pins s σ H Q I h => ?_⟩
  refine attr_of hb (thn (he.run pins s σ H _ I h) fun u s1 hh => ?_)
  obtain ⟨x, H1, I1, rx, a, C, dx, fs, v, ex, T, hno, ea, ed, l, q⟩ := hh
  subst ex
  obtain rfl : u = Value.ref a := rx
  obtain ⟨t1, ho⟩ := exo_at I1.hok ea
  obtain ⟨mA, hns, hr⟩ := exd_at I1.hok ed
  obtain ⟨od, hod, hl⟩ := lookIn_ns hns
  obtain ⟨u, hu, ru⟩ := RelO.some_of (v := v) (o := mA f) (by rw [← l]; exact hr f)
  have J : PySem.W.InstAt s1.heap a _ C (some od) := ⟨ho, rfl, rfl, hod⟩
  exact PySem.HandSPX.exc_get I1.kIn J T.ga T.gg T.exC (PySem.W.findObj_own T.hdC hno rfl (by rw [hl, hu])) (handed_of ru) ⟨v, H1, I1.tok _, ru, q⟩
section
variable {K : PySem.W.Frag} {γ : Gm} {ρ : List Addr} {hp : List O} {H H' : Hp}
/-- what must stay for our objects to stay: they, the tuples, the tables, the code objects -/
def Stays (ρ : List Addr) (b : Addr) (u : HO) : Prop := b ∈ ρ ∨ (∃ vs, u = .tup vs) ∨ (∃ ps, u = .tbl ps) ∨ ∃ q, u = LamX.CodeO b q
theorem Rep.agree (R : Rep K γ ρ hp H) (h : ∀ b u, H b = some u → Stays ρ b u → H' b = some u) : Rep K γ ρ hp H' ∧ Keep K ρ H ρ H' := by
  have kp : Keep K ρ H ρ H' := ⟨⟨[], by simp⟩, fun q vs hq => h q _ hq (.inr (.inl ⟨vs, rfl⟩))⟩
  refine ⟨⟨R.len, R.nd, fun j b oo hj ho => RO.mono kp (fun u e => h b u e (.inl (List.mem_of_getElem? hj))) (R.ob j b oo hj ho), fun z hz => ?_⟩, kp⟩
  obtain ⟨ps, h1, h2, h3⟩ := R.tab z hz
  refine ⟨ps, h _ _ h1 (.inr (.inr (.inl ⟨ps, rfl⟩))), h2, fun pos cv hc => ?_⟩
  obtain ⟨c, e1, e2⟩ := h3 pos cv hc
  exact ⟨c, e1, h _ _ e2 (.inr (.inr (.inr ⟨_, rfl⟩)))⟩
theorem exo_code {a C : Addr} {d : Option Addr} {q : Str} : exo a C d ≠ LamX.CodeO a q := fun z => by
  unfold exo LamX.CodeO at z
  have z1 := HO.ext.inj z
  have z2 := congrFun z1 ⟨Array.replicate (a + 1) { cls := .none, data := .fields #[.none, .str q default] }, {}⟩
  have g : (⟨Array.replicate (a + 1) { cls := .none, data := .fields #[.none, .str q default] }, {}⟩ : Heap).get? a = some { cls := .none, data := .fields #[.none, .str q default] } := by
    unfold Heap.get?
    simp
  obtain ⟨t1, e⟩ := z2.mpr ⟨_, _, _, g, rfl, rfl⟩
  rw [g] at e
  cases e
theorem exd_code {a : Addr} {fs : List (Str × V)} {q : Str} : exd a fs ≠ LamX.CodeO a q := fun z => by
  unfold exd LamX.CodeO at z
  have z1 := HO.ext.inj z
  have z2 := congrFun z1 ⟨Array.replicate (a + 1) { cls := .none, data := .fields #[.none, .str q default] }, {}⟩
  have g : (⟨Array.replicate (a + 1) { cls := .none, data := .fields #[.none, .str q default] }, {}⟩ : Heap).get? a = some { cls := .none, data := .fields #[.none, .str q default] } := by
    unfold Heap.get?
    simp
  obtain ⟨mA, ⟨o, es, ep, e, hd, _⟩, _⟩ := z2.mpr ⟨_, _, _, g, rfl, rfl⟩
  rw [g] at e
  cases e
  cases hd
theorem Rep.noexo (R : Rep K γ ρ hp H) {a C : Addr} {d : Option Addr} (e : H a = some (exo a C d)) : a ∉ ρ := fun h => by
  obtain ⟨u, e', n⟩ := R.obj h
  rw [e] at e'
  cases e'
  unfold exo at n
  cases n
theorem Rep.noexd (R : Rep K γ ρ hp H) {d : Addr} {fs : List (Str × V)} (e : H d = some (exd d fs)) : d ∉ ρ := fun h => by
  obtain ⟨u, e', n⟩ := R.obj h
  rw [e] at e'
  cases e'
  unfold exd at n
  cases n
end
/-- the values of the fields, one behind the other -/
def copies (B : List O) (mf : MF) : List A → List O → Res (List A)
  | [], t => .ok [] t
  | a :: as, t => (mf B [a] t).bind fun v t1 => (copies B mf as t1).bind fun vs t2 => .ok (v :: vs) t2
def flds (fs : List Str) (vs : List A) : List (Str × A) := (fs.zip vs).reverse
/-- what is known while the error at a is being made: since ρ1, H1; fs its fields -/
def Mid (K : PySem.W.Frag) (γ : Gm) (B : List O) (ρ1 : List Addr) (H1 : Hp) (a C : Addr) (d : Option Addr) (fs : List (Str × V)) (fsA : List (Str × A)) (ρ : List Addr) (t : List O) (H : Hp) : Prop :=
  H1 a = none ∧ Fwd B.length ρ1 H1 ρ H ∧ Rep K γ ρ (B ++ t) H ∧ H a = some (exo a C d) ∧ RKs K γ ρ H fsA fs ∧ match d with
    | none => fs = []
    | some dx => H1 dx = none ∧ dx ≠ a ∧ H dx = some (exd dx fs)
section
variable {K : PySem.W.Frag} {γ : Gm} {B : List O} {ρ1 ρ ρ' : List Addr} {H1 H H' : Hp} {a C : Addr} {d : Option Addr} {fs : List (Str × V)} {fsA : List (Str × A)} {t t' : List O}
theorem Mid.fwd (M : Mid K γ B ρ1 H1 a C d fs fsA ρ t H) (f : Fwd B.length ρ H ρ' H') (r : Rep K γ ρ' (B ++ t') H') : Mid K γ B ρ1 H1 a C d fs fsA ρ' t' H' := by
  obtain ⟨n, fw, r0, ea, wk, hd⟩ := M
  refine ⟨n, fw.trans f, r, (f.beyond ea (r0.noexo ea) (by rfl)).2, RKs.mono (r0.keep f) _ _ wk, ?_⟩
  cases d with
  | none => exact hd
  | some dx => exact ⟨hd.1, hd.2.1, (f.beyond hd.2.2 (r0.noexd hd.2.2) (by rfl)).2⟩
theorem exo_stay {b : Addr} {u : HO} {a C : Addr} {d : Option Addr} (na : a ∉ ρ) (e : H a = some (exo a C d)) (h : H b = some u) (s : Stays ρ b u) : b ≠ a := by
  rintro rfl
  rw [e] at h
  have z := Option.some.inj h
  rcases s with s | ⟨vs, s⟩ | ⟨ps, s⟩ | ⟨q, s⟩
  · exact na s
  · exact exo_tup (z.trans s)
  · exact exo_tbl (z.trans s)
  · exact exo_code (z.trans s)
theorem exd_stay {b : Addr} {u : HO} {a : Addr} {fs : List (Str × V)} (na : a ∉ ρ) (e : H a = some (exd a fs)) (h : H b = some u) (s : Stays ρ b u) : b ≠ a := by
  rintro rfl
  rw [e] at h
  have z := Option.some.inj h
  rcases s with s | ⟨vs, s⟩ | ⟨ps, s⟩ | ⟨q, s⟩
  · exact na s
  · exact exd_tup (z.trans s)
  · have z' : HO.ext _ = HO.tbl ps := z.trans s
    cases z'
  · exact exd_code (z.trans s)
/-- the first field -/
theorem Mid.first {f : Str} {y : V} {yA : A} {dx : Addr} (M : Mid K γ B ρ1 H1 a C none fs fsA ρ t H) (w : RV K γ ρ H yA y) (hd : H dx = none) (hn : dx ≠ a) : Mid K γ B ρ1 H1 a C (some dx) [(f, y)] [(f, yA)] ρ t (upd (upd H dx (exd dx [(f, y)])) a (exo a C (some dx))) ∧ Keep K ρ H ρ (upd (upd H dx (exd dx [(f, y)])) a (exo a C (some dx))) := by
  obtain ⟨n, fw, r, ea, wk, hfs⟩ := M
  have na := r.noexo ea
  have nd := r.fresh hd
  obtain ⟨r1, k1⟩ := r.agree (H' := upd (upd H dx (exd dx [(f, y)])) a (exo a C (some dx))) fun b u e hb => by
    have h1 : b ≠ dx := ne_of_none e hd
    have h2 : b ≠ a := exo_stay na ea e hb
    rw [upd_ne h2, upd_ne h1]; exact e
  have hd1 : H1 dx = none := fw.occN (fun hm => by
    obtain ⟨m, em⟩ := fw.ext
    exact nd (by rw [em]; exact List.mem_append_left _ hm)) hd
  refine ⟨⟨n, (fw.beside hd1 nd).beside n na, r1, upd_same, ⟨y, [], rfl, RV.mono k1 _ _ w, rfl⟩, hd1, hn, ?_⟩, k1⟩
  rw [upd_ne hn, upd_same]
/-- a further one -/
theorem Mid.more {f : Str} {y : V} {yA : A} {dx : Addr} (M : Mid K γ B ρ1 H1 a C (some dx) fs fsA ρ t H) (w : RV K γ ρ H yA y) : Mid K γ B ρ1 H1 a C (some dx) ((f, y) :: fs) ((f, yA) :: fsA) ρ t (upd H dx (exd dx ((f, y) :: fs))) ∧ Keep K ρ H ρ (upd H dx (exd dx ((f, y) :: fs))) := by
  obtain ⟨n, fw, r, ea, wk, hd1, hn, ed⟩ := M
  have nd := r.noexd ed
  obtain ⟨r1, k1⟩ := r.agree (H' := upd H dx (exd dx ((f, y) :: fs))) fun b u e hb => by
    have h1 : b ≠ dx := exd_stay nd ed e hb
    rw [upd_ne h1]; exact e
  refine ⟨⟨n, fw.beside hd1 nd, r1, ?_, ⟨y, fs, rfl, RV.mono k1 _ _ w, RKs.mono k1 _ _ wk⟩, hd1, hn, upd_same⟩, k1⟩
  rw [upd_ne (Ne.symm hn)]; exact ea
/-- the error is let go -/
theorem Mid.gone {dx : Addr} (M : Mid K γ B ρ1 H1 a C (some dx) fs fsA ρ t H) : Fwd B.length ρ1 H1 ρ (upd (del H a) dx (.xd fs)) ∧ Rep K γ ρ (B ++ t) (upd (del H a) dx (.xd fs)) ∧ RKs K γ ρ (upd (del H a) dx (.xd fs)) fsA fs := by
  obtain ⟨n, fw, r, ea, wk, hd1, hn, ed⟩ := M
  have nd := r.noexd ed
  have na := r.noexo ea
  obtain ⟨r1, k1⟩ := r.agree (H' := upd (del H a) dx (.xd fs)) fun b u e hb => by
    have h1 : b ≠ dx := exd_stay nd ed e hb
    have h2 : b ≠ a := exo_stay na ea e hb
    rw [upd_ne h1, del_ne h2]; exact e
  refine ⟨⟨fw.ext, fw.new, fun b o e hb hz => ?_, fun b o e hz => ?_, fun b o u e => ?_, fun i b hi hb => ?_⟩, r1, RKs.mono k1 _ _ wk⟩
  · rw [upd_ne (ne_of_none e hd1), del_ne (ne_of_none e n)]
    exact fw.kept b o e hb hz
  · rw [upd_ne (ne_of_none e hd1), del_ne (ne_of_none e n)]
    exact fw.occ b o e hz
  · rw [upd_ne (ne_of_none e hd1), del_ne (ne_of_none e n)]
    exact fw.frz b o u e
  · have hm : b ∈ ρ := by
      obtain ⟨m, em⟩ := fw.ext
      rw [em]; exact List.mem_append_left _ (List.mem_of_getElem? hb)
    rw [upd_ne (fun z : b = dx => nd (z ▸ hm)), del_ne (fun z : b = a => na (z ▸ hm))]
    exact fw.bs i b hi hb
end
end Ev
end
section
set_option Elab.async false
set_option linter.all false
set_option maxRecDepth 100000
set_option maxHeartbeats 1000000
/-! Raising an own error. -/
namespace Ev
open PySem PySem.Spec PyProof.Rows L2 NdefX
/-- the promise of an own error's __init__: its fields are what mf makes of the arguments -/
def spInit (K : PySem.W.Frag) (γ : Gm) (C : Addr) (fs : List Str) (mf : MF) : Sp := fun vs H Q _ => ∃ a ws as ρ1 B t H1, vs = .ref a :: ws ∧ as.length = fs.length ∧ H1 a = none ∧ H = upd H1 a (exo a C none) ∧ Rep K γ ρ1 (B ++ t) H1 ∧ RVs K γ ρ1 H1 as ws ∧
  match copies B mf as t with
  | .ok vs' t' => ∀ ρ' H' dx fsV, Mid K γ B ρ1 H1 a C (some dx) fsV (flds fs vs') ρ' t' H' → Q .non H'
  | _ => False
theorem spInit_len {K : PySem.W.Frag} {γ : Gm} {C : Addr} {fs : List Str} {mf : MF} (vs : List V) (H : Hp) (Q : VK) (E : XK) (h : spInit K γ C fs mf vs H Q E) : vs.length = fs.length + 1 := by
  obtain ⟨a, ws, as, ρ1, B, t, H1, rfl, hl, _, _, _, w, _⟩ := h
  rw [List.length_cons, w.length, hl]
def mRaise (B : List O) (g : Nat) (fs : List Str) (mf : MF) (ma : MA) : MS := fun s t => (ma s t).bind fun as t1 => if (decide (as.length = fs.length) && decide (fs.length ≤ 1000)) = true then (match copies B mf as t1 with
  | .ok vs t2 => .exc g (flds fs vs) t2
  | _ => .bad) else .bad
theorem pass0 {P : Program} {w : World} {X : Cx} : Passes (CX P w) X E0 := fun pins σ H s e s' I q => by
  obtain ⟨_, _, _, _, _, _, _, _, _, _, _, _, z⟩ := q
  exact z.elim
theorem ss_raise {c : Cc} {X : Cx} {g k : Nat} {C fI : Addr} {fd : FuncData} {ps fs : List Str} {mf : MF} {x : Str} {p pos rpos : Pos} {e : Expr} {es : List Expr} {ma : MA} (hc : X.calm = true) (tk : Takes X (fun cls d _ H => c.E cls d H)) (hC : c.γ[g]? = some C) (T : OexC X.K C) (iC : PySem.W.findIn X.K (.ref C) "__init__" = some (some (.ref fI))) (tI : PySem.W.typeIn X.K (.ref fI) = some (.type "function"))
    (F1 : FnOk X.prog X.w X.K X.mg X.base (CX X.prog X.w) k fI fd ps (spInit X.K c.γ C fs mf)) (hr : Room (k + 1) X.A) (hb : Binds X.K fd ps []) (hg : Gl X x) (hm : X.mg x = some (.ref C)) (ha : SA c X (e :: es) ma)
    (hdb : (x == ("__debug__" : Str)) = false := by decide) (he : starEach (e :: es) X.env = (false, eval e X.env) :: starEach es X.env := by rfl) (hpl : (backTo pos (starEach es X.env)).any (·.1) = false := by rfl) :
    SS c X (.Raise (some (.Call (.Name x p) (e :: es) [] pos)) none rpos) (mRaise c.B g fs mf ma) := by
  refine PS.imp (ps_raise hc tk (pmk_oex T iC tI F1 hr hb .nil pass0 hg hm ha hdb he hpl)) fun D σ H p => ?_
  refine tS.bind (R := RVs X.K c.γ) (m := ma) (k := fun _ (as : List A) t1 => if (decide (as.length = fs.length) && decide (fs.length ≤ 1000)) = true then (match copies c.B mf as t1 with
    | .ok vs t2 => .exc g (flds fs vs) t2
    | _ => .bad) else .bad) p fun ρ H1 σa as vs t r s w q => ?_
  by_cases hl : (decide (as.length = fs.length) && decide (fs.length ≤ 1000)) = true
  · rw [if_pos hl] at q
    simp only [Bool.and_eq_true, decide_eq_true_eq] at hl
    refine ⟨by rw [w.length, hl.1]; exact hl.2, fun a hna => ?_⟩
    rw [List.append_nil]
    refine ⟨a, vs, as, ρ, c.B, t, H1, rfl, hl.1, hna, rfl, r, w, ?_⟩
    cases ec : copies c.B mf as t with
    | ok vs' t2 =>
      rw [ec] at q
      intro ρ' H' dx fsV M
      have M' := M
      obtain ⟨n, fw, r0, ea, wk, hd1, hn, ed⟩ := M'
      obtain ⟨fx, r2, wk2⟩ := M.gone
      exact ⟨rfl, dx, fsV, ea, ed, hd1, q ρ' _ C dx fsV fx r2 hC upd_same wk2⟩
    | exc _ _ _ => rw [ec] at q; exact q.elim
    | bad => rw [ec] at q; exact q.elim
  · rw [if_neg hl] at q; exact q.elim
/-- __init__(self, f1, f2) -/
theorem fn_init2 {P : Program} {w : World} {K : PySem.W.Frag} {mg : Str → Option Value} {base : Heap} {γ : Gm} {k : Nat} {f C cc cda : Addr} {name qual f1 f2 : Str} {params : Arguments} {e1 e2 : Expr} {p0 p1 p2 p3 p4 p5 p6 q0 q1 q2 q3 q4 q5 pos epos : Pos} {scope : Scope} {dV kV doc pm ct oc : Value} {an od : Option Addr}
    {osl : Array (Option Value)} {ps : List Str} {mf : MF} {body : List Stmt}
    (hbd : body = [.Assign [.Attribute (.Name "self" p1) f1 p2] e1 p3, .Assign [.Attribute (.Name "self" p4) f2 p5] e2 p6, .Expr (.Call (.Attribute (.Call (.Name "super" p0) [] [] q0) "__init__" q1) [.Attribute (.Name "self" q2) f1 q3, .Attribute (.Name "self" q4) f2 q5] [] pos) epos])
    (lk : K.lookup f = some ⟨oc, od, .func (PySem.W.fnX name qual params body scope [("__class__", cc)] dV kV doc pm an (.ref cda) ct), osl⟩) (hcd : PySem.W.codeIn K (.ref cda) qual = true) (S : NScope ["self", f1, f2, "__class__"] ["self", f1, f2] ["__class__"] scope)
    (hks : scope.names.lookup ("super" : Str) = some .globalImplicit)
    (SF : SupF P K mg C f cc cda) (T : OexC K C) (TX : XfC K C) (hno1 : PySem.W.findIn K (.ref C) f1 = some none) (hno2 : PySem.W.findIn K (.ref C) f2 = some none) (hne : f1 ≠ f2)
    (he1 : ∀ (A : Around) (outer : List Env) (s : Shared) (H : Hp) (E : XK) (B : List O), Room k (A.deeper (envF ⟨name, qual, params, body, scope, [("__class__", cc)], cda⟩ f s.heap.objs.size)) → SE ⟨γ, E0, B⟩ (ncx (CX P w) P w K mg base ["self", f1, f2, "__class__"] ⟨name, qual, params, body, scope, [("__class__", cc)], cda⟩ f A outer s H E) e1 (mCallF B 1 mf (mCons (mVar 1) mNil)))
    (he2 : ∀ (A : Around) (outer : List Env) (s : Shared) (H : Hp) (E : XK) (B : List O), Room k (A.deeper (envF ⟨name, qual, params, body, scope, [("__class__", cc)], cda⟩ f s.heap.objs.size)) → SE ⟨γ, E0, B⟩ (ncx (CX P w) P w K mg base ["self", f1, f2, "__class__"] ⟨name, qual, params, body, scope, [("__class__", cc)], cda⟩ f A outer s H E) e2 (mCallF B 1 mf (mCons (mVar 2) mNil)))
    (hs1 : ∀ env, swapsWith e1 (some (.Attribute (.Name "self" p1) f1 p2)) p3.line env = pure false) (hs2 : ∀ env, swapsWith e2 (some (.Attribute (.Name "self" p4) f2 p5)) p6.line env = pure false) {pl : Env → Sem Bool}
    (hev : ∀ env : Env, eval (.Call (.Attribute (.Call (.Name "super" p0) [] [] q0) "__init__" q1) [.Attribute (.Name "self" q2) f1 q3, .Attribute (.Name "self" q4) f2 q5] [] pos) env = (do
      let ov ← attributeBase (.Call (.Name "super" p0) [] [] q0) "__init__" env (eval (.Call (.Name "super" p0) [] [] q0) env)
      standAt q1.atName
      let (f, first) ← holding [ov] (getMethod ov "__init__" (pl env))
      callWith pos f first (backTo pos (starEach [.Attribute (.Name "self" q2) f1 q3, .Attribute (.Name "self" q4) f2 q5] env)) [])) :
    FnOk P w K mg base (CX P w) (k + 1) f (PySem.W.fnX name qual params body scope [("__class__", cc)] dV kV doc pm an (.ref cda) ct) ["self", f1, f2] (spInit K γ C [f1, f2] mf) := by
  refine fn_init lk hcd S SF (fun vs H Q E h => by rw [spInit_len vs H Q E h]; rfl) fun A outer s H vs Q E s' R hr hsp I fin => ?_
  obtain ⟨a, ws, as, ρ1, B, t, H1, rfl, hl, hna, rfl, r, wv, hq⟩ := hsp
  rcases as with _ | ⟨A1, _ | ⟨A2, _ | ⟨A3, as⟩⟩⟩
  · cases hl
  · cases hl
  · obtain ⟨v1, v2, rfl, w1, w2⟩ := rvs_two wv
    have M0 : Mid K γ B ρ1 H1 a C none [] [] ρ1 t (upd H1 a (exo a C none)) := ⟨hna, (Fwd.refl _ _).beside hna (r.fresh hna), (r.junk (nb := 0) hna).1, upd_same, rfl, rfl⟩
    have k0 := r.keep (r.junk (nb := 0) (o' := exo a C none) hna).2
    -- the copies
    unfold copies at hq
    cases ec1 : mf B [A1] t with
    | exc _ _ _ => rw [ec1] at hq; exact hq.elim
    | bad => rw [ec1] at hq; exact hq.elim
    | ok y1 t1 =>
      rw [ec1] at hq
      unfold copies at hq
      cases ec2 : mf B [A2] t1 with
      | exc _ _ _ => simp only [Res.bind, ec2] at hq
      | bad => simp only [Res.bind, ec2] at hq
      | ok y2 t2 =>
        simp only [Res.bind, ec2, copies] at hq
        subst hbd
        have par : ∀ y : Str, y ∈ (["self", f1, f2] : List Str) → scope.names.lookup y = some .local := fun y hy => S.par y hy
        have pself : ∀ {bd : List Stmt} {pp : Pos}, PE (ncx (CX P w) P w K mg base ["self", f1, f2, "__class__"] ⟨name, qual, params, bd, scope, [("__class__", cc)], cda⟩ f A outer s (upd H1 a (exo a C none)) E) (.Name "self" pp) (tVar 0) := fun {bd pp} => pe_var (i := 0) rfl (.inl (par "self" (by simp)))
        -- first store
        refine step_at (nx := fun σ' H' => σ' = startF ["self", f1, f2, "__class__"] [.ref a, v1, v2] [some (.ref C)] ∧ ∃ ρ dx fsV, Mid K γ B ρ1 H1 a C (some dx) [(f1, fsV)] [(f1, y1)] ρ t1 H' ∧ RV K γ ρ H' A2 v2) (ps_ost pself (he1 A outer s _ E B hr) (hs1 _)) I ?_ fun σ1 Ha sa Ia ⟨es1, ρa, dx, ya, Ma, w2a⟩ => ?_
        · refine ⟨ρ1, [none, some A1, some A2, none], t, M0.2.2.1, ⟨_, _, rfl, (fun _ z => by cases z), _, _, rfl, (fun b z => by cases z; exact ⟨v1, rfl, RV.mono k0 _ _ w1⟩), _, _, rfl, (fun b z => by cases z; exact ⟨v2, rfl, RV.mono k0 _ _ w2⟩), _, _, rfl, (fun _ z => by cases z), rfl⟩, ?_⟩
          have em : mCallF B 1 mf (mCons (mVar 1) mNil) [none, some A1, some A2, none] t = .ok y1 t1 := by
            show (if ([A1] : List Ev.A).length = 1 then mf B [A1] t else Res.bad) = _
            rw [if_pos (show ([A1] : List Ev.A).length = 1 from rfl), ec1]
          rw [em]
          intro ρ' H' y fw r' wy
          have M1 := M0.fwd fw r'
          have k1 := M0.2.2.1.keep fw
          refine ⟨.ref a, rfl, a, C, rfl, T, hno1, .inl ⟨M1.2.2.2.1, fun dx hd hn => ⟨rfl, ρ', dx, y, (M1.first wy hd hn).1, RV.mono ((k0.trans k1).trans (M1.first (f := f1) wy hd hn).2) _ _ w2⟩⟩⟩
        subst es1
        -- second store
        refine step_at (nx := fun σ' H' => σ' = startF ["self", f1, f2, "__class__"] [.ref a, v1, v2] [some (.ref C)] ∧ ∃ ρ dx z1 z2, Mid K γ B ρ1 H1 a C (some dx) [(f2, z2), (f1, z1)] [(f2, y2), (f1, y1)] ρ t2 H') (ps_ost pself (he2 A outer s _ E B hr) (hs2 _)) Ia ?_ fun σ2 Hb sb Ib ⟨es2, ρb, dx2, z1, z2, Mb⟩ => ?_
        · refine ⟨ρa, [none, none, some A2, none], t1, Ma.2.2.1, ⟨_, _, rfl, (fun _ z => by cases z), _, _, rfl, (fun _ z => by cases z), _, _, rfl, (fun b z => by cases z; exact ⟨v2, rfl, w2a⟩), _, _, rfl, (fun _ z => by cases z), rfl⟩, ?_⟩
          have em : mCallF B 1 mf (mCons (mVar 2) mNil) [none, none, some A2, none] t1 = .ok y2 t2 := by
            show (if ([A2] : List Ev.A).length = 1 then mf B [A2] t1 else Res.bad) = _
            rw [if_pos (show ([A2] : List Ev.A).length = 1 from rfl), ec2]
          rw [em]
          intro ρ' H' y fw r' wy
          have M1 := Ma.fwd fw r'
          exact ⟨.ref a, rfl, a, C, rfl, T, hno2, .inr ⟨dx, _, M1.2.2.2.1, M1.2.2.2.2.2.2.2, by show 1 ≤ 900; decide, rfl, ρ', dx, ya, y, (M1.more wy).1⟩⟩
        subst es2
        refine last_at (C := C) SF rfl hks (S.frk "__class__" (by simp)) (par "self" (by simp)) rfl T (pa_cons (pe_oxf pself) (pa_cons (pe_oxf pself) pa_nil)) Ib (Q := fun H' => Q .non H') ?_ (fun σ' H' s'' J q => fin σ' H' s'' J q) rfl rfl (hev _) (by have hk : scope.kind = .function := S.kind; show (scope.kind == .module && _) = false; rw [hk]; rfl) rfl
        have ed := Mb.2.2.2.2.2.2.2
        refine ⟨a, dx2, rfl, Mb.2.2.2.1, .ref a, rfl, a, C, dx2, _, z1, rfl, TX, hno1, Mb.2.2.2.1, ed, ?_, .ref a, rfl, a, C, dx2, _, z2, rfl, TX, hno2, Mb.2.2.2.1, ed, ?_, by simp, Mb.2.2.2.1, hq ρb _ dx2 _ Mb⟩
        · rw [List.lookup_cons, show (f1 == f2) = false from by simp [hne]]
          simp [List.lookup_cons]
        · simp [List.lookup_cons]
  · cases hl
end Ev
end
section
set_option Elab.async false
set_option linter.all false
set_option maxRecDepth 100000
set_option maxHeartbeats 1000000
/-! A lambda is made and handed to a def that tries it. -/
namespace Ev
open PySem PySem.Spec PyProof.Rows L2
/-- what the making of a lambda changes: nothing, or a row of the maker's table and a new code object -/
def Grew (P : Addr) (q : Str) (H H1 : Hp) : Prop := H1 = H ∨ ∃ (c' : Addr) (ps ps' : Array Value), H P = some (.tbl ps) ∧ H c' = none ∧ H1 = upd (upd H P (.tbl ps')) c' (LamX.CodeO c' q)
theorem Grew.fwd {P : Addr} {q : Str} {H H1 : Hp} {K : PySem.W.Frag} {γ : Gm} {ρ : List Addr} {hp : List O} {nb : Nat} (g : Grew P q H H1) (R : Rep K γ ρ hp H) (T1 : LamX.Tabs γ.T H1) : Fwd nb ρ H ρ H1 ∧ Rep K γ ρ hp H1 := by
  rcases g with rfl | ⟨c', ps, ps', hP, hc, rfl⟩
  · exact ⟨Fwd.refl _ _, R⟩
  · have nPc : P ≠ c' := ne_of_none hP hc
    have st : ∀ b u, H b = some u → isTb u = false → upd (upd H P (.tbl ps')) c' (LamX.CodeO c' q) b = some u := fun b u e z => by
      rw [upd_ne (ne_of_none e hc), upd_ne]
      · exact e
      · rintro rfl
        rw [hP] at e
        cases e
        cases z
    have kp : Keep K ρ H ρ (upd (upd H P (.tbl ps')) c' (LamX.CodeO c' q)) := ⟨⟨[], by simp⟩, fun p vs e => st p _ e rfl⟩
    have trk : ∀ b, b ∈ ρ → ∀ u, H b = some u → isTb u = false := fun b hb u e => by
      obtain ⟨u', e', z⟩ := R.obj hb
      rw [e] at e'
      cases e'
      exact noT_tb z
    refine ⟨⟨⟨[], by simp⟩, fun a h n => absurd h n, fun a o e _ z => st a o e z, fun a o e z => ?_, fun a o u e => st a _ e rfl, fun n a _ ha => ?_⟩, ⟨R.len, R.nd, fun n a o ha ho => RO.mono kp (fun u e => st a u e (trk a (List.mem_of_getElem? ha) u e)) (R.ob n a o ha ho), T1⟩⟩
    · by_cases hb : a = P
      · subst hb
        exact ⟨_, by rw [upd_ne nPc, upd_same], rfl⟩
      · exact ⟨o, by rw [upd_ne (ne_of_none e hc), upd_ne hb]; exact e, z⟩
    · obtain ⟨u, e, z⟩ := R.obj (List.mem_of_getElem? ha)
      rw [st a u e (noT_tb z), e]
section
variable {X : Cx} {pins : List (Addr × Obj)} {σ : L2.St} {H : Hp} {s : Shared}
theorem lam_new {T : List (Addr × Str)} {c P : Addr} {params : Arguments} {body : Expr} {scope : Scope} {pos : Pos} {E : Value → Shared → Prop} {Q : Value → Shared → Prop} (I : Inv X pins σ H s) (TB : LamX.TabB X.base X.mg c P) (hcode : X.env.code = .ref c)
    (hm : (P, X.env.qual ++ "<lambda>") ∈ T) (hu : ∀ p ∈ T, p.1 = P → p.2 = X.env.qual ++ "<lambda>") (hT : LamX.Tabs T H) (hdef : defaultsOf params X.env = ([], [])) (hfree : ∀ y ∈ scope.names, y.2 = .free → ∃ c, X.env.cells.lookup y.1 = some c)
    (h : ∀ (f c' : Addr) (pm ctv : Value) (H1 : Hp) (s' : Shared), Inv X pins σ H1 s' ∧ Grew P (X.env.qual ++ "<lambda>") H H1 ∧ LamX.Tabs T H1 ∧ H1 f = none ∧ f ∉ frs X.stack ∧ H1 c' = some (LamX.CodeO c' (X.env.qual ++ "<lambda>")) ∧
      s'.heap.get? f = some (PySem.W.kla_obj "<lambda>" (X.env.qual ++ "<lambda>") params body scope (cloFrom X.env.cells scope.names []) pm c' ctv) → Q (.ref f) s') :
    wpAny (model X.prog X.w) X.A (eval (.Lambda params body scope pos) X.env) Q E s := by
  obtain ⟨ps, tP, tOk, codes⟩ := hT _ hm
  have oP : s.heap.get? P = some { cls := .none, data := .fields ps } := I.hok P _ tP
  have nf : ∀ f, s.heap.objs.size ≤ f → f ∉ frs X.stack := fun f hf z => by
    rcases List.mem_cons.mp (I.stkSub _ z) with e | e
    · exact Nat.lt_irrefl _ (Nat.lt_of_lt_of_le (e ▸ I.lt) hf)
    · exact I.nofs hf e
  refine PySem.W.kla_eval hdef ?_
  cases found : codeAmong pos ps.toList with
  | some cv =>
    obtain ⟨c', rfl, hco⟩ := codes pos cv found
    refine PySem.W.kla_makeFunctionHit (mg := X.mg) (c := c) (P := P) (ps := ps) (closure_ok hfree) I.ok.glob (I.mod.glob.keeps I.bk) hcode (TB.code.keeps I.bk) oP tOk found (TB.bm.keeps I.bk) fun ctv h' tk hx hsz => ?_
    have I1 := I.kept (t' := tk) (h' := h'.push (PySem.W.kla_obj "<lambda>" (X.env.qual ++ "<lambda>") params body scope (cloFrom X.env.cells scope.names []) ((X.mg "__name__").getD .none) c' ctv)) fun b o e => Heap.get?_push_of_some _ (hx b o e)
    exact h _ c' ((X.mg "__name__").getD .none) ctv H _ ⟨I1, .inl rfl, hT, I.hok.fresh hsz, nf _ hsz, hco, Heap.get?_push_size _ rfl⟩
  | none =>
    refine PySem.W.kla_makeFunction (mg := X.mg) (c := c) (P := P) (ps := ps) (closure_ok hfree) I.ok.glob (I.mod.glob.keeps I.bk) hcode (TB.code.keeps I.bk) oP tOk found TB.gP (TB.bm.keeps I.bk) fun c' ctv h' tk hx hge hlt hrec htb => ?_
    obtain ⟨_, oc, vs, t, ec, hoc, hd, hv⟩ := hrec
    cases ec
    have hsz : s.heap.objs.size ≤ h'.objs.size := Nat.le_trans hge (Nat.le_of_lt hlt)
    have nC : H c' = none := I.hok.fresh hge
    have nPc : P ≠ c' := ne_of_none tP nC
    have J := LamX.inv_table (t' := tk) (more := #[rawInt pos.line, rawInt pos.col, .ref c']) (h' := h'.push (PySem.W.kla_obj "<lambda>" (X.env.qual ++ "<lambda>") params body scope (cloFrom X.env.cells scope.names []) ((X.mg "__name__").getD .none) c' ctv)) I tP
      (fun b o hb e => Heap.get?_push_of_some _ (hx b o hb e)) (Heap.get?_push_of_some _ htb) hge ⟨oc, vs, t, Heap.get?_push_of_some _ hoc, hd, hv⟩
    have more : (ps ++ #[rawInt pos.line, rawInt pos.col, .ref c']).toList = ps.toList ++ [rawInt pos.line, rawInt pos.col, .ref c'] := by simp
    have st : ∀ b u, H b = some u → b ≠ P → upd (upd H P (.tbl (ps ++ #[rawInt pos.line, rawInt pos.col, .ref c']))) c' (LamX.CodeO c' (X.env.qual ++ "<lambda>")) b = some u := fun b u e hb => by
      rw [upd_ne (ne_of_none e nC), upd_ne hb]; exact e
    have coP : ∀ b q', H b = some (LamX.CodeO b q') → b ≠ P := fun b q' e z => by
      rw [z, tP] at e
      exact LamX.codeO_ne ps (Option.some.inj e).symm
    refine h h'.objs.size c' ((X.mg "__name__").getD .none) ctv _ _ ⟨J, .inr ⟨c', ps, _, tP, nC, rfl⟩, fun p hp => ?_, ?_, nf _ hsz, upd_same, Heap.get?_push_size _ rfl⟩
    · obtain ⟨ps', a1, a2, a3⟩ := hT p hp
      by_cases hb : p.1 = P
      · rw [hb, tP] at a1
        cases a1
        refine ⟨_, by rw [hb, upd_ne nPc, upd_same], by rw [more]; exact PySem.TriplesOk_snoc _ _ _ _ tOk, fun p' cv hcv => ?_⟩
        rw [more] at hcv
        rw [hu p hp hb]
        rcases LamX.among_app _ tOk hcv with z | z
        · obtain ⟨c0, e1, e2⟩ := codes p' cv z
          exact ⟨c0, e1, st _ _ e2 (coP _ _ e2)⟩
        · exact ⟨c', z, upd_same⟩
      · refine ⟨ps', st _ _ a1 hb, a2, fun p' cv hcv => ?_⟩
        obtain ⟨c0, e1, e2⟩ := a3 p' cv hcv
        exact ⟨c0, e1, st _ _ e2 (coP _ _ e2)⟩
    · rw [upd_ne (Nat.ne_of_gt hlt), upd_ne (Nat.ne_of_gt (Nat.lt_of_lt_of_le (Heap.lt_size oP) hsz))]
      exact I.hok.fresh hsz
/-- x(lambda: body) -/
def tLamN (T : List (Addr × Str)) (P : Addr) (q : Str) (TT : (XK → Hp → VK → Prop) → Hp → VK → Prop) (t : XK → TE) : TE := fun σ H Q => LamX.Tabs T H ∧ ∀ H1, Grew P q H H1 → LamX.Tabs T H1 → TT (fun E H' Q' => t E σ H' Q') H1 Q
theorem pe_lamN {T : List (Addr × Str)} {TT : (XK → Hp → VK → Prop) → Hp → VK → Prop} {x a : Str} {g c P : Addr} {k : Nat} {pg : Arguments} {bg : List Stmt} {sg : Scope} {Ng : List Str} {fd : FuncData}
    {params : Arguments} {body : Expr} {scope : Scope} {t : XK → TE} {p lpos pos : Pos} (F : FunD X.K x x pg bg sg [] [] g fd) (hg : Gl X x) (hm : X.mg x = some (.ref g)) (hb : L2.Binds X.K fd [a] []) (Sg : FnScope Ng [a] sg) (hNg : Ng[0]? = some a) (hva : Vis sg a)
    (hG : ∀ cdv, LamX.GivesTo X Ng x sg g cdv bg a (X.env.qual ++ "<lambda>") TT)
    (TB : LamX.TabB X.base X.mg c P) (hcode : X.env.code = .ref c) (hmT : (P, X.env.qual ++ "<lambda>") ∈ T) (hu : ∀ p ∈ T, p.1 = P → p.2 = X.env.qual ++ "<lambda>") (hr : Room (k + 2) X.A) (L : LamX.LamS X.env.scope scope) (hdef : defaultsOf params X.env = ([], []))
    (hbind : ∀ (q : Str) (cl : List (Str × Addr)) (pm cv ctv : Value), bindArgs (PySem.W.kla_fn "<lambda>" q params body scope cl pm cv ctv) ⟨[], []⟩ = pure [])
    (hbody : ∀ (A : Around) (outer : List Env) (s : Shared) (H : Hp) (E : XK) (f c' : Addr), Room k (A.deeper (LamX.lamEnv X scope s.heap.objs.size f c')) → PE (LamX.lamCx X A outer s H E scope f c') body (t E))
    (hdb : (x == ("__debug__" : Str)) = false := by decide) (hd : (a == ("__debug__" : Str)) = false := by decide) (hcd : (a == ("__classdict__" : Str)) = false := by decide) :
    PE X (.Call (.Name x p) [.Lambda params body scope lpos] [] pos) (tLamN T P (X.env.qual ++ "<lambda>") TT t) := by
  obtain ⟨⟨oc, od, dV, kV, doc, pm, an, cdv, ct, osl, rfl, lk, hcg, _, _⟩, hk⟩ := F
  refine ⟨fun pins s σ H Q I h => ?_⟩
  refine wpAny_Call_Name_kw (ld_glob I hg hm (PySem.W.callWith_K (h₀ := X.base) I.ok.mod.kin hk ?_ (by rfl) (by rfl)) hdb)
  show wpAny _ _ (spliced ((false, eval (.Lambda params body scope lpos) X.env) :: backTo pos (starEach [] X.env))) _ _ s
  refine Calls.spliced_cons (lam_new I TB hcode hmT hu h.1 hdef (L.has I.ok) fun f c' pm' ctv H1 s' ⟨I1, gw, T1, hfn, hfr, hco, hf⟩ => Calls.spliced_nil ⟨I1.kIn, wpAny_call (codeAny_mono (R := CR C8.CX0 X.stack X.prog X.w H1 s' Q C8.E0) ?_ fun r s2 hq => ?_)⟩)
  · refine LamX.run_ofS (N := Ng) (ps := [a]) (us := [.ref f]) (vs := [.ref f]) lk hcg Sg hr I1.env0 (hb s' [.ref f] I1.kIn rfl) (.cons rfl .nil) rfl fun hr' => ?_
    obtain ⟨t', ht, hq⟩ := hG cdv f c' s' H1 Q (fun E H' Q' => t E σ H' Q') (fun W pn xe E p1 p2 tk hW => LamX.pe_act (i := 0) I1 L hf hfn hfr (hbind _ _ _ _ _) tk hW hr' (fun A outer s H hr2 => hbody A outer s H E f c' hr2) hNg hva hd hcd) hco (h.2 H1 gw T1)
    exact ⟨t', ht.nox, hq⟩
  · cases r with
    | error e => exact False.elim hq
    | ok fl =>
      cases fl with
      | ret u => exact I1.after hq
      | _ => exact False.elim hq
end
end Ev
end
section
set_option Elab.async false
set_option linter.all false
set_option maxRecDepth 100000
set_option maxHeartbeats 1000000
/-! try: a() / except x as n: return R / return None. -/
namespace Ev
open PySem PySem.Spec PyProof.Rows L2
/-- isinstance(e, T): yes -/
theorem is_yes {K : PySem.W.Frag} {a D : Addr} {oe : Obj} {T : String} (hc : oe.cls = .ref D) (hk : PySem.W.kitCls K (.ref D) (.type T) = some true) : Answers (fun s => K.In s.heap ∧ s.heap.get? a = some oe) (.ref a) (.type T) true := by
  intro dep tk prog w A R s hs
  obtain ⟨h0, g, d, tt, os⟩ := s
  obtain ⟨⟨KX, ha⟩, hq⟩ := hs
  have ty : PySem.W.Looks (model prog w) h0 (typeOf (.ref a)) (.ref D) := fun A Q E s k q => wpAny_typeOf_ref (k _ _ ha) (by rw [hc]; exact q)
  obtain ⟨h1, h2, h3⟩ := PySem.W.kit_cls (M := model prog w) KX hk
  have h4 : PySem.W.Looks (model prog w) h0 (isInstance (.ref a) (.type T)) true := ty.andThen h3
  unfold Builtin.«isinstance.nested»
  refine wpAny_bind (ty.at ?_)
  rw [if_neg (by intro z; cases z)]
  refine wpAny_bind (h1.at ?_)
  rw [if_pos (by decide)]
  k_delta "plainIsInstance"
  refine wpAny_bind (wpAny_bind (h2.at ?_))
  simp only [Bool.not_true, Bool.false_eq_true, if_false]
  refine wpAny_bind (h4.at ?_)
  first
    | exact wpAny_pure (wpAny_pure (hq tt))
    | (simp only [if_true]; first | exact wpAny_pure (wpAny_pure (hq tt)) | exact wpAny_pure (hq tt) | exact wpAny_bind (wpAny_pure (wpAny_pure (hq tt))))
theorem call_yes {X : Cx} {a D : Addr} {oe : Obj} {cls : Value} {pn : List (Addr × Obj)} {T : String} {d : Option Addr} (hk : PySem.W.kitCls X.K (.ref D) (.type T) = some true) (hz : Zc cls d oe) : CallR (X.suite a ((a, oe) :: pn)) (.builtin "isinstance") (fun xs H Q => cls = .ref D ∧ xs = [.ref a, .ty T] ∧ Q (.bl true) H) := by
  intro pins s σ H xs us Q I r h
  obtain ⟨rfl, rfl, q⟩ := h
  cases r with
  | cons rx rr =>
    cases rr with
    | cons rt rr =>
      cases rr
      cases rx
      cases rt
      obtain ⟨hget, _⟩ := I.pin (a, oe) (List.mem_append.mpr (.inl List.mem_cons_self))
      exact call_isinstance (S := fun _ R s => (X.K.In s.heap ∧ s.heap.get? a = some oe) ∧ ∀ tk, R (.ok (.ret (.bool true))) { s with toks := tk })
        (fun prog w A R s hs => isinstance_outer (is_yes (T := T) hz.1 hk 0 _ prog w A R s hs) (fun z => nomatch z)) ⟨⟨I.kIn, hget⟩, fun tk => ⟨.bl true, H, I.kept (t' := tk) fun _ _ z => z, rfl, q⟩⟩
/-- what a helper that tries its argument makes of it: CS is the class of its except clause -/
def TTry1 (K : PySem.W.Frag) (CS : Addr) (i : Nat) (tR : Addr → Value → Option Addr → TE) : (XK → Hp → VK → Prop) → Hp → VK → Prop := fun tl H Q =>
  tl (fun cls d H' => PySem.W.exmOne K cls (.ref CS) = some true ∧ ∀ a σ, H' a = none → σ[i]? = some (some (.ref a)) → tR a cls d σ H' Q) H (fun _ H' => Q .non H')
theorem gives_try1 {X : Cx} {Ng : List Str} {x a e n q : Str} {sg : Scope} {g CS : Addr} {cdg : Value} {i j : Nat} {R : Expr} {tR : Addr → Value → Option Addr → TE} {p1 p2 p3 p4 p6 p7 p8 p9 p10 : Pos} (hN : Ng.Nodup) (hi : Ng[i]? = some n) (hln : sg.names.lookup n = some .local) (hge : sg.names.lookup e = some .globalImplicit) (hme : X.mg e = some (.ref CS)) (hde : (e == ("__debug__" : Str)) = false) (h0 : ∀ f : Addr, (L2.start Ng [V.ref f])[0]? = some (some (V.ref f))) (hil : ∀ f : Addr, i < (L2.start Ng [V.ref f]).length)
    (hR : ∀ (f : Addr) (s : Shared) (H : Hp) (a : Addr) (oe : Obj) (cls : Value) (d : Option Addr) (pn : List (Addr × Obj)), Zc cls d oe → (∃ vs, oe.data = .fields vs) → PE ((cxOf C8.CX0 X.prog X.w X.K X.mg X.base Ng x sg g cdg X.A X.stack s H C8.E0).nox.suite a ((a, oe) :: pn)) R (tR a cls d)) :
    LamX.GivesTo X Ng x sg g cdg [.Try [.Expr (.Call (.Name a p1) [] [] p2) p3] [.ExceptHandler (some (.Name e p4)) (some n) [.Return (some R) p6] p7] [] [] p8, .Return (some (.Constant .none j p9)) p10] a q (TTry1 X.K CS i tR) := by
  intro f c' s H Q tl act hc h
  have hgl : Gl (cxOf C8.CX0 X.prog X.w X.K X.mg X.base Ng x sg g cdg X.A X.stack s H C8.E0).nox e := hge
  refine ⟨_, pss_cons (ps_try_as (X := (cxOf C8.CX0 X.prog X.w X.K X.mg X.base Ng x sg g cdg X.A X.stack s H C8.E0).nox) (c := .ref CS) (i := i) (n := n)
      (tb := fun W D σ H => ∃ Ech : XK, (∀ cls d σ' H', Ech cls d H' → i < σ'.length → W cls d σ' H') ∧ σ[0]? = some (some (.ref f)) ∧ H c' = some (LamX.CodeO c' q) ∧ i < σ.length ∧ tl Ech H (fun _ H' => D.nx σ H'))
      (ts := fun a cls d => tRet (tR a cls d))
      rfl rfl hN hi hln ⟨hgl, hde, .inl hme⟩ LamX.takes0 (fun W pn xe tk _ => ?_) (fun a oe cls d pn hz hf => pss_one (ps_ret (hR f s H a oe cls d pn hz hf)))) (pss_one (ps_ret pe_non)), ?_⟩
  · refine ⟨fun pins s' σ H' D I h' => ?_⟩
    obtain ⟨Ech, hW, h1, h2, hl, h3⟩ := h'
    have tk2 : Takes ((cxOf C8.CX0 X.prog X.w X.K X.mg X.base Ng x sg g cdg X.A X.stack s H C8.E0).nox.tr pn xe) (fun cls d σ' H' => Ech cls d H') := fun u s' xx => by
      obtain ⟨a, B, sI, pins', σ', H', cls, d, e1, J, nb, up, sky, na, os, ag, w'⟩ := xx
      exact tk u s' ⟨a, B, sI, pins', σ', H', cls, d, e1, J, nb, up, sky, na, os, ag, hW cls d σ' H' w' (by have := J.len; rw [this]; exact (List.getElem?_eq_some_iff.mp hi).1)⟩
    have hp := act (fun cls d _ H' => Ech cls d H') pn xe Ech p1 p2 tk2 (fun cls d σ' H' h => h)
    exact (pss_one (ps_expr (pos := p3) hp)).run pins s' σ H' D I ⟨h1, h2, h3⟩
  · refine ⟨fun cls d H' => PySem.W.exmOne X.K cls (.ref CS) = some true ∧ ∀ a σ, H' a = none → σ[i]? = some (some (.ref a)) → tR a cls d σ H' Q, fun cls d σ' H' ⟨h1, h2⟩ hl => ⟨true, h1, fun _ a ha => ?_, fun z => nomatch z⟩, h0 f, hc, hil f, h⟩
    exact h2 a _ ha (by simp [hl])
end Ev
end
section
set_option Elab.async false
set_option linter.all false
set_option maxRecDepth 100000
set_option maxHeartbeats 1000000
/-! x(lambda: body), x a def that tries its argument. -/
namespace Ev
open PySem PySem.Spec PyProof.Rows L2
def mTry1 (g : Nat) (fR : List (Str × A) → List O → Res A) (m : ME) : ME := fun s t => match m s t with
  | .ok _ t1 => .ok .non t1
  | .exc g' fs t1 => if g' = g then fR fs t1 else .bad
  | .bad => .bad
/-- what the except clause's value makes of the error's fields -/
def OkR (c : Cc) (K : PySem.W.Frag) (CS : Addr) (i : Nat) (tR : Addr → Value → Option Addr → TE) (fR : List (Str × A) → List O → Res A) : Prop :=
  ∀ ρ t H Q a σ fsA fsV d, Rep K c.γ ρ (c.B ++ t) H → H a = none → σ[i]? = some (some (.ref a)) → H d = some (.xd fsV) → RKs K c.γ ρ H fsA fsV → Post K c.γ c.E c.B (RV K c.γ) Q (fR fsA t) ρ H → tR a (.ref CS) (some d) σ H Q
theorem se_lamN {c : Cc} {X : Cx} {x a e n : Str} {gi : Nat} {g cd P CS : Addr} {k i j : Nat} {pg : Arguments} {bg : List Stmt} {sg : Scope} {Ng : List Str} {fd : FuncData} {params : Arguments} {body : Expr} {scope : Scope} {p lpos pos : Pos} {R : Expr} {tR : Addr → Value → Option Addr → TE} {fR : List (Str × A) → List O → Res A} {m : ME} {p1 p2 p3 p4 p6 p7 p8 p9 p10 : Pos}
    (F : FunD X.K x x pg bg sg [] [] g fd) (hbg : bg = [.Try [.Expr (.Call (.Name a p1) [] [] p2) p3] [.ExceptHandler (some (.Name e p4)) (some n) [.Return (some R) p6] p7] [] [] p8, .Return (some (.Constant .none j p9)) p10])
    (hg : Gl X x) (hm : X.mg x = some (.ref g)) (hb : L2.Binds X.K fd [a] []) (Sg : FnScope Ng [a] sg) (hNg : Ng[0]? = some a) (hva : Vis sg a)
    (hN : Ng.Nodup) (hi : Ng[i]? = some n) (hln : sg.names.lookup n = some .local) (hge : sg.names.lookup e = some .globalImplicit) (hme : X.mg e = some (.ref CS))
    (hR : ∀ (cdv : Value) (s : Shared) (H : Hp) (a : Addr) (oe : Obj) (cls : Value) (d : Option Addr) (pn : List (Addr × Obj)), Zc cls d oe → (∃ vs, oe.data = .fields vs) → PE ((cxOf C8.CX0 X.prog X.w X.K X.mg X.base Ng x sg g cdv X.A X.stack s H C8.E0).nox.suite a ((a, oe) :: pn)) R (tR a cls d))
    (okR : OkR c X.K CS i tR fR) (hex : PySem.W.exmOne X.K (.ref CS) (.ref CS) = some true) (hγ : c.γ[gi]? = some CS)
    (TB : LamX.TabB X.base X.mg cd P) (hcode : X.env.code = .ref cd) (hmT : (P, X.env.qual ++ "<lambda>") ∈ c.γ.T) (hu : ∀ p ∈ c.γ.T, p.1 = P → p.2 = X.env.qual ++ "<lambda>") (hr : Room (k + 2) X.A) (L : LamX.LamS X.env.scope scope) (hdef : defaultsOf params X.env = ([], []))
    (hbind : ∀ (q : Str) (cl : List (Str × Addr)) (pm cv ctv : Value), bindArgs (PySem.W.kla_fn "<lambda>" q params body scope cl pm cv ctv) ⟨[], []⟩ = pure [])
    (hbody : ∀ (A : Around) (outer : List Env) (s : Shared) (H : Hp) (E : XK) (f c' : Addr), Room k (A.deeper (LamX.lamEnv X scope s.heap.objs.size f c')) → SE ⟨c.γ, E, c.B⟩ (LamX.lamCx X A outer s H E scope f c') body m)
    (hdb : (x == ("__debug__" : Str)) = false := by decide) (hd : (a == ("__debug__" : Str)) = false := by decide) (hcd : (a == ("__classdict__" : Str)) = false := by decide) (hde : (e == ("__debug__" : Str)) = false := by decide) :
    SE c X (.Call (.Name x p) [.Lambda params body scope lpos] [] pos) (mTry1 gi fR m) := by
  subst hbg
  have h1 : 0 < Ng.length := (List.getElem?_eq_some_iff.mp hNg).1
  refine PE.imp (pe_lamN (T := c.γ.T) (TT := TTry1 X.K CS i tR) (t := fun E => tM ⟨c.γ, E, c.B⟩ X (RV X.K c.γ) m) (k := k) F hg hm hb Sg hNg hva (fun cdv => gives_try1 hN hi hln hge hme hde (fun f => ?_) (fun f => ?_) fun f s H a oe cls d pn hz hf => hR cdv s H a oe cls d pn hz hf) TB hcode hmT hu hr L hdef hbind (fun A outer s H E f c' hr => hbody A outer s H E f c' hr) hdb hd hcd) fun σ H Q ⟨ρ, σa, t, r, s, q⟩ => ⟨r.tab, fun H1 gw T1 => ?_⟩
  · unfold L2.start; simp
  · have := (List.getElem?_eq_some_iff.mp hi).1
    unfold L2.start
    simp only [List.map_cons, List.map_nil, List.length_append, List.length_cons, List.length_nil, List.length_replicate]
    omega
  obtain ⟨fw, r1⟩ := gw.fwd (nb := c.B.length) r T1
  refine ⟨ρ, σa, t, r1, RS.mono (r.keep fw) _ _ s, ?_⟩
  unfold mTry1 at q
  cases em : m σa t with
  | ok a t1 =>
    rw [em] at q
    exact fun ρ' H' b f2 r2 w => q ρ' H' .non (fw.trans f2) r2 (by rw [rv_non])
  | bad => rw [em] at q; exact q
  | exc g' fs t1 =>
    rw [em] at q
    by_cases hg' : g' = gi
    · simp only [if_pos hg'] at q
      intro ρ' H' C d vs f2 r2 hC hd' w
      have hC' : c.γ[g']? = some C := hC
      rw [hg', hγ] at hC'
      cases hC'
      exact ⟨hex, fun a σ' ha hσ => okR ρ' t1 H' Q a σ' fs vs d r2 ha hσ hd' w (Post.fwd q (fw.trans f2))⟩
    · simp only [if_neg hg'] at q
      exact q.elim
/-! (e.f1, e.f2) if isinstance(e, T) else odd -/
def tIx2 (K : PySem.W.Frag) (i : Nat) (CS : Addr) (T : String) (f1 f2 odd : Str) (a : Addr) (cls : Value) (d : Option Addr) : TE :=
  tIf (tB (tCB (fun xs H Q => cls = .ref CS ∧ xs = [.ref a, .ty T] ∧ Q (.bl true) H) (tCons (tVar i) (tCons (tC (.ty T)) tNil)))) (tTup (tCons (tXf a cls d CS f1 (tVar i)) (tCons (tXf a cls d CS f2 (tVar i)) tNil))) (tC (.str odd))
theorem pR_ix2 {X : Cx} {i j kk : Nat} {CS a : Addr} {T : String} {f1 f2 odd n x : Str} {oe : Obj} {cls : Value} {d : Option Addr} {pn : List (Addr × Obj)} {p1 p2 p3 p4 p5 p6 p7 p8 p9 p10 p11 : Pos} (hz : Zc cls d oe) (hf : ∃ vs, oe.data = .fields vs) (hk : PySem.W.kitCls X.K (.ref CS) (.type T) = some true) (TX : XfC X.K CS)
    (h1 : PySem.W.findIn X.K (.ref CS) f1 = some none) (h2 : PySem.W.findIn X.K (.ref CS) f2 = some none) (hN : X.N[i]? = some n) (hv : Vis X.env.scope n) (hgi : Gl X "isinstance") (hmi : X.mg "isinstance" = none) (hgT : Gl X x) (hmT : X.mg x = none) (hT : bootBuiltins x = some (.type T)) (hxn : x ≠ "__name__") (hxd : (x == ("__debug__" : Str)) = false)
    (hd : (n == ("__debug__" : Str)) = false := by decide) (hcd : (n == ("__classdict__" : Str)) = false := by decide) :
    PE (X.suite a ((a, oe) :: pn)) (.IfExp (.Call (.Name "isinstance" p1) [.Name n p2, .Name x p3] [] p4) (.Tuple [.Attribute (.Name n p5) f1 p6, .Attribute (.Name n p7) f2 p8] kk p9) (.Constant (.str odd) j p10) p11) (tIx2 X.K i CS T f1 f2 odd a cls d) := by
  have pv : ∀ {p : Pos}, PE (X.suite a ((a, oe) :: pn)) (.Name n p) (tVar i) := fun {p} => pe_var (i := i) hN hv hd hcd
  exact pe_ifExp (pt_val (pe_callB (call_yes hk hz) hgi hmi (by exact Boot.«isinstance») (pa_cons pv (pa_cons (pe_bltn hgT hmT hT rfl hxn hxd) pa_nil)))) (pe_tup (pa_cons (pe_xf TX h1 hz hf pv) (pa_cons (pe_xf TX h2 hz hf pv) pa_nil))) pe_str
def fIx2 (f1 f2 : Str) (fs : List (Str × A)) (t : List O) : Res A := match fs.lookup f1, fs.lookup f2 with
  | some u, some v => .ok (.tup [u, v]) t
  | _, _ => .bad
theorem ok_ix2 {c : Cc} {K : PySem.W.Frag} {CS : Addr} {i : Nat} {T : String} {f1 f2 odd : Str} : OkR c K CS i (tIx2 K i CS T f1 f2 odd) (fIx2 f1 f2) := by
  intro ρ t H Q a σ fsA fsV d r ha hσ hd w q
  unfold fIx2 at q
  cases e1 : fsA.lookup f1 with
  | none => simp only [e1] at q; exact q.elim
  | some u =>
    cases e2 : fsA.lookup f2 with
    | none => simp only [e1, e2] at q; exact q.elim
    | some v =>
      simp only [e1, e2] at q
      obtain ⟨u', l1, w1⟩ := RKs.look w e1
      obtain ⟨v', l2, w2⟩ := RKs.look w e2
      refine ⟨.ref a, hσ, rfl, rfl, true, rfl, ?_⟩
      simp only [if_true]
      refine ⟨.ref a, hσ, rfl, rfl, d, fsV, u', rfl, hd, l1, .ref a, hσ, rfl, rfl, d, fsV, v', rfl, hd, l2, by show 2 ≤ sizeLine; decide, fun p hp => ?_⟩
      obtain ⟨r2, f2⟩ := r.junk (nb := c.B.length) (o' := .tup [u', v']) hp
      have k2 := r.keep f2
      exact q ρ _ _ f2 r2 (by rw [rv_tup]; exact ⟨p, _, rfl, upd_same, by rw [rvs_cons]; exact ⟨_, _, rfl, RV.mono k2 _ _ w1, by rw [rvs_cons]; exact ⟨_, _, rfl, RV.mono k2 _ _ w2, by rw [rvs_nil]⟩⟩⟩)
end Ev
end
section
set_option Elab.async false
set_option linter.all false
set_option maxRecDepth 100000
set_option maxHeartbeats 1000000
/-! The law is entered from outside. -/
namespace Ev
open PySem PySem.Spec PyProof.Rows L2
/-- what is tracked at the law's start: the script, the tables of code objects -/
def H0 (tabs : List Addr) (a : Addr) (ob : Obj) (xs : List V) : Hp := fun b => if b = a then some (.frz ob (.lst xs)) else if b ∈ tabs then some (.tbl #[]) else none
theorem law_end {P : Program} {w : World} {K : PySem.W.Frag} {mg mb : Str → Option Value} {CX : CXT} {fa a : Addr} {cs : List (Addr × Addr)} {s₁ : Shared} {vs : List Value} {ns : List Int}
    (KX : K.In s₁.heap) (hns : s₁.heap.Ns mainGlobals mg) (hb : s₁.heap.Ns builtinsNs mb) (hbb : ∀ x : Str, x ≠ "__name__" → mb x = bootBuiltins x) (hlim : s₁.heap.NoLimit) (hg : s₁.gens = #[])
    (hT : ∀ p ∈ cs, s₁.heap.get? p.2 = some { cls := .none, data := .fields #[] } ∧ K.lookup p.2 = none ∧ PySem.W.CodeHd s₁.heap p.1 p.2)
    (hbm : ∃ (bm : Addr) (ob : Obj), mg "__builtins__" = some (.ref bm) ∧ bm ≠ builtinsNs ∧ s₁.heap.get? bm = some ob ∧ ob.cls = .type "module" ∧ ob.dict = some builtinsNs ∧ ob.data = .plain)
    (ha : s₁.heap.get? a = some { cls := .type "list", data := .seq vs.toArray }) (nK : K.lookup a = none) (hi : IntsAre vs ns) (hl : ns.length ≤ sizeLine)
    (run : ∀ (base : Heap), Env0 P w K mg base callerA [] s₁ (H0 (cs.map (·.2)) a { cls := .type "list", data := .seq vs.toArray } (ns.map V.int)) → (∀ p ∈ cs, LamX.TabB base mg p.1 p.2) →
      codeAny (model P w) callerA (.call (.ref fa) ⟨[.ref a], []⟩) (CR CX [] P w (H0 (cs.map (·.2)) a { cls := .type "list", data := .seq vs.toArray } (ns.map V.int)) s₁ (fun v _ => v = .bl true) (fun _ _ _ => False)) s₁)
    (hCX : ∀ H e s', CX [] H s₁ (fun _ _ _ => False) e s' → False) :
    codeAny (model P w) callerA (.call (.ref fa) ⟨[.ref a], []⟩) (fun r s' => r = .ok (.ret (.bool true)) ∧ OldK s₁.heap s'.heap ∧ s'.os = s₁.os ∧ AllBare s'.gens) s₁ := by
  generalize htabs : cs.map (·.2) = tabs at run
  generalize hH : H0 tabs a { cls := .type "list", data := .seq vs.toArray } (ns.map V.int) = H at run
  have empty : ∀ b ∈ tabs, s₁.heap.get? b = some { cls := .none, data := .fields #[] } := fun b hb => by
    rw [← htabs] at hb
    obtain ⟨p, hp, rfl⟩ := List.mem_map.mp hb
    exact (hT p hp).1
  have na : a ∉ tabs := fun z => by
    have q := empty a z
    rw [ha] at q
    cases q
  have Ha : H a = some (.frz { cls := .type "list", data := .seq vs.toArray } (.lst (ns.map V.int))) := by rw [← hH]; unfold H0; rw [if_pos rfl]
  have Ht : ∀ b ∈ tabs, H b = some (.tbl #[]) := fun b hb => by
    rw [← hH]; unfold H0
    rw [if_neg (fun z : b = a => na (z ▸ hb)), if_pos hb]
  have Hn : ∀ b, b ≠ a → b ∉ tabs → H b = none := fun b h1 h2 => by rw [← hH]; unfold H0; rw [if_neg h1, if_neg h2]
  -- whatever is neither a list nor an empty table is not tracked
  have free : ∀ b o, s₁.heap.get? b = some o → (∀ ws n, o.data ≠ .seq ws n) → o.data ≠ .fields #[] → H b = none := fun b o e h1 h2 => by
    refine Hn b (fun z => ?_) fun z => ?_
    · subst z
      rw [ha] at e; cases e
      exact h1 _ _ rfl
    · rw [empty b z] at e; cases e
      exact h2 rfl
  have hok : HOk P w H s₁.heap := fun b u e => by
    by_cases h1 : b = a
    · subst h1
      rw [Ha] at e; cases e
      exact ⟨ha, by rw [List.length_map]; exact hl, vs, _, vals_ints hi, ha⟩
    · by_cases h2 : b ∈ tabs
      · rw [Ht b h2] at e; cases e
        exact empty b h2
      · rw [Hn b h1 h2] at e; cases e
  have at_ : ∀ b o, s₁.heap.get? b = some o → H b = none → (hidT s₁.heap H).get? b = some o := fun b o e n => hidT_get e n
  have dict : ∀ b m, s₁.heap.Ns b m → (hidT s₁.heap H).Ns b m := fun b m ⟨o, es, ep, e, d, r⟩ => ⟨o, es, ep, at_ b o e (free b o e (fun ws n z => by rw [d] at z; cases z) fun z => by rw [d] at z; cases z), d, r⟩
  have inB : K.In (hidT s₁.heap H) := fun b o e => at_ b o (KX b o e) (Hn b (fun z => by rw [z, nK] at e; cases e) fun z => by
    rw [← htabs] at z
    obtain ⟨p, hp, rfl⟩ := List.mem_map.mp z
    rw [(hT p hp).2.1] at e; cases e)
  have mod : L2.Mod K mg (hidT s₁.heap H) := ⟨inB, dict _ _ hns, ⟨mb, dict _ _ hb, hbb⟩, by obtain ⟨mc, h1, h2⟩ := hlim; exact ⟨mc, dict _ _ h1, h2⟩⟩
  have tabB : ∀ p ∈ cs, LamX.TabB (hidT s₁.heap H) mg p.1 p.2 := fun p hp => by
    obtain ⟨hTp, _, C⟩ := hT p hp
    obtain ⟨bm, ob, b1, b2, b3, b4, b5, b6⟩ := hbm
    refine ⟨?_, ⟨bm, ob, b1, b2, fun z => ?_, fun z => ?_, at_ bm ob b3 (free bm ob b3 (fun ws n z => by rw [b6] at z; cases z) fun z => by rw [b6] at z; cases z), b4, b5, b6⟩, fun z => ?_⟩
    · obtain ⟨o, us, file, tf, fl, tg, inF, tx, tt, e1, r1, r2, r3, r⟩ := C
      refine ⟨o, us, file, tf, fl, tg, inF, tx, tt, at_ _ o e1 (free _ o e1 (fun ws n z => by rw [r2] at z; cases z) fun z => ?_), r1, r2, r3, r⟩
      rw [r2] at z
      cases z
      simp at r3
    · obtain ⟨o, es, ep, e, hd, _⟩ := hns
      rw [z, e] at b3; cases b3
      rw [hd] at b6; cases b6
    · rw [z, hTp] at b3; cases b3
      cases b6
    · obtain ⟨o, es, ep, e, hd, _⟩ := hns
      rw [z, hTp] at e; cases e
      cases hd
  have e0 : Env0 P w K mg (hidT s₁.heap H) callerA [] s₁ H := ⟨rfl, mod, fun b o e => of_hidT e, Nat.le_of_eq (hidT_size _ _), trivial, (fun b hb => by cases (show b ∈ ([] : List Addr) from hb)), hok, .of_eq hg⟩
  refine codeAny_mono (run _ e0 tabB) fun r s' h => ?_
  cases r with
  | error e => exact (hCX _ e s' h).elim
  | ok fl =>
    cases fl with
    | ret u =>
      obtain ⟨v, H', os, bare, un, hok', r', rfl⟩ := h
      cases r'
      have same : ∀ b o, b ∉ tabs → s₁.heap.get? b = some o → s'.heap.get? b = some o := fun b o nb e => by
        by_cases h1 : b = a
        · subst h1
          rw [ha] at e; cases e
          exact (hok' b _ (un.frzs b _ _ Ha)).1
        · exact un.keep b o e (Hn b h1 nb) (fun z => by cases (show b ∈ ([] : List Addr) from z)) (by simp)
      have more : ∀ b ∈ tabs, ∃ m : Array Value, s'.heap.get? b = some { cls := .none, data := .fields (#[] ++ m) } := fun b hb => by
        obtain ⟨m, z⟩ := un.tbls b #[] (Ht b hb)
        exact ⟨m, hok' b _ z⟩
      refine ⟨rfl, ⟨fun b o e => ?_, fun b o e => ?_⟩, os, bare⟩
      · by_cases hb : b ∈ tabs
        · obtain ⟨m, hm⟩ := more b hb
          rw [empty b hb] at e; cases e
          have hb' := hb
          rw [← htabs] at hb'
          obtain ⟨p, hp, rfl⟩ := List.mem_map.mp hb'
          exact .inr (.inl ⟨((hT p hp).2.2.tab (hT p hp).1).isCodeTable, rfl, #[], m, rfl, hm⟩)
        · exact .inl (same b o hb e)
      · by_cases hb : b ∈ tabs
        · obtain ⟨m, hm⟩ := more b hb
          exact ⟨_, hm⟩
        · exact ⟨o, same b o hb e⟩
    | _ => exact False.elim h
end Ev
end
section
set_option Elab.async false
set_option linter.all false
set_option maxRecDepth 100000
set_option maxHeartbeats 1000000
/-! repr of data. -/
namespace Ev
open PySem PySem.Spec PyProof.Rows L2
def keyD : Key → PyData
  | .inl i => .int i
  | .inr x => .str x
mutual
inductive Sh (K : PySem.W.Frag) (H : Hp) : V → PyData → Prop
  | non : Sh K H .non .none
  | bl (b : Bool) : Sh K H (.bl b) (.bool b)
  | int (i : Int) : Sh K H (.int i) (.int i)
  | str (x : Str) : Sh K H (.str x) (.str x)
  | lst {a : Addr} {xs : List V} {ds : List PyData} : SqL K H a xs → ShAll K H xs ds → Sh K H (.ref a) (.list ds)
  | tup {a : Addr} {xs : List V} {ds : List PyData} : SqT K H a xs → ShAll K H xs ds → Sh K H (.ref a) (.tuple ds)
  | dic {a : Addr} {kvs : List (Key × V)} {ds : List (PyData × PyData)} : Rd H a (.dK kvs) → ShKv K H kvs ds → Sh K H (.ref a) (.dict ds)
inductive ShAll (K : PySem.W.Frag) (H : Hp) : List V → List PyData → Prop
  | nil : ShAll K H [] []
  | cons {v : V} {vs : List V} {d : PyData} {ds : List PyData} : Sh K H v d → ShAll K H vs ds → ShAll K H (v :: vs) (d :: ds)
inductive ShKv (K : PySem.W.Frag) (H : Hp) : List (Key × V) → List (PyData × PyData) → Prop
  | nil : ShKv K H [] []
  | cons {k : Key} {v : V} {vs : List (Key × V)} {d : PyData} {ds : List (PyData × PyData)} : Sh K H v d → ShKv K H vs ds → ShKv K H ((k, v) :: vs) ((keyD k, d) :: ds)
end
/-- the object that no data is -/
def SysAt (h : Heap) : Prop := ∃ o, h.get? sysModules = some o ∧ o.cls ≠ .type "list"
section
variable {X : Cx} {pins : List (Addr × Obj)} {σ : L2.St} {H : Hp} {s : Shared}
mutual
theorem Sh.reads (I : Inv X pins σ H s) (S : SysAt s.heap) : ∀ (d : PyData) (v : V) (u : Value), Sh X.K H v d → RelV v u → ∃ as, Reads s.heap u d as ∧ sysModules ∉ as
  | .none, _, _, h, r => by
    cases h; cases r
    exact ⟨[], .none, by simp⟩
  | .bool b, _, _, h, r => by
    cases h; cases r
    exact ⟨[], .bool b, by simp⟩
  | .int i, _, _, h, r => by
    cases h
    obtain ⟨t, rfl⟩ := r
    exact ⟨[], .int i t, by simp⟩
  | .str x, _, _, h, r => by
    cases h
    obtain ⟨t, rfl⟩ := r
    exact ⟨[], .str x t, by simp⟩
  | .list ds, _, _, h, r => by
    cases h with
    | @lst a xs _ hs ha =>
      cases r
      obtain ⟨its, rv, ⟨o, n, ho, hc, _, hd⟩, _⟩ := I.list hs
      obtain ⟨as, hr, nn⟩ := Sh.readsAll I S ds _ its ha rv
      refine ⟨a :: as, .list ho hc hd (by simpa using hr), fun z => ?_⟩
      rcases List.mem_cons.mp z with z | z
      · obtain ⟨o', e', n'⟩ := S
        rw [z, ho] at e'
        cases e'
        exact n' hc
      · exact nn z
  | .tuple ds, _, _, h, r => by
    cases h with
    | tup hs ha =>
      cases r
      obtain ⟨its, rv, ⟨o, ho, hc, n, hd⟩, _⟩ := I.tuple hs
      obtain ⟨as, hr, nn⟩ := Sh.readsAll I S ds _ its ha rv
      exact ⟨as, .tuple ho hc hd (by simpa using hr), nn⟩
  | .dict ds, _, _, h, r => by
    cases h with
    | @dic a kvs _ hs ha =>
      cases r
      obtain ⟨_, ns, vs, hkv, o, es, ep, ho, he, hd, _, hp, _⟩ := hs.ok I.hok
      obtain ⟨as, bs, h1, h2, n1, n2⟩ := Sh.readsKv I S ds kvs vs es.toList ha hkv hp
      refine ⟨a :: as ++ bs, .dict ho he.1 hd h1 h2, fun z => ?_⟩
      rw [List.cons_append] at z
      rcases List.mem_cons.mp z with z | z
      · rw [← z] at ns
        simp at ns
      · rcases List.mem_append.mp z with z | z
        · exact n1 z
        · exact n2 z
theorem Sh.readsAll (I : Inv X pins σ H s) (S : SysAt s.heap) : ∀ (ds : List PyData) (vs : List V) (us : List Value), ShAll X.K H vs ds → Vals vs us → ∃ as, ReadsAll s.heap us ds as ∧ sysModules ∉ as
  | [], _, _, h, r => by
    cases h; cases r
    exact ⟨[], .nil, by simp⟩
  | d :: ds, _, _, h, r => by
    cases h with
    | cons h1 h2 =>
      cases r with
      | cons r1 r2 =>
        obtain ⟨as, q1, n1⟩ := Sh.reads I S d _ _ h1 r1
        obtain ⟨bs, q2, n2⟩ := Sh.readsAll I S ds _ _ h2 r2
        exact ⟨as ++ bs, .cons q1 q2, fun z => (List.mem_append.mp z).elim n1 n2⟩
theorem Sh.readsKv (I : Inv X pins σ H s) (S : SysAt s.heap) : ∀ (ds : List (PyData × PyData)) (kvs : List (Key × V)) (vs : List (Key × Value)) (es : List DictEntry), ShKv X.K H kvs ds → KV kvs vs → Pairs (mixKind X.prog X.w) es vs →
    ∃ as bs, ReadsAll s.heap (es.map (·.key)) (ds.map (·.1)) as ∧ ReadsAll s.heap (es.map (·.val)) (ds.map (·.2)) bs ∧ sysModules ∉ as ∧ sysModules ∉ bs
  | [], _, _, _, h, r, p => by
    cases h; cases r; cases p
    exact ⟨[], [], .nil, .nil, by simp, by simp⟩
  | (_, d) :: ds, _, _, _, h, r, p => by
    cases h with
    | @cons k v vs' _ _ h1 h2 =>
      cases r with
      | cons r1 r2 =>
        cases p with
        | @cons e kw es' kvs' p1 p2 p3 =>
          obtain ⟨as, bs, q1, q2, n1, n2⟩ := Sh.readsKv I S ds _ _ _ h2 r2 p3
          have rv := r1.2
          obtain ⟨cs, q3, n3⟩ := Sh.reads I S d _ e.val h1 (by rw [p2]; exact rv)
          have kk : Reads s.heap e.key (keyD k) [] := by
            have p1' : keyIs k e.key = true := by
              have z := p1
              rw [← (show k = _ from r1.1)] at z
              exact z
            rcases keyIs_shape p1' with ⟨i, t, rfl, e'⟩ | ⟨x, t, rfl, e'⟩
            · rw [e']; exact .int i t
            · rw [e']; exact .str x t
          exact ⟨[] ++ as, cs ++ bs, .cons kk q1, .cons q3 q2, by simpa using n1, fun z => (List.mem_append.mp z).elim n3 n2⟩
end
end
def showOk (d : PyData) : Bool := d.showable && (decide (d.shown.length ≤ sizeLine) && decide (d.depth ≤ 60))
def rRepr (K : PySem.W.Frag) : List V → Hp → VK → Prop := fun xs H Q => ∃ x d, xs = [x] ∧ Sh K H x d ∧ showOk d = true ∧ Q (.str d.shown) H
/-- what is known of the top's objects -/
def SysK (K : PySem.W.Frag) : Prop := ∃ o, K.lookup sysModules = some o ∧ o.cls ≠ .type "list"
theorem call_reprD {X : Cx} (hg : X.A.guards = some []) (hu : X.A.units + 62 < cLine) (hS : SysK X.K) : CallR X (.builtin "repr") (rRepr X.K) := by
  intro pins s σ H xs us Q I r h
  obtain ⟨x, d, rfl, hd, hok, q⟩ := h
  unfold showOk at hok
  simp only [Bool.and_eq_true, decide_eq_true_eq] at hok
  obtain ⟨h1, h2, h3⟩ := hok
  have S : SysAt s.heap := by
    obtain ⟨o, e, n⟩ := hS
    exact ⟨o, I.kIn _ _ e, n⟩
  cases r with
  | cons rx rr =>
    rename_i u us
    cases rr
    have byRef : ∀ a, u = .ref a → wpAny (model X.prog X.w) X.A (call (.builtin "repr") [u]) (EP X pins σ Q) X.xe s := by
      rintro a rfl
      obtain ⟨as, hr, nn⟩ := Sh.reads I S d x _ hd rx
      refine repr_of_reads' (h₀ := s.heap) hr h1 (fun _ => nn) hg (by omega) (fun _ _ e => e) (fun h' u' tk hk => ?_) h2
      exact ⟨.str d.shown, H, I.kept (t' := tk) hk, ⟨_, rfl⟩, q⟩
    cases hd with
    | non => cases rx; exact PySem.P.repr_of_none ⟨.str (PyData.shown .none), H, I.tok _, ⟨_, rfl⟩, q⟩
    | bl b => cases rx; exact PySem.P.repr_of_bool ⟨.str (PyData.shown (.bool b)), H, I.tok _, ⟨_, rfl⟩, q⟩
    | int i =>
      obtain ⟨t, rfl⟩ := rx
      exact PySem.P.repr_of_int (by simpa [PyData.showable] using h1) ⟨.str (PyData.shown (.int i)), H, I.tok _, ⟨_, rfl⟩, q⟩
    | str z =>
      obtain ⟨t, rfl⟩ := rx
      exact PySem.P.repr_of_str ⟨.str (PyData.shown (.str z)), H, I.tok _, ⟨_, rfl⟩, q⟩ h2
    | lst _ _ => exact byRef _ rx
    | tup _ _ => exact byRef _ rx
    | dic _ _ => exact byRef _ rx
/-! the same by numbers -/
/-- the data that a value is -/
def toS (hp : List O) : Nat → A → Option PyData
  | 0, _ => none
  | n + 1, a => match a with
    | .non => some .none
    | .bl b => some (.bool b)
    | .int i => some (.int i)
    | .str z => some (.str z)
    | .tup xs => (mapO (toS hp n) xs).map .tuple
    | .ktup xs => (mapO (toS hp n) xs).map .tuple
    | .ref m => (match hp[m]? with
      | some (.lst xs) => (mapO (toS hp n) xs).map .list
      | some (.ro xs) => (mapO (toS hp n) xs).map .list
      | some (.dic kvs) => (mapO (fun kv => (toS hp n kv.2).map fun d => (keyD kv.1, d)) kvs).map .dict
      | some (.dro kvs) => (mapO (fun kv => (toS hp n kv.2).map fun d => (keyD kv.1, d)) kvs).map .dict
      | some (.fz kvs) => (mapO (fun kv => (toS hp n kv.2).map fun d => (keyD kv.1, d)) kvs).map .dict
      | _ => none)
    | _ => none
section
variable {K : PySem.W.Frag} {γ : Gm} {ρ : List Addr} {H : Hp} {hp : List O}
theorem toS_ok (R : Rep K γ ρ hp H) : ∀ (n : Nat) (a : A) (x : V) (d : PyData), RV K γ ρ H a x → toS hp n a = some d → Sh K H x d
  | 0, _, _, _, _, e => by cases e
  | n + 1, a, x, d, w, e => by
    have all : ∀ (as : List A) (vs : List V) (ds : List PyData), RVs K γ ρ H as vs → mapO (toS hp n) as = some ds → ShAll K H vs ds := by
      intro as
      induction as with
      | nil =>
        intro vs ds h e
        rw [rvs_nil] at h
        cases e
        rw [h]; exact .nil
      | cons b bs ih =>
        intro vs ds h e
        rw [rvs_cons] at h
        obtain ⟨v, r, rfl, q1, q2⟩ := h
        unfold mapO at e
        cases e1 : toS hp n b with
        | none => rw [e1] at e; cases e
        | some u =>
          rw [e1] at e
          obtain ⟨ws, e2, e3⟩ := Option.map_eq_some_iff.mp e
          subst e3
          exact .cons (toS_ok R n b v u q1 e1) (ih r ws q2 e2)
    have kv : ∀ (as : List (Key × A)) (vs : List (Key × V)) (ds : List (PyData × PyData)), RKs K γ ρ H as vs → mapO (fun kv => (toS hp n kv.2).map fun d => (keyD kv.1, d)) as = some ds → ShKv K H vs ds := by
      intro as
      induction as with
      | nil =>
        intro vs ds h e
        have h' : vs = [] := h
        cases e
        rw [h']; exact .nil
      | cons b bs ih =>
        intro vs ds h e
        obtain ⟨v, r, rfl, q1, q2⟩ := h
        unfold mapO at e
        cases e1 : toS hp n b.2 with
        | none => rw [e1] at e; cases e
        | some u =>
          rw [e1] at e
          obtain ⟨ws, e2, e3⟩ := Option.map_eq_some_iff.mp e
          subst e3
          exact .cons (toS_ok R n b.2 v u q1 e1) (ih r ws q2 e2)
    cases a with
    | non => cases e; rw [rv_non] at w; rw [w]; exact .non
    | bl b => cases e; rw [rv_bl] at w; rw [w]; exact .bl b
    | int i => cases e; rw [rv_int] at w; rw [w]; exact .int i
    | str z => cases e; rw [rv_str] at w; rw [w]; exact .str z
    | tup xs =>
      obtain ⟨ds, e1, e2⟩ := Option.map_eq_some_iff.mp (show (mapO (toS hp n) xs).map PyData.tuple = some d from e)
      subst e2
      rw [rv_tup] at w
      obtain ⟨p, vs, rfl, t, q⟩ := w
      exact .tup (SqT.of t) (all xs vs ds q e1)
    | ktup xs =>
      obtain ⟨ds, e1, e2⟩ := Option.map_eq_some_iff.mp (show (mapO (toS hp n) xs).map PyData.tuple = some d from e)
      subst e2
      rw [rv_ktup] at w
      obtain ⟨p, vs, rfl, t, q⟩ := w
      exact .tup (SqT.ofK t) (all xs vs ds q e1)
    | ref m =>
      simp only [toS] at e
      cases e0 : hp[m]? with
      | none => rw [e0] at e; cases e
      | some ob =>
        rw [e0] at e
        obtain ⟨l, rfl, _, q⟩ := R.objAt w e0
        cases ob with
        | lst xs =>
          obtain ⟨ds, e1, e2⟩ := Option.map_eq_some_iff.mp e
          subst e2
          obtain ⟨vs, z, q⟩ := q
          exact .lst (SqL.of z) (all xs vs ds q e1)
        | ro xs =>
          obtain ⟨ds, e1, e2⟩ := Option.map_eq_some_iff.mp e
          subst e2
          obtain ⟨vs, z, q⟩ := q
          exact .lst (.inl z) (all xs vs ds q e1)
        | dic xs =>
          obtain ⟨ds, e1, e2⟩ := Option.map_eq_some_iff.mp e
          subst e2
          obtain ⟨vs, z, q⟩ := q
          exact .dic (.inl z) (kv xs vs ds q e1)
        | dro xs =>
          obtain ⟨ds, e1, e2⟩ := Option.map_eq_some_iff.mp e
          subst e2
          obtain ⟨vs, z, q⟩ := q
          exact .dic z (kv xs vs ds q e1)
        | fz xs =>
          obtain ⟨ds, e1, e2⟩ := Option.map_eq_some_iff.mp e
          subst e2
          obtain ⟨o, vs, z, q⟩ := q
          exact .dic (.inr ⟨o, z⟩) (kv xs vs ds q e1)
        | _ => cases e
    | ty z => cases e
    | glo z => cases e
end
def fRepr (B : List O) : List A → List O → Res A := fun as t => match as with
  | [a] => (match toS (B ++ t) 60 a with
    | some d => if showOk d = true then .ok (.str d.shown) t else .bad
    | none => .bad)
  | _ => .bad
theorem ok_repr {c : Cc} {K : PySem.W.Frag} : OkA c K (rRepr K) (fRepr c.B) := by
  intro ρ t H Q xs as r w p
  unfold fRepr at p
  rcases as with _ | ⟨a, _ | ⟨b, as⟩⟩
  · exact p.elim
  · obtain ⟨x, rfl, wx⟩ := rvs_one w
    cases e : toS (c.B ++ t) 60 a with
    | none => simp only [e] at p; exact p.elim
    | some d =>
      simp only [e] at p
      by_cases hs : showOk d = true
      · rw [if_pos hs] at p
        exact ⟨x, d, rfl, toS_ok r 60 a x d wx e, hs, p ρ H _ (Fwd.refl _ _) r (by rw [rv_str])⟩
      · rw [if_neg hs] at p; exact p.elim
  · exact p.elim
end Ev
end
section
set_option Elab.async false
set_option linter.all false
set_option maxRecDepth 100000
set_option maxHeartbeats 1000000
/-! Written dicts, d.get(k, x), dict(d), isinstance by own classes. -/
namespace Ev
open PySem PySem.Spec PyProof.Rows L2
/-- the module's thing number g is a written dict with text keys -/
structure KTab (γ : Gm) (K : PySem.W.Frag) (w : World) (g : Nat) (tab : List (Str × A)) : Prop where
  at_ : ∃ d es n, γ[g]? = some d ∧ KDict K w d es n ∧ (∀ z, tab.lookup z = none → PySem.W.nsIn K d z = some none) ∧ ∀ z a, tab.lookup z = some a → ∃ u v, PySem.W.nsIn K d z = some (some u) ∧ RelV v u ∧ ∀ ρ H, RV K γ ρ H a v
section
variable {c : Cc} {X : Cx} {K : PySem.W.Frag} {g : Nat} {tab : List (Str × A)}
def fKIn (g : Nat) (tab : List (Str × A)) (neg : Bool) : A → A → List O → Res A := fun a b t => match a, b with
  | .str z, .glo g' => if g' = g then .ok (.bl (if neg then !(tab.lookup z).isSome else (tab.lookup z).isSome)) t else .bad
  | _, _ => .bad
theorem kin_val {w : World} {γ : Gm} {z : Str} {d : Addr} (h1 : ∀ z, tab.lookup z = none → PySem.W.nsIn K d z = some none) (h2 : ∀ z a, tab.lookup z = some a → ∃ u v, PySem.W.nsIn K d z = some (some u) ∧ RelV v u ∧ ∀ ρ H, RV K γ ρ H a v) : ∃ r : Option Value, PySem.W.nsIn K d z = some r ∧ r.isSome = (tab.lookup z).isSome := by
  cases e : tab.lookup z with
  | none => exact ⟨none, h1 z e, rfl⟩
  | some a =>
    obtain ⟨u, v, e1, _⟩ := h2 z a e
    exact ⟨some u, e1, rfl⟩
theorem ok_kin {w : World} {d : Addr} {es : Array DictEntry} {n : Nat} (D : KDict K w d es n) (hd : c.γ[g]? = some d) (h1 : ∀ z, tab.lookup z = none → PySem.W.nsIn K d z = some none) (h2 : ∀ z a, tab.lookup z = some a → ∃ u v, PySem.W.nsIn K d z = some (some u) ∧ RelV v u ∧ ∀ ρ H, RV K c.γ ρ H a v) :
    Ok2 c K (fun x y H Q => ∃ (z : Str) (r : Option Value), x = .str z ∧ y = .ref d ∧ PySem.W.nsIn K d z = some r ∧ Q (.bl r.isSome) H) (fKIn g tab false) := by
  intro ρ t H Q x y a b r wa wb p
  unfold fKIn at p
  cases a with
  | str z =>
    cases b with
    | glo g' =>
      simp only at p
      by_cases hg : g' = g
      · rw [if_pos hg] at p
        rw [rv_str] at wa
        rw [rv_glo, hg] at wb
        obtain ⟨d', e1, rfl⟩ := wb
        rw [hd] at e1; cases e1
        obtain ⟨rr, e2, e3⟩ := kin_val (w := w) (z := z) h1 h2
        exact ⟨z, rr, wa, rfl, e2, p ρ H _ (Fwd.refl _ _) r (by rw [rv_bl, e3]; rfl)⟩
      · rw [if_neg hg] at p; exact p.elim
    | _ => exact p.elim
  | _ => exact p.elim
theorem se_kin {a b : Expr} {pos : Pos} {ma mb : ME} (T : KTab c.γ X.K X.w g tab) (ha : SE c X a ma) (hb : SE c X b mb) (hm : behindInMarks .In b = false := by rfl) : SE c X (.Compare a [.In] [b] pos) (mBin (fKIn g tab false) ma mb) := by
  obtain ⟨d, es, n, hd, D, h1, h2⟩ := T.at_
  exact se_cmp (op_in_kd D) ha hb (ok_kin D hd h1 h2) hm
theorem ok_knotin {w : World} {d : Addr} {es : Array DictEntry} {n : Nat} (D : KDict K w d es n) (hd : c.γ[g]? = some d) (h1 : ∀ z, tab.lookup z = none → PySem.W.nsIn K d z = some none) (h2 : ∀ z a, tab.lookup z = some a → ∃ u v, PySem.W.nsIn K d z = some (some u) ∧ RelV v u ∧ ∀ ρ H, RV K c.γ ρ H a v) :
    Ok2 c K (fun x y H Q => ∃ (z : Str) (r : Option Value), x = .str z ∧ y = .ref d ∧ PySem.W.nsIn K d z = some r ∧ Q (.bl (!r.isSome)) H) (fKIn g tab true) := by
  intro ρ t H Q x y a b r wa wb p
  unfold fKIn at p
  cases a with
  | str z =>
    cases b with
    | glo g' =>
      simp only at p
      by_cases hg : g' = g
      · rw [if_pos hg] at p
        rw [rv_str] at wa
        rw [rv_glo, hg] at wb
        obtain ⟨d', e1, rfl⟩ := wb
        rw [hd] at e1; cases e1
        obtain ⟨rr, e2, e3⟩ := kin_val (w := w) (z := z) h1 h2
        exact ⟨z, rr, wa, rfl, e2, p ρ H _ (Fwd.refl _ _) r (by rw [rv_bl, e3]; rfl)⟩
      · rw [if_neg hg] at p; exact p.elim
    | _ => exact p.elim
  | _ => exact p.elim
theorem se_knotin {a b : Expr} {pos : Pos} {ma mb : ME} (T : KTab c.γ X.K X.w g tab) (ha : SE c X a ma) (hb : SE c X b mb) (hm : behindInMarks .NotIn b = false := by rfl) : SE c X (.Compare a [.NotIn] [b] pos) (mBin (fKIn g tab true) ma mb) := by
  obtain ⟨d, es, n, hd, D, h1, h2⟩ := T.at_
  exact se_cmp (op_notIn_kd D) ha hb (ok_knotin D hd h1 h2) hm
theorem SE.st {e : Expr} {ma : ME} (h : SE c X e ma) (he : ∀ whole, isTrue e X.env whole = (do let v ← whole; standAt e.pos; holding [v] (truthy v)) := by intro _; rfl) : ST c X e (mTest ma) := st_val h he
def fKIx (g : Nat) (tab : List (Str × A)) : A → A → List O → Res A := fun b a t => match a, b with
  | .str z, .glo g' => if g' = g then (match tab.lookup z with
    | some v => .ok v t
    | none => .bad) else .bad
  | _, _ => .bad
theorem se_kix {a b : Expr} {pos : Pos} {ma mb : ME} (T : KTab c.γ X.K X.w g tab) (ha : SE c X a ma) (hb : SE c X b mb) (hs : PlainIx b := by exact fun _ _ => rfl) : SE c X (.Subscript a b pos) (mBin (fKIx g tab) ma mb) := by
  obtain ⟨d, es, n, hd, D, h1, h2⟩ := T.at_
  refine se_bin (pe_ix ix_kdict ha hb hs) fun ρ t H Q y x b a r wb wa p => ?_
  unfold fKIx at p
  cases a with
  | str z =>
    cases b with
    | glo g' =>
      simp only at p
      by_cases hg : g' = g
      · rw [if_pos hg] at p
        rw [rv_str] at wa
        rw [rv_glo, hg] at wb
        obtain ⟨d', e1, rfl⟩ := wb
        rw [hd] at e1; cases e1
        cases e : tab.lookup z with
        | none => simp only [e] at p; exact p.elim
        | some v =>
          simp only [e] at p
          obtain ⟨u, v', e2, e3, e4⟩ := h2 z v e
          exact ⟨d, z, v', rfl, wa, ⟨es, n, u, D.at_, D.lit, e2, e3⟩, p ρ H _ (Fwd.refl _ _) r (e4 ρ H)⟩
      · rw [if_neg hg] at p; exact p.elim
    | _ => exact p.elim
  | _ => exact p.elim
/-! TAB.get(k, x) -/
def tKGet (d : Addr) (K : PySem.W.Frag) (td ty tx : TE) : TE := fun σ H Q => td σ H fun x H1 => x = .ref d ∧ ty σ H1 fun y H2 => tx σ H2 fun z H3 => ∃ (s : Str) (r : Option Value) (v : V), y = .str s ∧ PySem.W.nsIn K d s = some r ∧ (r = none → v = z) ∧ (∀ u, r = some u → RelV v u) ∧ Q v H3
theorem pe_kget {o e f : Expr} {apos cpos : Pos} {td ty tx : TE} {d : Addr} {es : Array DictEntry} {n : Nat} (D : KDict X.K X.w d es n) (ho : PE X o td) (he : PE X e ty) (hf : PE X f tx) (m : M2 X o "get" apos e f cpos) : PE X (.Call (.Attribute o "get" apos) [e, f] [] cpos) (tKGet d X.K td ty tx) := by
  refine ⟨fun pins s σ H Q I h => ?_⟩
  refine wpAny_Call_method m.base m.few m.line PySem.F.plainAttrs_dict PySem.F.slot_dict_get PySem.F.type_dict_get (thn (ho.run pins s σ H _ I h) fun u s1 ⟨x, H1, I1, rx, ex, q1⟩ => ?_)
  subst ex
  obtain rfl : u = Value.ref d := rx
  refine ⟨kd_type D I1, fun b q => ?_, ?_⟩
  · cases q
    exact ⟨_, I1.kIn _ _ D.at_, rfl⟩
  rw [m.trees]
  refine Calls.callWith_builtin rfl (Calls.evalArgs_plain (Calls.spliced_cons (thn (he.run pins s1 σ H1 _ I1 q1) fun iv s2 ⟨y, H2, I2, ry, q2⟩ => Calls.spliced_cons (thn (hf.run pins s2 σ H2 _ I2 q2) fun fv s3 ⟨z, H3, I3, rz, st, r, v, ey, e1, e2, e3, q3⟩ => Calls.spliced_nil ?_))))
  subst ey
  obtain ⟨t, rfl⟩ := ry
  have hm := PySem.W.mapOf_K (prog := X.prog) (w := X.w) I3.kIn D.at_ D.lit
  refine call_meetsIn PySem.F.slot_dict_get (kd_type D I3) PySem.F.entry_dict_get (PySem.F.args_dict_get_3 _ _ _) (meets_dict_get_default (strKind X.prog X.w) d (strKind_is X.prog X.w st t) D.low fv) ⟨_, hm, ?_⟩
  rw [PySem.W.find_K D.at_ e1]
  cases r with
  | none => exact ⟨v, H3, I3.tok _, by rw [e2 rfl]; exact rz, q3⟩
  | some u => exact ⟨v, H3, I3.tok _, e3 u rfl, q3⟩
def isGlo (g : Nat) : A → Bool
  | .glo g' => decide (g' = g)
  | _ => false
def fKGet (tab : List (Str × A)) : A → A → List O → Res A := fun a b t => match a with
  | .str z => .ok ((tab.lookup z).getD b) t
  | _ => .bad
def mKGet (g : Nat) (tab : List (Str × A)) (mo ma mb : ME) : ME := fun s t => (mo s t).bind fun o t1 => if isGlo g o = true then (ma s t1).bind fun a t2 => (mb s t2).bind fun b t3 => fKGet tab a b t3 else .bad
theorem se_kget {o e f : Expr} {apos cpos : Pos} {mo ma mb : ME} (T : KTab c.γ X.K X.w g tab) (ho : SE c X o mo) (he : SE c X e ma) (hf : SE c X f mb) (m : M2 X o "get" apos e f cpos := by exact ⟨rfl, rfl, rfl, rfl⟩) : SE c X (.Call (.Attribute o "get" apos) [e, f] [] cpos) (mKGet g tab mo ma mb) := by
  obtain ⟨d, es, n, hd, D, h1, h2⟩ := T.at_
  refine PE.imp (pe_kget D ho he hf m) fun σ H Q p => ?_
  refine tM.bind (R := RV X.K c.γ) (m := mo) (k := fun s o t1 => if isGlo g o = true then (ma s t1).bind fun a t2 => (mb s t2).bind fun b t3 => fKGet tab a b t3 else .bad) p fun ρ H1 σa o x t r s w q => ?_
  by_cases hg : isGlo g o = true
  · rw [if_pos hg] at q
    cases o with
    | glo g' =>
      have eg : g' = g := of_decide_eq_true hg
      rw [rv_glo, eg] at w
      obtain ⟨d', e1, rfl⟩ := w
      rw [hd] at e1; cases e1
      refine ⟨rfl, ρ, σa, t, r, s, Post.bind q fun a t2 ρ2 H2 y _ f2 r2 w2 q2 => ⟨ρ2, σa, t2, r2, RS.mono (r.keep f2) _ _ s, Post.bind q2 fun b t3 ρ3 H3 z _ f3 r3 w3 q3 => ?_⟩⟩
      have w2' := RV.mono (r2.keep f3) _ _ w2
      unfold fKGet at q3
      cases a with
      | str k =>
        rw [rv_str] at w2'
        simp only at q3
        cases e : tab.lookup k with
        | none =>
          rw [e] at q3
          exact ⟨k, none, z, w2', h1 k e, fun _ => rfl, (fun u h => by cases h), q3 ρ3 H3 z (Fwd.refl _ _) r3 w3⟩
        | some v =>
          rw [e] at q3
          obtain ⟨u, v', e2, e3, e4⟩ := h2 k v e
          exact ⟨k, some u, v', w2', e2, (fun h => by cases h), (fun u' h => by cases h; exact e3), q3 ρ3 H3 v' (Fwd.refl _ _) r3 (e4 ρ3 H3)⟩
      | _ => exact q3.elim
    | _ => cases hg
  · rw [if_neg hg] at q; exact q.elim
/-! d.get(k, x), d one of our dicts -/
def isDic (hp : List O) : A → Bool
  | .ref n => (match hp[n]? with
    | some (.dic _) => true
    | some (.dro _) => true
    | some (.fz _) => true
    | _ => false)
  | _ => false
theorem isDic_ok {γ : Gm} {ρ : List Addr} {H : Hp} {hp : List O} {a : A} {x : V} (r : Rep K γ ρ hp H) (w : RV K γ ρ H a x) (h : isDic hp a = true) : ∃ d, x = .ref d ∧ IsD H d := by
  cases a with
  | ref n =>
    unfold isDic at h
    cases e : hp[n]? with
    | none => simp only [e] at h; cases h
    | some o =>
      obtain ⟨l, rfl, _, q⟩ := r.objAt w e
      cases o with
      | dic kvs => obtain ⟨vs, z, _⟩ := q; exact ⟨l, rfl, .inl ⟨vs, .inl z⟩⟩
      | dro kvs => obtain ⟨vs, z, _⟩ := q; exact ⟨l, rfl, .inl ⟨vs, z⟩⟩
      | fz kvs => obtain ⟨o, vs, z, _⟩ := q; exact ⟨l, rfl, .inl ⟨vs, .inr ⟨o, z⟩⟩⟩
      | _ => simp only [e] at h; cases h
  | _ => cases h
def fDGet2 (B : List O) : A → A → A → List O → Res A := fun o a b t => match o with
  | .ref n => (match dget (B ++ t) n a with
    | some v => .ok (v.getD b) t
    | none => .bad)
  | _ => .bad
def mDGet2 (B : List O) (mo ma mb : ME) : ME := fun s t => (mo s t).bind fun o t1 => if isDic (B ++ t1) o = true then (ma s t1).bind fun a t2 => (mb s t2).bind fun b t3 => fDGet2 B o a b t3 else .bad
theorem se_dget2 {o e f : Expr} {apos cpos : Pos} {mo ma mb : ME} (hu : X.A.units + 1 < cLine) (ho : SE c X o mo) (he : SE c X e ma) (hf : SE c X f mb) (m : M2 X o "get" apos e f cpos := by exact ⟨rfl, rfl, rfl, rfl⟩) : SE c X (.Call (.Attribute o "get" apos) [e, f] [] cpos) (mDGet2 c.B mo ma mb) := by
  refine PE.imp (pe_dget2 hu ho he hf m) fun σ H Q p => ?_
  refine tM.bind (R := RV X.K c.γ) (m := mo) (k := fun s o t1 => if isDic (c.B ++ t1) o = true then (ma s t1).bind fun a t2 => (mb s t2).bind fun b t3 => fDGet2 c.B o a b t3 else .bad) p fun ρ H1 σa o x t r s w q => ?_
  by_cases hg : isDic (c.B ++ t) o = true
  · rw [if_pos hg] at q
    obtain ⟨d, rfl, hd⟩ := isDic_ok r w hg
    refine ⟨d, rfl, hd, ρ, σa, t, r, s, Post.bind q fun a t2 ρ2 H2 y _ f2 r2 w2 q2 => ⟨ρ2, σa, t2, r2, RS.mono (r.keep f2) _ _ s, Post.bind q2 fun b t3 ρ3 H3 z _ f3 r3 w3 q3 => ?_⟩⟩
    have w2' := RV.mono (r2.keep f3) _ _ w2
    have w' := RV.mono (r2.keep f3) _ _ (RV.mono (r.keep f2) _ _ w)
    unfold fDGet2 at q3
    cases o with
    | ref n =>
      simp only at q3
      cases e1 : dget (c.B ++ t3) n a with
      | none => simp only [e1] at q3; exact q3.elim
      | some v =>
        simp only [e1] at q3
        obtain ⟨d', rr, ed, g, wo⟩ := dget_ok r3 w' w2' e1
        cases ed
        refine ⟨rr, g, q3 ρ3 H3 _ (Fwd.refl _ _) r3 ?_⟩
        cases v with
        | none => have h' : rr = none := wo; rw [h']; exact w3
        | some b' => obtain ⟨v', e2, e3⟩ := wo; rw [e2]; exact e3
    | _ => exact q3.elim
  · rw [if_neg hg] at q; exact q.elim
/-! dict(d) -/
def fDicOf (B : List O) : List A → List O → Res A := fun as t => match as with
  | [.ref n] => (match (B ++ t)[n]? with
    | some (.dic kvs) => mkO B (.dic kvs) t
    | some (.dro kvs) => mkO B (.dic kvs) t
    | some (.fz kvs) => mkO B (.dic kvs) t
    | _ => .bad)
  | _ => .bad
theorem ok_dicOf : OkA c K (fun xs H Q => ∃ (a : Addr) (kvs : List (Key × V)), xs = [.ref a] ∧ Rd H a (.dK kvs) ∧ ∀ p, H p = none → Q (.ref p) (upd H p (.dK kvs))) (fDicOf c.B) := by
  intro ρ t H Q xs as r w p
  unfold fDicOf at p
  rcases as with _ | ⟨a, _ | ⟨b, as⟩⟩
  · exact p.elim
  · obtain ⟨x, rfl, wx⟩ := rvs_one w
    cases a with
    | ref n =>
      simp only at p
      cases e : (c.B ++ t)[n]? with
      | none => simp only [e] at p; exact p.elim
      | some o =>
        obtain ⟨l, rfl, _, q⟩ := r.objAt wx e
        cases o with
        | dic kvs =>
          simp only [e] at p
          obtain ⟨vs, z, wk⟩ := q
          exact ⟨l, vs, rfl, .inl z, fun p' hp => mkO_ok (o := .dic kvs) r hp (fun ρ' H' k e => ⟨vs, e, RKs.mono k _ _ wk⟩) p⟩
        | dro kvs =>
          simp only [e] at p
          obtain ⟨vs, z, wk⟩ := q
          exact ⟨l, vs, rfl, z, fun p' hp => mkO_ok (o := .dic kvs) r hp (fun ρ' H' k e => ⟨vs, e, RKs.mono k _ _ wk⟩) p⟩
        | fz kvs =>
          simp only [e] at p
          obtain ⟨o, vs, z, wk⟩ := q
          exact ⟨l, vs, rfl, .inr ⟨o, z⟩, fun p' hp => mkO_ok (o := .dic kvs) r hp (fun ρ' H' k e => ⟨vs, e, RKs.mono k _ _ wk⟩) p⟩
        | _ => simp only [e] at p; exact p.elim
    | _ => exact p.elim
  · cases a <;> exact p.elim
/-! isinstance(x, C), C a class of the module -/
theorem mem_look {β : Type} {k : Nat} {b : β} : ∀ {l : List (Nat × β)}, l.lookup k = some b → (k, b) ∈ l
  | [], h => by cases h
  | (j, x) :: r, h => by
    rw [List.lookup_cons] at h
    cases hk : k == j with
    | true =>
      rw [hk] at h
      have e1 : k = j := by simpa using hk
      have e2 : x = b := by simpa using h
      rw [e1, e2]; exact List.mem_cons_self
    | false => rw [hk] at h; exact List.mem_cons_of_mem _ (mem_look h)
structure InsG (K : PySem.W.Frag) (C : Addr) : Prop where
  cl : Cls K C
  ha : PySem.W.findIn K (.ref C) "__class__" = some (some (.builtin "object.__class__"))
  hn : PySem.W.specialIn K (.builtin "object.__class__") "__get__" = some (some (.builtin "getset_descriptor.__get__"))
  tk : PySem.W.takesIn K (.builtin "object.__class__") = some true
  hm : PySem.W.mroIn K C (.type "object") = some true
structure IsOwn (γ : Gm) (K : PySem.W.Frag) (g : Nat) (tb : List String) (ci : List (Nat × Bool)) : Prop where
  ty : ∀ n ∈ tb, ∀ C, γ[g]? = some C → PySem.W.kitOne K (.type n) (.ref C) = some false
  ins : ∀ p ∈ ci, ∀ C D, γ[g]? = some C → γ[p.1]? = some D → InsG K D ∧ PySem.W.kitOne K (.ref D) (.ref C) = some p.2
def fIsiO (B : List O) (g : Nat) (tb : List String) (ci : List (Nat × Bool)) : List A → List O → Res A := fun as t => match as with
  | [a, .glo g'] => if g' = g then (match tyN (B ++ t) a with
    | some n => if tb.contains n = true then .ok (.bl false) t else .bad
    | none => (match a with
      | .ref m => (match (B ++ t)[m]? with
        | some (.ins k _) => (match ci.lookup k with
          | some b => .ok (.bl b) t
          | none => .bad)
        | _ => .bad)
      | _ => .bad)) else .bad
  | _ => .bad
theorem ok_isiO {tb : List String} {ci : List (Nat × Bool)} (hC : ∃ C, c.γ[g]? = some C) (h : IsOwn c.γ K g tb ci) : OkA c K (rIsi K) (fIsiO c.B g tb ci) := by
  intro ρ t H Q xs as r w p
  unfold fIsiO at p
  rcases as with _ | ⟨a, _ | ⟨a2, _ | ⟨a3, as⟩⟩⟩
  · exact p.elim
  · exact p.elim
  · cases a2 with
    | glo g' =>
      simp only at p
      by_cases hg : g' = g
      · rw [if_pos hg] at p
        obtain ⟨x, y, rfl, wa, wb⟩ := rvs_two w
        rw [rv_glo, hg] at wb
        obtain ⟨C, hC, rfl⟩ := wb
        cases e : tyN (c.B ++ t) a with
        | some n =>
          simp only [e] at p
          by_cases ht : tb.contains n = true
          · rw [if_pos ht] at p
            exact ⟨x, .ref C, .type n, .ref C, false, rfl, .own C, tyN_ok r wa e, h.ty n (by simpa using ht) C hC, p ρ H _ (Fwd.refl _ _) r (by rw [rv_bl])⟩
          · rw [if_neg ht] at p; exact p.elim
        | none =>
          simp only [e] at p
          cases a with
          | ref m =>
            simp only at p
            cases e2 : (c.B ++ t)[m]? with
            | none => simp only [e2] at p; exact p.elim
            | some o =>
              cases o with
              | ins k fs =>
                simp only [e2] at p
                cases e3 : ci.lookup k with
                | none => simp only [e3] at p; exact p.elim
                | some b =>
                  simp only [e3] at p
                  obtain ⟨l, rfl, _, D, dx, vs, hD, hz, _⟩ := r.objAt wa e2
                  obtain ⟨i1, i2⟩ := h.ins (k, b) (mem_look e3) C D hC hD
                  exact ⟨.ref l, .ref C, .ref D, .ref C, b, rfl, .own C, .base (.ins hz i1.cl i1.ha i1.hn i1.tk i1.hm), i2, p ρ H _ (Fwd.refl _ _) r (by rw [rv_bl])⟩
              | _ => simp only [e2] at p; exact p.elim
          | _ => exact p.elim
      · rw [if_neg hg] at p; exact p.elim
    | _ => exact p.elim
  · cases a2 <;> exact p.elim
end
end Ev
end
section
set_option Elab.async false
set_option linter.all false
set_option maxRecDepth 100000
set_option maxHeartbeats 1000000
/-! Classmethods with *args, staticmethods, cls(..). -/
namespace Ev
open PySem PySem.Spec PyProof.Rows L2
/-- C.m is a staticmethod: its record at p, its def at g -/
structure SMet (K : PySem.W.Frag) (C : Addr) (mc : Value) (m : Str) (p g : Addr) : Prop where
  at_ : PySem.W.findCls K (.ref C) mc m = some (.get (.builtin "staticmethod.__get__") (.ref p) .none (.ref C))
  rc : ∃ rest, PySem.W.recIn K p "staticmethod" = some (.ref g :: rest)
  kp : PySem.W.keepIn K (.ref g) = true
section
variable {c : Cc} {X : Cx} {K : PySem.W.Frag} {k n gi : Nat} {f g C p0 : Addr} {mc : Value} {fd : FuncData} {ps : List Str} {mf : MF} {x m : Str} {p pos apos : Pos} {e o : Expr} {es : List Expr} {ma : MA} {mo : ME} {ta : TE} {t : TA} {sp : Sp} {E : XK}
def tSMeth (C : Addr) (sp : Sp) (E : XK) (ta : TE) (t : TA) : TE := fun σ H Q => ta σ H fun x H1 => x = .ref C ∧ t σ H1 fun vs H2 => sp vs H2 Q E
theorem pe_smeth {pl : Sem Bool} (he : PE X o ta) (r : ClX.CRead X.K C mc) (s0 : SMet X.K C mc m p0 g) (F : FnOk X.prog X.w X.K X.mg X.base (CX X.prog X.w) k g fd ps sp) (hr : Room k X.A) (hx : Passes (CX X.prog X.w) X E) (hb : Binds X.K fd ps []) (ha : PA X (e :: es) t)
    (hst : starEach (e :: es) X.env = (false, eval e X.env) :: starEach es X.env := by rfl) (hpl : (backTo pos (starEach es X.env)).any (·.1) = false := by rfl)
    (ht : eval (.Call (.Attribute o m apos) (e :: es) [] pos) X.env = (do
      let ov ← eval o X.env
      standAt apos.atName
      let (f, first) ← holding [ov] (getMethod ov m pl)
      callWith pos f first (backTo pos (starEach (e :: es) X.env)) (backToKw pos (keywordEach [] X.env))) := by rfl) :
    PE X (.Call (.Attribute o m apos) (e :: es) [] pos) (tSMeth C sp E ta t) := by
  refine ⟨fun pins s σ H Q I h => ?_⟩
  refine PySem.W.methodCall_KW (pl := pl) (thn (he.run pins s σ H _ I h) fun u s1 ⟨x, H1, I1, rx, ex, q⟩ => ?_) ht
  subst ex
  obtain rfl : u = Value.ref C := rx
  obtain ⟨rest, hp⟩ := s0.rc
  have I2 := I1.tok (s1.toks + 1)
  refine PySem.W.method_cls I1.kIn r.ga (PySem.W.cls_bind I1.kIn r.rd s0.at_ (wpAny_call (PySem.W.sm_get (s := { s1 with toks := s1.toks + 1 }) I1.kIn hp (PySem.W.handed_on rfl ?_))))
  refine PySem.W.callWith_K (first := []) (h₀ := X.base) I.ok.mod.kin s0.kp (thn (ha.run pos pins _ σ H1 _ I2 q) fun us s3 ⟨vs, H2, I3, rv, q2⟩ => ⟨I3.kIn, ?_⟩) hst hpl
  exact run_fn (us := us) (vs := vs) F hr hb .nil hx I3 rv (by rw [List.append_nil]; exact q2)
def mSMeth (B : List O) (gi n : Nat) (mf : MF) (mo : ME) (ma : MA) : ME := fun s t => (mo s t).bind fun a t1 => if isGlo gi a = true then (ma s t1).bind fun as t2 => if as.length = n then mf B as t2 else .bad else .bad
theorem isGlo_ok {a : A} {x : V} {ρ : List Addr} {H : Hp} (w : RV K c.γ ρ H a x) (h : isGlo gi a = true) (hC : c.γ[gi]? = some C) : x = .ref C := by
  cases a with
  | glo g' =>
    have e : g' = gi := of_decide_eq_true h
    rw [rv_glo, e, hC] at w
    obtain ⟨b, eb, rfl⟩ := w
    cases eb; rfl
  | _ => cases h
theorem se_smeth {pl : Sem Bool} (ho : SE c X o mo) (hC : c.γ[gi]? = some C) (r : ClX.CRead X.K C mc) (s0 : SMet X.K C mc m p0 g) (F : FnOk X.prog X.w X.K X.mg X.base (CX X.prog X.w) k g fd ps (spOf X.K c.γ n mf)) (hr : Room k X.A) (hx : Passes (CX X.prog X.w) X c.E) (hb : Binds X.K fd ps []) (ha : SA c X (e :: es) ma)
    (hst : starEach (e :: es) X.env = (false, eval e X.env) :: starEach es X.env := by rfl) (hpl : (backTo pos (starEach es X.env)).any (·.1) = false := by rfl)
    (ht : eval (.Call (.Attribute o m apos) (e :: es) [] pos) X.env = (do
      let ov ← eval o X.env
      standAt apos.atName
      let (f, first) ← holding [ov] (getMethod ov m pl)
      callWith pos f first (backTo pos (starEach (e :: es) X.env)) (backToKw pos (keywordEach [] X.env))) := by rfl) :
    SE c X (.Call (.Attribute o m apos) (e :: es) [] pos) (mSMeth c.B gi n mf mo ma) := by
  refine PE.imp (pe_smeth ho r s0 F hr hx hb ha hst hpl ht) fun σ H Q p => ?_
  refine tM.bind (R := RV X.K c.γ) (m := mo) (k := fun s a t1 => if isGlo gi a = true then (ma s t1).bind fun as t2 => if as.length = n then mf c.B as t2 else .bad else .bad) p fun ρ H1 σa a v t r s w q => ?_
  by_cases hg : isGlo gi a = true
  · rw [if_pos hg] at q
    refine ⟨isGlo_ok w hg hC, ρ, σa, t, r, s, Post.bind q fun as t2 ρ2 H2 vs _ f2 r2 w2 p2 => ?_⟩
    by_cases hn : as.length = n
    · rw [if_pos hn] at p2
      exact ⟨ρ2, c.B, t2, as, hn, r2, w2, p2⟩
    · rw [if_neg hn] at p2; exact p2.elim
  · rw [if_neg hg] at q; exact q.elim
/-! C.m(..), m a classmethod with *args -/
def spStar (K : PySem.W.Frag) (γ : Gm) (mf : MF) : Sp := fun vs H Q E => ∃ ws rest, vs = ws ++ rest ∧ ws.length = 1 ∧ rest.length ≤ sizeLine ∧ ∀ p, H p = none → spOf K γ 2 mf (ws ++ [V.ref p]) (upd H p (.tup rest)) Q E
theorem fn_doesStar {P : Program} {w : World} {mg : Str → Option Value} {base : Heap} {γ : Gm} {qual p1 pv : Str} {params : Arguments} {body : List Stmt} {scope : Scope} {dvs : List V} {kws : List (Str × V)} {N : List Str} {mb : List O → MS}
    (F : FunD K x qual params body scope dvs kws f fd) (S : FnScope N ([p1] ++ [pv]) scope) {len : Nat} (hN : N.length = len)
    (hb : ∀ us rest : List Value, us.length = [p1].length → bindArgs fd ⟨us ++ rest, []⟩ = (newTuple rest >>= fun t => pure ([p1].zip us ++ [(pv, t)])))
    (hbody : ∀ (c : Cc) (cdv : Value) (A : Around) (outer : List Env) (s : Shared) (H : Hp), c.γ = γ → Room k (A.deeper (envOfC qual scope s.heap.objs.size f cdv)) → SSs c (cxOf (CX P w) P w K mg base N qual scope f cdv A outer s H c.E) body (mb c.B)) :
    FnR P w K mg base (CX P w) (k + 1) f (spStar K γ (runF len mb)) := by
  obtain ⟨⟨oc, od, dV, kV, doc, pm, an, cdv, ct, osl, rfl, lk, hcg, _, _⟩, hk⟩ := F
  subst hN
  refine StX.fn_star (ps := [p1]) (pv := pv) (N := N) (sp := spOf K γ 2 (runF N.length mb)) lk hcg S StX.cxUp hb fun A outer s H vs Q E hr h => ?_
  obtain ⟨ρ, B, t, as, hl, r, wv, p⟩ := h
  exact ⟨_, hbody ⟨γ, E, B⟩ cdv A outer s H rfl hr, body_ok (c := ⟨γ, E, B⟩) (X := cxOf (CX P w) P w K mg base N qual scope f cdv A outer s H E) r wv p⟩
def mCMeth (B : List O) (gi : Nat) (mf : MF) (mo : ME) (ma : MA) : ME := fun s t => (mo s t).bind fun a t1 => if isGlo gi a = true then (ma s t1).bind fun as t2 => if as.length ≤ sizeLine then mf B [.glo gi, .tup as] t2 else .bad else .bad
theorem se_cmeth {pl : Sem Bool} (ho : SE c X o mo) (hC : c.γ[gi]? = some C) (r : ClX.CRead X.K C mc) (c0 : ClX.CMet X.K C mc m p0 g) (F : FnR X.prog X.w X.K X.mg X.base (CX X.prog X.w) k g (spStar X.K c.γ mf)) (hr : Room k X.A) (hx : Passes (CX X.prog X.w) X c.E) (ha : SA c X (e :: es) ma)
    (hst : starEach (e :: es) X.env = (false, eval e X.env) :: starEach es X.env := by rfl) (hpl : (backTo pos (starEach es X.env)).any (·.1) = false := by rfl)
    (ht : eval (.Call (.Attribute o m apos) (e :: es) [] pos) X.env = (do
      let ov ← eval o X.env
      standAt apos.atName
      let (f, first) ← holding [ov] (getMethod ov m pl)
      callWith pos f first (backTo pos (starEach (e :: es) X.env)) (backToKw pos (keywordEach [] X.env))) := by rfl) :
    SE c X (.Call (.Attribute o m apos) (e :: es) [] pos) (mCMeth c.B gi mf mo ma) := by
  refine PE.imp (ClX.pe_cmeth ho r c0 F hr hx ha hst hpl ht) fun σ H Q p => ?_
  refine tM.bind (R := RV X.K c.γ) (m := mo) (k := fun s a t1 => if isGlo gi a = true then (ma s t1).bind fun as t2 => if as.length ≤ sizeLine then mf c.B [.glo gi, .tup as] t2 else .bad else .bad) p fun ρ H1 σa a v t r s w q => ?_
  by_cases hg : isGlo gi a = true
  · rw [if_pos hg] at q
    refine ⟨isGlo_ok w hg hC, ρ, σa, t, r, s, Post.bind q fun as t2 ρ2 H2 vs _ f2 r2 w2 p2 => ?_⟩
    by_cases hn : as.length ≤ sizeLine
    · rw [if_pos hn] at p2
      refine ⟨[.ref C], vs, rfl, rfl, by rw [w2.length]; exact hn, fun q hq => ?_⟩
      obtain ⟨r3, f3⟩ := r2.junk (nb := c.B.length) (o' := .tup vs) hq
      have k3 := r2.keep f3
      exact ⟨ρ2, c.B, t2, [.glo gi, .tup as], rfl, r3, by rw [rvs_cons]; exact ⟨_, _, rfl, by rw [rv_glo]; exact ⟨C, hC, rfl⟩, by rw [rvs_cons]; exact ⟨_, _, rfl, by rw [rv_tup]; exact ⟨q, vs, rfl, upd_same, RVs.mono k3 _ _ w2⟩, by rw [rvs_nil]⟩⟩, Post.fwd p2 f3⟩
    · rw [if_neg hn] at p2; exact p2.elim
  · rw [if_neg hg] at q; exact q.elim
/-! cls(..), cls a local that is a class -/
def tMakeL (C : Addr) (i : Nat) (sp : Sp) (E : XK) (t : TA) : TE := fun σ H Q => σ[i]? = some (some (.ref C)) ∧ tMake C sp [] E t σ H Q
theorem pe_makeL {i : Nat} (M : Mk X.K C f) (F : FnOk X.prog X.w X.K X.mg X.base (CX X.prog X.w) k f fd ps sp) (hr : Room (k + 1) X.A) (hN : X.N[i]? = some x) (hv : Vis X.env.scope x) (hb : Binds X.K fd ps []) (hx : Passes (CX X.prog X.w) X E) (ha : PA X (e :: es) t)
    (he : starEach (e :: es) X.env = (false, eval e X.env) :: starEach es X.env := by rfl) (hpl : (backTo pos (starEach es X.env)).any (·.1) = false := by rfl) (hd : (x == ("__debug__" : Str)) = false := by decide) (hcd : (x == ("__classdict__" : Str)) = false := by decide) :
    PE X (.Call (.Name x p) (e :: es) [] pos) (tMakeL C i sp E t) := by
  refine ⟨fun pins s σ H Q I ⟨hσ, h⟩ => ?_⟩
  refine wpAny_Call_Name_kw (thn ((pe_var (pos := p) (i := i) hN hv hd hcd).run pins s σ H (fun v H1 => v = .ref C ∧ H1 = H) I ⟨_, hσ, rfl, rfl⟩) fun u s0 ⟨v, H0, I0, rv, ev, eH⟩ => ?_)
  subst ev eH
  obtain rfl : u = Value.ref C := rv
  exact PySem.W.callWith_K (h₀ := X.base) I.ok.mod.kin M.kp (thn (ha.run pos pins s0 σ H0 _ I0 h) fun us s1 ⟨vs, H1, I1, r, q⟩ => ⟨I1.kIn, run_make M F hr hb .nil hx I1 r q⟩) he hpl
def mMakeL (B : List O) (i g n : Nat) (mf : MF) (ma : MA) : ME := fun s t => match s[i]? with
  | some (some (.glo g')) => if g' = g then mMakeF B g n mf ma s t else .bad
  | _ => .bad
theorem se_makeL {i : Nat} (hC : c.γ[gi]? = some C) (M : Mk X.K C f) (F : FnOk X.prog X.w X.K X.mg X.base (CX X.prog X.w) k f fd ps (spOf X.K c.γ n mf)) (hr : Room (k + 1) X.A) (hx : Passes (CX X.prog X.w) X c.E) (hN : X.N[i]? = some x) (hv : Vis X.env.scope x) (hb : Binds X.K fd ps [])
    (ha : SA c X (e :: es) ma) (he : starEach (e :: es) X.env = (false, eval e X.env) :: starEach es X.env := by rfl) (hpl : (backTo pos (starEach es X.env)).any (·.1) = false := by rfl) (hd : (x == ("__debug__" : Str)) = false := by decide) (hcd : (x == ("__classdict__" : Str)) = false := by decide) :
    SE c X (.Call (.Name x p) (e :: es) [] pos) (mMakeL c.B i gi n mf ma) := by
  refine PE.imp (pe_makeL M F hr hN hv hb hx ha he hpl hd hcd) fun σ H Q ⟨ρ, σa, t, r, s, q⟩ => ?_
  unfold mMakeL at q
  cases e1 : σa[i]? with
  | none => simp only [e1] at q; exact q.elim
  | some o =>
    cases o with
    | none => simp only [e1] at q; exact q.elim
    | some a =>
      cases a with
      | glo g' =>
        simp only [e1] at q
        by_cases hg : g' = gi
        · rw [if_pos hg] at q
          obtain ⟨v, ev, rv⟩ := s.get e1
          rw [rv_glo, hg, hC] at rv
          obtain ⟨b, eb, rfl⟩ := rv
          cases eb
          refine ⟨ev, ?_⟩
          have q' : tM c X (RV X.K c.γ) (mMakeF c.B gi n mf ma) σ H Q := ⟨ρ, σa, t, r, s, q⟩
          refine tM.bind (R := RVs X.K c.γ) (m := ma) (k := fun _ (as : List A) t1 => if as.length + 1 = n then
            (mf c.B (.ref (c.B.length + t1.length) :: as) (t1 ++ [.ins gi []])).bind fun v t2 => (match v with
              | .non => .ok (A.ref (c.B.length + t1.length)) t2
              | _ => .bad) else .bad) q' fun ρ H1 σa as vs t r s w q => ?_
          by_cases hl : as.length + 1 = n
          · rw [if_pos hl] at q
            intro x dx h1 h2 h3
            rw [List.append_nil]
            exact make_ok hC hl r w q x dx h1 h2 h3
          · rw [if_neg hl] at q; exact q.elim
        · rw [if_neg hg] at q; exact q.elim
      | _ => simp only [e1] at q; exact q.elim
end
end Ev
end
section
set_option Elab.async false
set_option linter.all false
set_option maxRecDepth 100000
set_option maxHeartbeats 1000000
/-! Short forms of the rules. -/
namespace Ev
open PySem PySem.Spec PyProof.Rows L2
section
variable {c : Cc} {X : Cx} {x : Str} {p pos : Pos} {e : Expr} {es : List Expr} {ma : MA}
theorem sv (i : Nat) (hN : X.N[i]? = some x := by rfl) (hv : Vis X.env.scope x := by first | exact .inl rfl | exact .inr (.inl rfl) | exact .inr (.inr rfl)) (hd : (x == ("__debug__" : Str)) = false := by decide) (hcd : (x == ("__classdict__" : Str)) = false := by decide) : SE c X (.Name x pos) (mVar i) := se_var (pe_var hN hv hd hcd)
theorem ci {i : Int} {j : Nat} : SE c X (.Constant (.int i) j pos) (mCon (.int i)) := se_con pe_int fun _ _ => by rw [rv_int]
theorem cs {z : Str} {j : Nat} : SE c X (.Constant (.str z) j pos) (mCon (.str z)) := se_con pe_str fun _ _ => by rw [rv_str]
theorem cb {b : Bool} {j : Nat} : SE c X (.Constant (.bool b) j pos) (mCon (.bl b)) := se_con pe_bl fun _ _ => by rw [rv_bl]
theorem cn {j : Nat} : SE c X (.Constant .none j pos) (mCon .non) := se_con pe_non fun _ _ => by rw [rv_non]
/-- a built-in type by its name -/
theorem cty {T : String} (hm : X.mg x = none) (hv : bootBuiltins x = some (.type T)) (hg : Gl X x := by rfl) (hn : x ≠ "__name__" := by decide) (hd : (x == ("__debug__" : Str)) = false := by decide) : SE c X (.Name x pos) (mCon (.ty T)) := se_con (pe_bltn (v := .ty T) hg hm hv rfl hn hd) fun _ _ => by rw [rv_ty]
theorem cgi {i : Int} (hm : ∃ t, X.mg x = some (.int i t)) (hg : Gl X x := by rfl) (hd : (x == ("__debug__" : Str)) = false := by decide) : SE c X (.Name x pos) (mCon (.int i)) := by
  obtain ⟨t, hm⟩ := hm
  exact se_glob hg hm (v := .int i) ⟨t, rfl⟩ (fun _ _ => by rw [rv_int]) hd
theorem cgs {z : Str} (hm : ∃ t, X.mg x = some (.str z t)) (hg : Gl X x := by rfl) (hd : (x == ("__debug__" : Str)) = false := by decide) : SE c X (.Name x pos) (mCon (.str z)) := by
  obtain ⟨t, hm⟩ := hm
  exact se_glob hg hm (v := .str z) ⟨t, rfl⟩ (fun _ _ => by rw [rv_str]) hd
/-- a thing of the module by its number -/
theorem cgl {g : Nat} {a : Addr} (hm : X.mg x = some (.ref a)) (ha : c.γ[g]? = some a) (hg : Gl X x := by rfl) (hd : (x == ("__debug__" : Str)) = false := by decide) : SE c X (.Name x pos) (mCon (.glo g)) :=
  se_glob hg hm (v := .ref a) rfl (fun _ _ => by rw [rv_glo]; exact ⟨a, ha, rfl⟩) hd
/-- a tuple of the module -/
theorem cgt {xs : List A} {vs : List V} {a : Addr} (hm : X.mg x = some (.ref a)) (hs : SqT X.K (fun _ => none) a vs) (hw : ∀ ρ H, RVs X.K c.γ ρ H xs vs) (hg : Gl X x := by rfl) (hd : (x == ("__debug__" : Str)) = false := by decide) : SE c X (.Name x pos) (mCon (.ktup xs)) :=
  se_glob hg hm (v := .ref a) rfl (fun ρ H => by rw [rv_ktup]; exact ⟨a, vs, rfl, hs, hw ρ H⟩) hd
/-- f(..), f a built-in function; a built-in type -/
theorem sb {id : String} {r : List V → Hp → VK → Prop} {f : List A → List O → Res A} (hc : CallR X (.builtin id) r) (hf : OkA c X.K r f) (hm : X.mg x = none) (hv : bootBuiltins x = some (.builtin id)) (ha : SA c X (e :: es) ma) (hg : Gl X x := by rfl) (hn : x ≠ "__name__" := by decide) (hdb : (x == ("__debug__" : Str)) = false := by decide)
    (he : starEach (e :: es) X.env = (false, eval e X.env) :: starEach es X.env := by rfl) (hpl : (backTo pos (starEach es X.env)).any (·.1) = false := by rfl) : SE c X (.Call (.Name x p) (e :: es) [] pos) (mCall f ma) := se_args (pe_callB hc hg hm hv ha hn hdb he hpl) hf
theorem sbt {T : String} {r : List V → Hp → VK → Prop} {f : List A → List O → Res A} (hc : CallR X (.type T) r) (hf : OkA c X.K r f) (hm : X.mg x = none) (hv : bootBuiltins x = some (.type T)) (ha : SA c X (e :: es) ma) (hg : Gl X x := by rfl) (hn : x ≠ "__name__" := by decide) (hdb : (x == ("__debug__" : Str)) = false := by decide)
    (he : starEach (e :: es) X.env = (false, eval e X.env) :: starEach es X.env := by rfl) (hpl : (backTo pos (starEach es X.env)).any (·.1) = false := by rfl) : SE c X (.Call (.Name x p) (e :: es) [] pos) (mCall f ma) := se_args (pe_callTy hc hg hm hv ha hn hdb he hpl) hf
end
section
variable {c : Cc} {X : Cx} {a b d : Expr} {pos : Pos} {ma mb mc : ME}
theorem s_eq (hu : X.A.units + 64 < cLine) (ha : SE c X a ma) (hb : SE c X b mb) (hm : behindInMarks .Eq b = false := by rfl) : SE c X (.Compare a [.Eq] [b] pos) (mBin (fEq c.B false) ma mb) := se_cmp (op_eqD hu) ha hb ok_eq hm
theorem s_ne (hu : X.A.units + 64 < cLine) (ha : SE c X a ma) (hb : SE c X b mb) (hm : behindInMarks .NotEq b = false := by rfl) : SE c X (.Compare a [.NotEq] [b] pos) (mBin (fEq c.B true) ma mb) := se_cmp (op_neD hu) ha hb ok_ne hm
theorem s_lt (ha : SE c X a ma) (hb : SE c X b mb) (hm : behindInMarks .Lt b = false := by rfl) : SE c X (.Compare a [.Lt] [b] pos) (mBin fLt ma mb) := se_cmp op_lt ha hb ok_lt hm
theorem s_le (ha : SE c X a ma) (hb : SE c X b mb) (hm : behindInMarks .LtE b = false := by rfl) : SE c X (.Compare a [.LtE] [b] pos) (mBin fLe ma mb) := se_cmp op_le ha hb ok_le hm
theorem s_gt (ha : SE c X a ma) (hb : SE c X b mb) (hm : behindInMarks .Gt b = false := by rfl) : SE c X (.Compare a [.Gt] [b] pos) (mBin fGt ma mb) := se_cmp op_gt ha hb ok_gt hm
theorem s_ge (ha : SE c X a ma) (hb : SE c X b mb) (hm : behindInMarks .GtE b = false := by rfl) : SE c X (.Compare a [.GtE] [b] pos) (mBin fGe ma mb) := se_cmp op_ge ha hb ok_ge hm
theorem s_is (ha : SE c X a ma) (hb : SE c X b mb) (hm : behindInMarks .Is b = false := by rfl) : SE c X (.Compare a [.Is] [b] pos) (mBin (fIs false) ma mb) := se_cmp op_isN ha hb ok_isN hm
theorem s_isnot (ha : SE c X a ma) (hb : SE c X b mb) (hm : behindInMarks .IsNot b = false := by rfl) : SE c X (.Compare a [.IsNot] [b] pos) (mBin (fIs true) ma mb) := se_cmp op_notN ha hb ok_notN hm
/-- x in (a tuple, a list) of flat things -/
theorem s_in (ha : SE c X a ma) (hb : SE c X b mb) (hm : behindInMarks .In b = false := by rfl) : SE c X (.Compare a [.In] [b] pos) (mBin (fSIn c.B false) ma mb) := se_cmp op_in_seq ha hb ok_sin hm
theorem s_notin (ha : SE c X a ma) (hb : SE c X b mb) (hm : behindInMarks .NotIn b = false := by rfl) : SE c X (.Compare a [.NotIn] [b] pos) (mBin (fSIn c.B true) ma mb) := se_cmp op_notIn_seq ha hb ok_sin hm
theorem s_din (hu : X.A.units + 1 < cLine) (ha : SE c X a ma) (hb : SE c X b mb) (hm : behindInMarks .In b = false := by rfl) : SE c X (.Compare a [.In] [b] pos) (mBin (fDIn c.B false) ma mb) := se_cmp (op_din hu) ha hb ok_din hm
theorem s_dnotin (hu : X.A.units + 1 < cLine) (ha : SE c X a ma) (hb : SE c X b mb) (hm : behindInMarks .NotIn b = false := by rfl) : SE c X (.Compare a [.NotIn] [b] pos) (mBin (fDIn c.B true) ma mb) := se_cmp (op_dnotin hu) ha hb ok_dnotin hm
/-- a sign in a text -/
theorem s_tin (ha : SE c X a ma) (hb : SE c X b mb) (hm : behindInMarks .In b = false := by rfl) : SE c X (.Compare a [.In] [b] pos) (mBin (fTIn false) ma mb) := se_cmp op_in_sign ha hb ok_tin hm
theorem s_lele (ha : SE c X a ma) (hb : SE c X b mb) (hd : SE c X d mc) (hm : lastMarks [.LtE, .LtE] [b, d] = false := by with_unfolding_all rfl) : SE c X (.Compare a [.LtE, .LtE] [b, d] pos) (mChain fLe fLe ma mb mc) := se_chain op_le op_le ha hb hd ok_le ok_le hm
theorem s_lelt (ha : SE c X a ma) (hb : SE c X b mb) (hd : SE c X d mc) (hm : lastMarks [.LtE, .Lt] [b, d] = false := by with_unfolding_all rfl) : SE c X (.Compare a [.LtE, .Lt] [b, d] pos) (mChain fLe fLt ma mb mc) := se_chain op_le op_lt ha hb hd ok_le ok_lt hm
/-! a tuple == () -/
def fEq0 : A → A → List O → Res A := fun a b t => match tupOf a, b with
  | some xs, .tup [] => .ok (.bl xs.isEmpty) t
  | _, _ => .bad
theorem op_eq0 (hu : X.A.units + 64 < cLine) : OpR X (compareOp .Eq) (fun x y H Q => ∃ p q xs, x = .ref p ∧ y = .ref q ∧ SqT X.K H p xs ∧ SqT X.K H q [] ∧ Q (.bl xs.isEmpty) H) := by
  intro pins s σ H x y v u Q I rx ry h
  obtain ⟨p, q, xs, rfl, rfl, h1, h2, hq⟩ := h
  cases rx
  cases ry
  obtain ⟨its, rv, T1, _⟩ := I.tuple h1
  obtain ⟨its2, rv2, T2, _⟩ := I.tuple h2
  cases rv2
  have e : ((List.range (min its.toArray.size (#[] : Array Value).size)).all (fun _ => true) && its.toArray.size == (#[] : Array Value).size) = xs.isEmpty := by
    rw [show xs.isEmpty = its.isEmpty by cases rv <;> rfl]
    cases its <;> simp
  exact SeqAt.RcAt.tuples (e := fun _ => true) T1 T2 (by omega) (fun j _ h2 => by simp at h2) X.prog X.w X.xe _ ⟨.bl xs.isEmpty, H, I, by rw [← e]; rfl, hq⟩
theorem ok_eq0 {K : PySem.W.Frag} : Ok2 c K (fun x y H Q => ∃ p q xs, x = .ref p ∧ y = .ref q ∧ SqT K H p xs ∧ SqT K H q [] ∧ Q (.bl xs.isEmpty) H) fEq0 := by
  intro ρ t H Q x y a b r wa wb p
  unfold fEq0 at p
  have key : ∀ {a : A} {xs : List A} {x : V}, tupOf a = some xs → RV K c.γ ρ H a x → ∃ p vs, x = .ref p ∧ SqT K H p vs ∧ RVs K c.γ ρ H xs vs := by
    intro a xs x e w
    cases a with
    | tup ys => cases e; rw [rv_tup] at w; obtain ⟨p, vs, e1, e2, e3⟩ := w; exact ⟨p, vs, e1, SqT.of e2, e3⟩
    | ktup ys => cases e; rw [rv_ktup] at w; obtain ⟨p, vs, e1, e2, e3⟩ := w; exact ⟨p, vs, e1, SqT.ofK e2, e3⟩
    | _ => cases e
  cases e1 : tupOf a with
  | none => simp only [e1] at p; exact p.elim
  | some xs =>
    rcases b with _ | _ | _ | _ | _ | ys | _ | _ | _
    all_goals first | (simp only [e1] at p; exact p.elim) | skip
    cases ys with
    | cons _ _ => simp only [e1] at p; exact p.elim
    | nil =>
      simp only [e1] at p
      obtain ⟨q1, vs, rfl, s1, w1⟩ := key e1 wa
      obtain ⟨q2, vs2, rfl, s2, w2⟩ := key (a := .tup []) (xs := []) rfl wb
      rw [rvs_nil] at w2
      subst w2
      exact ⟨q1, q2, vs, rfl, rfl, s1, s2, p ρ H _ (Fwd.refl _ _) r (by rw [rv_bl]; congr 1; have := w1.length; cases xs <;> cases vs <;> simp_all)⟩
theorem s_eq0 (hu : X.A.units + 64 < cLine) (ha : SE c X a ma) (hb : SE c X b mb) (hm : behindInMarks .Eq b = false := by rfl) : SE c X (.Compare a [.Eq] [b] pos) (mBin fEq0 ma mb) := se_cmp (op_eq0 hu) ha hb ok_eq0 hm
end
end Ev
end
section
set_option Elab.async false
set_option linter.all false
set_option maxRecDepth 100000
set_option maxHeartbeats 1000000
/-! Tests, calls: short forms. -/
namespace Ev
open PySem PySem.Spec PyProof.Rows L2
section
variable {c : Cc} {X : Cx} {a b d : Expr} {pos : Pos} {ma mb mc : ME}
theorem t_eq (hu : X.A.units + 64 < cLine) (ha : SE c X a ma) (hb : SE c X b mb) (hm : behindInMarks .Eq b = false := by rfl) : ST c X (.Compare a [.Eq] [b] pos) (mTest (mBin (fEq c.B false) ma mb)) := st_cmp (op_eqD hu) ha hb ok_eq hm
theorem t_ne (hu : X.A.units + 64 < cLine) (ha : SE c X a ma) (hb : SE c X b mb) (hm : behindInMarks .NotEq b = false := by rfl) : ST c X (.Compare a [.NotEq] [b] pos) (mTest (mBin (fEq c.B true) ma mb)) := st_cmp (op_neD hu) ha hb ok_ne hm
theorem t_lt (ha : SE c X a ma) (hb : SE c X b mb) (hm : behindInMarks .Lt b = false := by rfl) : ST c X (.Compare a [.Lt] [b] pos) (mTest (mBin fLt ma mb)) := st_cmp op_lt ha hb ok_lt hm
theorem t_le (ha : SE c X a ma) (hb : SE c X b mb) (hm : behindInMarks .LtE b = false := by rfl) : ST c X (.Compare a [.LtE] [b] pos) (mTest (mBin fLe ma mb)) := st_cmp op_le ha hb ok_le hm
theorem t_gt (ha : SE c X a ma) (hb : SE c X b mb) (hm : behindInMarks .Gt b = false := by rfl) : ST c X (.Compare a [.Gt] [b] pos) (mTest (mBin fGt ma mb)) := st_cmp op_gt ha hb ok_gt hm
theorem t_ge (ha : SE c X a ma) (hb : SE c X b mb) (hm : behindInMarks .GtE b = false := by rfl) : ST c X (.Compare a [.GtE] [b] pos) (mTest (mBin fGe ma mb)) := st_cmp op_ge ha hb ok_ge hm
theorem t_is (ha : SE c X a ma) (hb : SE c X b mb) (hm : behindInMarks .Is b = false := by rfl) : ST c X (.Compare a [.Is] [b] pos) (mTest (mBin (fIs false) ma mb)) := st_cmp op_isN ha hb ok_isN hm
theorem t_isnot (ha : SE c X a ma) (hb : SE c X b mb) (hm : behindInMarks .IsNot b = false := by rfl) : ST c X (.Compare a [.IsNot] [b] pos) (mTest (mBin (fIs true) ma mb)) := st_cmp op_notN ha hb ok_notN hm
theorem t_in (ha : SE c X a ma) (hb : SE c X b mb) (hm : behindInMarks .In b = false := by rfl) : ST c X (.Compare a [.In] [b] pos) (mTest (mBin (fSIn c.B false) ma mb)) := st_cmp op_in_seq ha hb ok_sin hm
theorem t_notin (ha : SE c X a ma) (hb : SE c X b mb) (hm : behindInMarks .NotIn b = false := by rfl) : ST c X (.Compare a [.NotIn] [b] pos) (mTest (mBin (fSIn c.B true) ma mb)) := st_cmp op_notIn_seq ha hb ok_sin hm
theorem t_din (hu : X.A.units + 1 < cLine) (ha : SE c X a ma) (hb : SE c X b mb) (hm : behindInMarks .In b = false := by rfl) : ST c X (.Compare a [.In] [b] pos) (mTest (mBin (fDIn c.B false) ma mb)) := st_cmp (op_din hu) ha hb ok_din hm
theorem t_dnotin (hu : X.A.units + 1 < cLine) (ha : SE c X a ma) (hb : SE c X b mb) (hm : behindInMarks .NotIn b = false := by rfl) : ST c X (.Compare a [.NotIn] [b] pos) (mTest (mBin (fDIn c.B true) ma mb)) := st_cmp (op_dnotin hu) ha hb ok_dnotin hm
theorem t_tin (ha : SE c X a ma) (hb : SE c X b mb) (hm : behindInMarks .In b = false := by rfl) : ST c X (.Compare a [.In] [b] pos) (mTest (mBin (fTIn false) ma mb)) := st_cmp op_in_sign ha hb ok_tin hm
theorem t_eq0 (hu : X.A.units + 64 < cLine) (ha : SE c X a ma) (hb : SE c X b mb) (hm : behindInMarks .Eq b = false := by rfl) : ST c X (.Compare a [.Eq] [b] pos) (mTest (mBin fEq0 ma mb)) := st_cmp (op_eq0 hu) ha hb ok_eq0 hm
theorem t_lele (ha : SE c X a ma) (hb : SE c X b mb) (hd : SE c X d mc) (hm : lastMarks [.LtE, .LtE] [b, d] = false := by with_unfolding_all rfl) : ST c X (.Compare a [.LtE, .LtE] [b, d] pos) (mTest (mChain fLe fLe ma mb mc)) := st_chain op_le op_le ha hb hd ok_le ok_le hm
theorem t_lelt (ha : SE c X a ma) (hb : SE c X b mb) (hd : SE c X d mc) (hm : lastMarks [.LtE, .Lt] [b, d] = false := by with_unfolding_all rfl) : ST c X (.Compare a [.LtE, .Lt] [b, d] pos) (mTest (mChain fLe fLt ma mb mc)) := st_chain op_le op_lt ha hb hd ok_le ok_lt hm
variable {g : Nat} {tab : List (Str × A)}
theorem t_kin (T : KTab c.γ X.K X.w g tab) (ha : SE c X a ma) (hb : SE c X b mb) (hm : behindInMarks .In b = false := by rfl) : ST c X (.Compare a [.In] [b] pos) (mTest (mBin (fKIn g tab false) ma mb)) := by
  obtain ⟨d, es, n, hd, D, h1, h2⟩ := T.at_
  exact st_cmp (op_in_kd D) ha hb (ok_kin D hd h1 h2) hm
theorem t_knotin (T : KTab c.γ X.K X.w g tab) (ha : SE c X a ma) (hb : SE c X b mb) (hm : behindInMarks .NotIn b = false := by rfl) : ST c X (.Compare a [.NotIn] [b] pos) (mTest (mBin (fKIn g tab true) ma mb)) := by
  obtain ⟨d, es, n, hd, D, h1, h2⟩ := T.at_
  exact st_cmp (op_notIn_kd D) ha hb (ok_knotin D hd h1 h2) hm
end
/-! a def by its promise -/
structure FnS (P : Program) (w : World) (K : PySem.W.Frag) (mg : Str → Option Value) (base : Heap) (γ : Gm) (k : Nat) (f : Addr) (ps : List Str) (n : Nat) (mf : MF) : Prop where
  ok : ∃ fd, FnOk P w K mg base (CX P w) k f fd ps (spOf K γ n mf) ∧ Binds K fd ps []
section
variable {P : Program} {w : World} {K : PySem.W.Frag} {mg : Str → Option Value} {base : Heap} {γ : Gm} {c : Cc} {X : Cx} {k k' n gi : Nat} {f C : Addr} {ps : List Str} {mf : MF} {x m : Str} {p pos apos : Pos} {e o : Expr} {es : List Expr} {ma : MA} {mo : ME}
theorem s_call (F : FnS X.prog X.w X.K X.mg X.base c.γ k f ps n mf) (hx : Passes (CX X.prog X.w) X c.E) (hr : Room k' X.A) (hm : X.mg x = some (.ref f)) (hk : PySem.W.keepIn X.K (.ref f) = true) (ha : SA c X (e :: es) ma) (hle : k ≤ k' := by decide) (hg : Gl X x := by rfl)
    (hdb : (x == ("__debug__" : Str)) = false := by decide) (he : starEach (e :: es) X.env = (false, eval e X.env) :: starEach es X.env := by rfl) (hpl : (backTo pos (starEach es X.env)).any (·.1) = false := by rfl) :
    SE c X (.Call (.Name x p) (e :: es) [] pos) (mCallF c.B n mf ma) := by
  obtain ⟨fd, F, hb⟩ := F.ok
  exact se_call F (hr.mono hle) hx hg hm hk hb ha hdb he hpl
theorem s_call0 (F : FnS X.prog X.w X.K X.mg X.base c.γ k f ps 0 mf) (hx : Passes (CX X.prog X.w) X c.E) (hr : Room k' X.A) (hm : X.mg x = some (.ref f)) (hk : PySem.W.keepIn X.K (.ref f) = true) (hle : k ≤ k' := by decide) (hg : Gl X x := by rfl)
    (hdb : (x == ("__debug__" : Str)) = false := by decide) : SE c X (.Call (.Name x p) [] [] pos) (mCallF0 c.B mf) := by
  obtain ⟨fd, F, hb⟩ := F.ok
  exact se_call0 F (hr.mono hle) hx hg hm hk hb hdb
theorem s_make (F : FnS X.prog X.w X.K X.mg X.base c.γ k f ps n mf) (hx : Passes (CX X.prog X.w) X c.E) (hr : Room k' X.A) (hC : c.γ[gi]? = some C) (M : Mk X.K C f) (hm : X.mg x = some (.ref C)) (ha : SA c X (e :: es) ma) (hle : k + 1 ≤ k' := by decide) (hg : Gl X x := by rfl)
    (hdb : (x == ("__debug__" : Str)) = false := by decide) (he : starEach (e :: es) X.env = (false, eval e X.env) :: starEach es X.env := by rfl) (hpl : (backTo pos (starEach es X.env)).any (·.1) = false := by rfl) :
    SE c X (.Call (.Name x p) (e :: es) [] pos) (mMakeF c.B gi n mf ma) := by
  obtain ⟨fd, F, hb⟩ := F.ok
  exact se_make hC M F (hr.mono hle) hx hg hm hb ha hdb he hpl
theorem s_meth {pl : Sem Bool} (F : FnS X.prog X.w X.K X.mg X.base c.γ k f ps n mf) (hx : Passes (CX X.prog X.w) X c.E) (hr : Room k' X.A) (hC : c.γ[gi]? = some C) (cl : Cls X.K C) (hm : Meth X.K C m f) (ho : SE c X o mo) (ha : SA c X (e :: es) ma) (hle : k ≤ k' := by decide)
    (hst : starEach (e :: es) X.env = (false, eval e X.env) :: starEach es X.env := by rfl) (hpl : (backTo pos (starEach es X.env)).any (·.1) = false := by rfl)
    (ht : eval (.Call (.Attribute o m apos) (e :: es) [] pos) X.env = (do
      let ov ← eval o X.env
      standAt apos.atName
      let (f, first) ← holding [ov] (getMethod ov m pl)
      callWith pos f first (backTo pos (starEach (e :: es) X.env)) (backToKw pos (keywordEach [] X.env))) := by rfl) :
    SE c X (.Call (.Attribute o m apos) (e :: es) [] pos) (mMethF c.B gi m n mf mo ma) := by
  obtain ⟨fd, F, hb⟩ := F.ok
  exact se_meth ho hC cl hm F (hr.mono hle) hx hb ha hst hpl ht
theorem s_meth0 {pl : Sem Bool} (F : FnS X.prog X.w X.K X.mg X.base c.γ k f ps 1 mf) (hx : Passes (CX X.prog X.w) X c.E) (hr : Room k' X.A) (hC : c.γ[gi]? = some C) (cl : Cls X.K C) (hm : Meth X.K C m f) (ho : SE c X o mo) (hle : k ≤ k' := by decide)
    (ht : eval (.Call (.Attribute o m apos) [] [] pos) X.env = (do
      let ov ← eval o X.env
      standAt apos.atName
      let (f, first) ← holding [ov] (getMethod ov m pl)
      callWith pos f first (backTo pos (starEach [] X.env)) (backToKw pos (keywordEach [] X.env))) := by rfl) :
    SE c X (.Call (.Attribute o m apos) [] [] pos) (mMethF0 c.B gi m mf mo) := by
  obtain ⟨fd, F, hb⟩ := F.ok
  exact se_meth0 ho hC cl hm F (hr.mono hle) hx hb ht
theorem s_prop {pa : Addr} (F : FnS X.prog X.w X.K X.mg X.base c.γ k f ps 1 mf) (hr : Room k' X.A) (hC : c.γ[gi]? = some C) (cl : Cls X.K C) (hp : PropOf X.K C m pa f) (ho : SE c X o mo) (hle : k + 1 ≤ k' := by decide)
    (hab : attributeBase o m X.env (eval o X.env) = eval o X.env := by rfl) : SE c X (.Attribute o m pos) (mProp c.B gi mf mo) := by
  obtain ⟨fd, F, hb⟩ := F.ok
  exact se_prop ho hC cl hp F (hr.mono hle) hb hab
theorem s_smeth {pl : Sem Bool} {mc : Value} {p0 : Addr} (F : FnS X.prog X.w X.K X.mg X.base c.γ k f ps n mf) (hx : Passes (CX X.prog X.w) X c.E) (hr : Room k' X.A) (hC : c.γ[gi]? = some C) (r : ClX.CRead X.K C mc) (s0 : SMet X.K C mc m p0 f) (ho : SE c X o mo) (ha : SA c X (e :: es) ma) (hle : k ≤ k' := by decide)
    (hst : starEach (e :: es) X.env = (false, eval e X.env) :: starEach es X.env := by rfl) (hpl : (backTo pos (starEach es X.env)).any (·.1) = false := by rfl)
    (ht : eval (.Call (.Attribute o m apos) (e :: es) [] pos) X.env = (do
      let ov ← eval o X.env
      standAt apos.atName
      let (f, first) ← holding [ov] (getMethod ov m pl)
      callWith pos f first (backTo pos (starEach (e :: es) X.env)) (backToKw pos (keywordEach [] X.env))) := by rfl) :
    SE c X (.Call (.Attribute o m apos) (e :: es) [] pos) (mSMeth c.B gi n mf mo ma) := by
  obtain ⟨fd, F, hb⟩ := F.ok
  exact se_smeth ho hC r s0 F (hr.mono hle) hx hb ha hst hpl ht
theorem s_makeL (F : FnS X.prog X.w X.K X.mg X.base c.γ k f ps n mf) (hx : Passes (CX X.prog X.w) X c.E) (hr : Room k' X.A) (hC : c.γ[gi]? = some C) (M : Mk X.K C f) (i : Nat) (ha : SA c X (e :: es) ma) (hle : k + 1 ≤ k' := by decide) (hN : X.N[i]? = some x := by rfl) (hv : Vis X.env.scope x := by first | exact .inl rfl | exact .inr (.inl rfl) | exact .inr (.inr rfl))
    (he : starEach (e :: es) X.env = (false, eval e X.env) :: starEach es X.env := by rfl) (hpl : (backTo pos (starEach es X.env)).any (·.1) = false := by rfl) (hd : (x == ("__debug__" : Str)) = false := by decide) (hcd : (x == ("__classdict__" : Str)) = false := by decide) :
    SE c X (.Call (.Name x p) (e :: es) [] pos) (mMakeL c.B i gi n mf ma) := by
  obtain ⟨fd, F, hb⟩ := F.ok
  exact se_makeL hC M F (hr.mono hle) hx hN hv hb ha he hpl hd hcd
/-- THE RULE: a def by what its body does -/
theorem s_def {qual : Str} {params : Arguments} {body : List Stmt} {scope : Scope} {N : List Str} {len : Nat} {mb : List O → MS} {fd : FuncData}
    (F : FunD K x qual params body scope [] [] f fd) (S : FnScope N ps scope) (hn : ps.length = n) (hN : N.length = len)
    (hB : Binds K fd ps [])
    (hb : ∀ (E : XK) (B : List O) (cdv : Value) (A : Around) (outer : List Env) (s : Shared) (H : Hp), Room k (A.deeper (envOfC qual scope s.heap.objs.size f cdv)) → SSs ⟨γ, E, B⟩ (cxOf (CX P w) P w K mg base N qual scope f cdv A outer s H E) body (mb B)) :
    FnS P w K mg base γ (k + 1) f ps n (runF len mb) :=
  ⟨fd, fn_does F S hn hN fun c cdv A outer s H hγ hr => by
    obtain ⟨γ', E, B⟩ := c
    have hγ' : γ' = γ := hγ
    subst hγ'
    exact hb E B cdv A outer s H hr, hB⟩
end
end Ev
end
section
set_option Elab.async false
set_option linter.all false
set_option maxRecDepth 100000
set_option maxHeartbeats 1000000
/-! What the generated texts lean on. -/
namespace Ev
open PySem PySem.Spec PyProof.Rows L2
def clsBody (s : Stmt) : List Stmt := match s with
  | .ClassDef _ _ _ b _ _ _ _ _ _ _ => b
  | _ => []
theorem _root_.L2.Room.u64 {k : Nat} {A : Around} (r : Room k A) : A.units + 64 < cLine := by have := r.un; omega
theorem _root_.L2.Room.u1 {k : Nat} {A : Around} (r : Room k A) : A.units + 1 < cLine := by have := r.un; omega
theorem clsG_one {c : Cc} {K : PySem.W.Frag} {f : Str} {g : Nat} {C : Addr} (hC : c.γ[g]? = some C) (cl : Cls K C) (na : NoAttr K C f) : ∀ i ∈ [g], ClsG c K f i := fun i hi D hD => by
  have e : i = g := by simpa using hi
  subst e
  rw [hC] at hD
  cases hD
  exact ⟨cl, na⟩
/-- a staticmethod's, a classmethod's record and its def; a property's -/
def recP (K : PySem.W.Frag) (C m : Str) : Addr := He.ma K (He.ga K C) m
def recF (K : PySem.W.Frag) (p : Addr) : Addr := match K.lookup p with
  | some ⟨_, _, .fields vs, _⟩ => (match vs.getD 0 .none with
    | .ref f => f
    | _ => 0)
  | _ => 0
def smP (K : PySem.W.Frag) (C m : Str) : Addr := recP K C m
def smF (K : PySem.W.Frag) (C m : Str) : Addr := recF K (recP K C m)
def prP (K : PySem.W.Frag) (C m : Str) : Addr := recP K C m
def prF (K : PySem.W.Frag) (C m : Str) : Addr := recF K (recP K C m)
/-- an own error over ValueError -/
structure OexG (K : PySem.W.Frag) (C : Addr) : Prop where
  oex : OexC K C
  iC : PySem.W.findIn K (.ref C) "__init__" = some (some (.ref (He.ma K C "__init__")))
  tI : PySem.W.typeIn K (.ref (He.ma K C "__init__")) = some (.type "function")
/-- the promise of an own error's __init__ -/
structure FnI (P : Program) (w : World) (K : PySem.W.Frag) (mg : Str → Option Value) (base : Heap) (γ : Gm) (k : Nat) (C f : Addr) (ps fs : List Str) (mf : MF) : Prop where
  ok : ∃ fd, FnOk P w K mg base (CX P w) k f fd ps (spInit K γ C fs mf) ∧ Binds K fd ps []
theorem s_raise {c : Cc} {X : Cx} {g k k' : Nat} {C : Addr} {ps fs : List Str} {mf : MF} {x : Str} {p pos rpos : Pos} {e : Expr} {es : List Expr} {ma : MA} (F : FnI X.prog X.w X.K X.mg X.base c.γ k C (He.ma X.K C "__init__") ps fs mf) (hr : Room k' X.A) (hC : c.γ[g]? = some C) (T : OexG X.K C) (hm : X.mg x = some (.ref C)) (ha : SA c X (e :: es) ma)
    (hle : k + 1 ≤ k' := by decide) (hc : X.calm = true := by rfl) (tk : Takes X (fun cls d _ H => c.E cls d H) := by exact tkF) (hg : Gl X x := by rfl) (hdb : (x == ("__debug__" : Str)) = false := by decide) (he : starEach (e :: es) X.env = (false, eval e X.env) :: starEach es X.env := by rfl) (hpl : (backTo pos (starEach es X.env)).any (·.1) = false := by rfl) :
    SS c X (.Raise (some (.Call (.Name x p) (e :: es) [] pos)) none rpos) (mRaise c.B g fs mf ma) := by
  obtain ⟨fd, F, hb⟩ := F.ok
  exact ss_raise hc tk hC T.oex T.iC T.tI F (hr.mono hle) hb hg hm ha hdb he hpl
theorem ss_unpack {c : Cc} {X : Cx} {is : List Nat} {tes es : List Expr} {kt k2 : Nat} {pt p2 pos : Pos} {ma : MA} (ha : SA c X es ma) (hg : PG X (.Tuple tes kt pt) (gTup X.K is.length (gNames is))) (hs : swapsWithSole [.Tuple tes kt pt] (.Tuple es k2 p2) pos.line X.env = pure false) (hw : swappedStores [.Tuple tes kt pt] (.Tuple es k2 p2) X.env = pure none) :
    SS c X (.Assign [.Tuple tes kt pt] (.Tuple es k2 p2) pos) (mAsg (gT is) (mTup ma)) := ss_asg (ps_asg (se_tup ha) hg hs hw) ok_gT
end Ev
end
section
set_option Elab.async false
set_option linter.all false
set_option maxRecDepth 100000
set_option maxHeartbeats 1000000
/-! Own errors' inits by facts; the law by its body. -/
namespace Ev
open PySem PySem.Spec PyProof.Rows L2 NdefX
theorem _root_.L2.Room.u62 {k : Nat} {A : Around} (r : Room k A) : A.units + 62 < cLine := by have := r.un; omega
structure InitF (P : Program) (K : PySem.W.Frag) (mg : Str → Option Value) (C f : Addr) (name qual : Str) (st : Stmt) : Prop where
  ex : ∃ oc od osl kV doc pm an ct cc cda, K.lookup f = some ⟨oc, od, .func (PySem.W.fnX name qual (defArgs st) (defBody st) (defScope st) [("__class__", cc)] .none kV doc pm an (.ref cda) ct), osl⟩ ∧ PySem.W.codeIn K (.ref cda) qual = true ∧ SupF P K mg C f cc cda
theorem tkL {X : Cx} {A : Around} {outer : List Env} {s : Shared} {H : Hp} {E : XK} {scope : Scope} {f c' : Addr} : Takes (LamX.lamCx X A outer s H E scope f c') (fun cls d _ H => E cls d H) := takes_of rfl rfl rfl rfl
/-- what holds of the def that tries -/
structure TryC (K : PySem.W.Frag) (C : Addr) (T : String) (f1 f2 : Str) : Prop where
  kc : PySem.W.kitCls K (.ref C) (.type T) = some true
  xf : XfC K C
  n1 : PySem.W.findIn K (.ref C) f1 = some none
  n2 : PySem.W.findIn K (.ref C) f2 = some none
  ex : PySem.W.exmOne K (.ref C) (.ref C) = some true
/-- a law's run from its body -/
theorem law_run {P : Program} {w : World} {K : PySem.W.Frag} {mg : Str → Option Value} {base : Heap} {k : Nat} {f a : Addr} {x p1 : Str} {params : Arguments} {body : List Stmt} {scope : Scope} {fd : FuncData} {N : List Str} {len : Nat} {γ : Gm} {mb : List O → MS} {s : Shared} {H : Hp} {xs : List A}
    (F : FunD K x x params body scope [] [] f fd) (hB : ∀ (s : Shared) (us : List Value), us.length = [p1].length → BindsTo s fd ⟨us, []⟩ ([p1].zip us)) (S : FnScope N [p1] scope) (hN : N.length = len) (hr : Room (k + 1) callerA) (e0 : Env0 P w K mg base callerA [] s H)
    (hb : ∀ (cdv : Value), fd.code = cdv → Room k (callerA.deeper (envOfC x scope s.heap.objs.size f cdv)) → SSs ⟨γ, fun _ _ _ => False, [.ro xs]⟩ (cxOf (CX P w) P w K mg base N x scope f cdv callerA [] s H (fun _ _ _ => False)) body (mb [.ro xs]))
    (rep : Rep K γ [a] ([.ro xs] ++ []) H) (law : ∃ t, runF len mb [.ro xs] [.ref 0] [] = .ok (.bl true) t) :
    codeAny (model P w) callerA (.call (.ref f) ⟨[.ref a], []⟩) (CR (CX P w) [] P w H s (fun v _ => v = .bl true) (fun _ _ _ => False)) s := by
  obtain ⟨⟨oc, od, dV, kV, doc, pm, an, cdv, ct, osl, rfl, lk, hcg, _, _⟩, hk⟩ := F
  subst hN
  refine LamX.run_ofS (N := N) (ps := [p1]) (us := [.ref a]) (vs := [.ref a]) lk hcg S hr e0 (hB s [.ref a] rfl) (.cons rfl .nil) rfl fun hr' => ⟨_, hb cdv rfl hr', ?_⟩
  obtain ⟨t, ht⟩ := law
  refine body_ok (c := ⟨γ, fun _ _ _ => False, [.ro xs]⟩) (X := cxOf (CX P w) P w K mg base N x scope f cdv callerA [] s H (fun _ _ _ => False)) (N := N) (Q := fun v _ => v = .bl true) (mb := mb) (vs := [.ref a]) (as := [.ref 0]) (t := []) rep ?_ ?_
  · rw [rvs_cons]
    exact ⟨_, _, rfl, by rw [rv_ref]; exact ⟨a, rfl, rfl⟩, by rw [rvs_nil]⟩
  · rw [ht]
    exact fun ρ' H' b f r w => by rw [rv_bl] at w; exact w
end Ev
end
section
set_option Elab.async false
set_option linter.all false
set_option maxRecDepth 100000
set_option maxHeartbeats 1000000
/-! The head's facts. -/
namespace Ev
open PySem PySem.Spec PyProof.Rows L2
/-! ### a def, found by a path of one's own -/
structure FD where
  at_ : PySem.W.Frag → Addr
  name : Str
  qual : Str
  st : Stmt
  clo : List Str := []
abbrev FnVal : Type := Option (Str × Str × Arguments × FuncBody × Scope × Addr × Addr × Value × List Str)
def FD.obs (K : PySem.W.Frag) (d : FD) : FnVal := match K.lookup (d.at_ K) with
  | some ⟨_, _, .func fd, _⟩ => some (fd.name, fd.qualname, fd.params, fd.body, fd.scope, fd.globals, fd.builtins, fd.defaults, fd.closure.map (·.1))
  | _ => none
def FD.val (d : FD) : FnVal := some (d.name, d.qual, defArgs d.st, .stmts (defBody d.st), defScope d.st, mainGlobals, builtinsNs, .none, d.clo)
def FD.ok (K : PySem.W.Frag) (d : FD) : Bool := PySem.W.keepIn K (.ref (d.at_ K)) && (match K.lookup (d.at_ K) with
  | some ⟨_, _, .func fd, _⟩ => PySem.W.codeIn K fd.code d.qual
  | _ => false)
theorem FD.get {K : PySem.W.Frag} {d : FD} (e : d.obs K = d.val) (c : d.ok K = true) : PySem.W.keepIn K (.ref (d.at_ K)) = true ∧ ∃ oc od osl kV doc pm an cdv ct clo, K.lookup (d.at_ K) = some ⟨oc, od, .func ⟨d.name, d.qual, defArgs d.st, .stmts (defBody d.st), defScope d.st, mainGlobals, clo, .none, kV, doc, pm, an, cdv, ct, builtinsNs⟩, osl⟩ ∧ clo.map (·.1) = d.clo ∧ PySem.W.codeIn K cdv d.qual = true := by
  obtain ⟨kp, c2⟩ := He.ba c
  refine ⟨kp, ?_⟩
  unfold FD.obs at e
  cases q : K.lookup (d.at_ K) with
  | none => rw [q] at c2; cases c2
  | some o =>
    obtain ⟨oc, od, dt, osl⟩ := o
    rw [q] at c2 e
    cases dt with
    | func fd =>
      obtain ⟨a1, a2, a3, a4, a5, a6, a7, a8, a9, a10, a11, a12, a13, a14, a15⟩ := fd
      have e2 : (some (a1, a2, a3, a4, a5, a6, a15, a8, a7.map (·.1)) : FnVal) = some (d.name, d.qual, defArgs d.st, .stmts (defBody d.st), defScope d.st, mainGlobals, builtinsNs, .none, d.clo) := e
      simp only [Option.some.injEq, Prod.mk.injEq] at e2
      obtain ⟨h1, h2, h3, h4, h5, h6, h7, h8, h9⟩ := e2
      subst h1 h2 h3 h4 h5 h6 h7 h8
      exact ⟨oc, od, osl, a9, a10, a11, a12, a13, a14, a7, rfl, h9, c2⟩
    | _ => cases c2
theorem FD.funD {K : PySem.W.Frag} {d : FD} (e : d.obs K = d.val) (c : d.ok K = true) (hc : d.clo = []) : ∃ fd, FunD K d.name d.qual (defArgs d.st) (defBody d.st) (defScope d.st) [] [] (d.at_ K) fd := by
  obtain ⟨kp, oc, od, osl, kV, doc, pm, an, cdv, ct, clo, lk, h, cd⟩ := FD.get e c
  rw [hc] at h
  have hn : clo = [] := List.map_eq_nil_iff.mp h
  subst hn
  exact ⟨_, ⟨oc, od, .none, kV, doc, pm, an, cdv, ct, osl, rfl, lk, cd, .inl ⟨rfl, rfl⟩, .inl rfl⟩, kp⟩
/-! ### Bool checks -/
def recB (K : PySem.W.Frag) (p : Addr) (T : String) (f : Addr) : Bool := match PySem.W.recIn K p T with
  | some (.ref g :: _) => g == f
  | _ => false
theorem recB_ok {K : PySem.W.Frag} {p f : Addr} {T : String} (h : recB K p T f = true) : ∃ rest, PySem.W.recIn K p T = some (.ref f :: rest) := by
  unfold recB at h
  split at h
  · rename_i g r e
    have : g = f := by simpa using h
    exact ⟨r, by rw [e, this]⟩
  · cases h
def getB (K : PySem.W.Frag) (C : Addr) (m : Str) (kind : String) (p : Addr) : Bool := match PySem.W.findCls K (.ref C) (.type "type") m with
  | some (.get (.builtin g) (.ref q) .none (.ref D)) => g == kind && (q == p && D == C)
  | _ => false
theorem getB_ok {K : PySem.W.Frag} {C p : Addr} {m : Str} {kind : String} (h : getB K C m kind p = true) : PySem.W.findCls K (.ref C) (.type "type") m = some (.get (.builtin kind) (.ref p) .none (.ref C)) := by
  unfold getB at h
  split at h
  · rename_i g q D e
    simp only [Bool.and_eq_true, beq_iff_eq] at h
    obtain ⟨rfl, rfl, rfl⟩ := h
    exact e
  · cases h
def smB (K : PySem.W.Frag) (C m : Str) : Bool := getB K (He.ga K C) m "staticmethod.__get__" (smP K C m) && (recB K (smP K C m) "staticmethod" (smF K C m) && PySem.W.keepIn K (.ref (smF K C m)))
theorem smB_ok {K : PySem.W.Frag} {C m : Str} (h : smB K C m = true) : SMet K (He.ga K C) (.type "type") m (smP K C m) (smF K C m) := by
  obtain ⟨h1, h⟩ := He.ba h
  obtain ⟨h2, h3⟩ := He.ba h
  exact ⟨getB_ok h1, recB_ok h2, h3⟩
def cmB (K : PySem.W.Frag) (C m : Str) : Bool := getB K (He.ga K C) m "classmethod.__get__" (smP K C m) && (recB K (smP K C m) "classmethod" (smF K C m) && PySem.W.fnIn K (smF K C m))
theorem cmB_ok {K : PySem.W.Frag} {C m : Str} (h : cmB K C m = true) : ClX.CMet K (He.ga K C) (.type "type") m (smP K C m) (smF K C m) := by
  obtain ⟨h1, h⟩ := He.ba h
  obtain ⟨h2, h3⟩ := He.ba h
  exact ⟨getB_ok h1, recB_ok h2, h3⟩
def rdB (K : PySem.W.Frag) (C : Str) : Bool := PySem.W.readsIn K (He.ga K C) (.type "type") && He.eqO (PySem.W.specialIn K (.ref (He.ga K C)) "__getattribute__") (some (some (.builtin "type.__getattribute__")))
theorem rdB_ok {K : PySem.W.Frag} {C : Str} (h : rdB K C = true) : ClX.CRead K (He.ga K C) (.type "type") := by
  obtain ⟨h1, h2⟩ := He.ba h
  exact ⟨h1, He.eqO_ok h2⟩
def prB (K : PySem.W.Frag) (C m : Str) : Bool := He.eqO (PySem.W.findIn K (.ref (He.ga K C)) m) (some (some (.ref (prP K C m)))) && (He.eqO (PySem.W.specialIn K (.ref (prP K C m)) "__get__") (some (some (.builtin "property.__get__"))) && (decide (PySem.W.takesIn K (.ref (prP K C m)) = some true) && recB K (prP K C m) "property" (prF K C m)))
theorem prB_ok {K : PySem.W.Frag} {C m : Str} (h : prB K C m = true) : PropOf K (He.ga K C) m (prP K C m) (prF K C m) := by
  obtain ⟨h1, h⟩ := He.ba h
  obtain ⟨h2, h⟩ := He.ba h
  obtain ⟨h3, h4⟩ := He.ba h
  exact ⟨He.eqO_ok h1, He.eqO_ok h2, of_decide_eq_true h3, recB_ok h4⟩
def excB (K : PySem.W.Frag) (C : Addr) : Bool := match K.lookup C with
  | some ⟨.type t, _, .cls cd, sl⟩ => (match cd.mro, sl.toList with
    | .ref D :: bm, [_, _, _, _, some (.builtin n), _] => t == "type" && (D == C && (n == "ValueError.__new__" && (!cd.hasDel && (cd.hasDict && PySem.HandSPX.refsVE bm))))
    | _, _ => false)
  | _ => false
theorem excB_ok {K : PySem.W.Frag} {C : Addr} (h : excB K C = true) : ∃ nm q N bs bm sn sub ab col dd k0 k1 k2 k3 k5, K.lookup C = some (excClassObj nm q C N bs bm true sn sub ab col dd k0 k1 k2 k3 k5 "ValueError.__new__") ∧ PySem.HandSPX.refsVE bm = true := by
  unfold excB at h
  split at h
  · rename_i t dd cd sl ho
    split at h
    · rename_i D bm k0 k1 k2 k3 n k5 hm hs
      simp only [Bool.and_eq_true, beq_iff_eq, Bool.not_eq_true'] at h
      obtain ⟨rfl, rfl, rfl, h4, h5, h6⟩ := h
      obtain ⟨nm, bs, mro, ns, qn, hd, sn, sub, ab, col, del⟩ := cd
      dsimp only at hm h4 h5
      subst hm h4 h5
      obtain ⟨l⟩ := sl
      have hs' : l = [k0, k1, k2, k3, some (.builtin "ValueError.__new__"), k5] := hs
      subst hs'
      exact ⟨nm, qn, ns, bs, bm, sn, sub, ab, col, dd, k0, k1, k2, k3, k5, ho, h6⟩
    · cases h
  · cases h
def oexB (K : PySem.W.Frag) (C : Str) : Bool := excB K (He.ga K C) && (He.eqO (PySem.W.findIn K (.ref (He.ga K C)) "__setattr__") (some (some (.builtin "object.__setattr__"))) && (decide (PySem.W.subIn K (.ref (He.ga K C)) (.type "BaseException") = some true) && (decide (PySem.W.typeIn K (.ref (He.ga K C)) = some (.type "type")) && (PySem.W.keepIn K (.ref (He.ga K C)) &&
  (He.eqO (PySem.W.findIn K (.ref (He.ga K C)) "__init__") (some (some (.ref (He.ma K (He.ga K C) "__init__")))) && decide (PySem.W.typeIn K (.ref (He.ma K (He.ga K C) "__init__")) = some (.type "function")))))))
theorem oexB_ok {K : PySem.W.Frag} {C : Str} (h : oexB K C = true) : OexG K (He.ga K C) := by
  obtain ⟨h1, h⟩ := He.ba h
  obtain ⟨h2, h⟩ := He.ba h
  obtain ⟨h3, h⟩ := He.ba h
  obtain ⟨h4, h⟩ := He.ba h
  obtain ⟨h5, h⟩ := He.ba h
  obtain ⟨h6, h7⟩ := He.ba h
  exact ⟨⟨excB_ok h1, He.eqO_ok h2, of_decide_eq_true h3, of_decide_eq_true h4, h5⟩, He.eqO_ok h6, of_decide_eq_true h7⟩
def tryB (K : PySem.W.Frag) (C : Str) (T : String) (f1 f2 : Str) : Bool := decide (PySem.W.kitCls K (.ref (He.ga K C)) (.type T) = some true) && (xfB K (He.ga K C) && (He.eqO (PySem.W.findIn K (.ref (He.ga K C)) f1) (some none) && (He.eqO (PySem.W.findIn K (.ref (He.ga K C)) f2) (some none) && decide (PySem.W.exmOne K (.ref (He.ga K C)) (.ref (He.ga K C)) = some true))))
theorem tryB_ok {K : PySem.W.Frag} {C : Str} {T : String} {f1 f2 : Str} (h : tryB K C T f1 f2 = true) : TryC K (He.ga K C) T f1 f2 := by
  obtain ⟨h1, h⟩ := He.ba h
  obtain ⟨h2, h⟩ := He.ba h
  obtain ⟨h3, h⟩ := He.ba h
  obtain ⟨h4, h5⟩ := He.ba h
  exact ⟨of_decide_eq_true h1, xfB_ok h2, He.eqO_ok h3, He.eqO_ok h4, of_decide_eq_true h5⟩
/-! super() -/
def fileB (P : Program) (K : PySem.W.Frag) (cda : Addr) : Bool := match K.lookup cda with
  | some ⟨_, _, .fields vs, _⟩ => (match (vs[2]? : Option Value) with
    | some (Value.str file _) => ((P.main.file : Str) == file)
    | _ => false)
  | _ => false
theorem fileB_ok {P : Program} {K : PySem.W.Frag} {cda : Addr} (h : fileB P K cda = true) : ∃ ccl cdd vs ccs file tf, K.lookup cda = some (⟨ccl, cdd, .fields vs, ccs⟩ : Obj) ∧ vs[2]? = some (.str file tf) ∧ ((P.main.file : Str) == file) = true := by
  unfold fileB at h
  split at h
  · rename_i a b vs d e
    split at h
    · rename_i file tf e2
      exact ⟨a, b, vs, d, file, tf, e, e2, h⟩
    · cases h
  · cases h
def cellB (K : PySem.W.Frag) (cc C : Addr) : Bool := match K.lookup cc with
  | some ⟨_, _, .cell (some (.ref D)), _⟩ => D == C
  | _ => false
theorem cellB_ok {K : PySem.W.Frag} {cc C : Addr} (h : cellB K cc C = true) : ∃ cl cld csl, K.lookup cc = some (⟨cl, cld, .cell (some (.ref C)), csl⟩ : Obj) := by
  unfold cellB at h
  split at h
  · rename_i a b D d e
    have : D = C := by simpa using h
    exact ⟨a, b, d, by rw [e, this]⟩
  · cases h
/-- the code object, the cell of __class__ of the def at f -/
def cdaOf (K : PySem.W.Frag) (f : Addr) : Addr := match K.lookup f with
  | some ⟨_, _, .func fd, _⟩ => (match fd.code with
    | .ref c => c
    | _ => 0)
  | _ => 0
def ccOf (K : PySem.W.Frag) (f : Addr) : Addr := match K.lookup f with
  | some ⟨_, _, .func fd, _⟩ => (match fd.closure with
    | [(_, c)] => c
    | _ => 0)
  | _ => 0
def supB (P : Program) (K : PySem.W.Frag) (C : Str) : Bool := fileB P K (cdaOf K (He.ma K (He.ga K C) "__init__")) && (cellB K (ccOf K (He.ma K (He.ga K C) "__init__")) (He.ga K C) && (decide (PySem.W.mroIn K (He.ga K C) (.ref (He.ga K C)) = some true) && (He.eqO (PySem.W.ks_superIn K (He.ga K C) (He.ga K C) "__init__") (some (some (.builtin "ValueError.__init__"))) &&
  (decide (PySem.W.subIn K (.ref (He.ga K C)) (.type "ValueError") = some true) && (He.eqO (PySem.W.nsIn K cStatics "thirdparty.any") (some none) && !(P.main.scope.names.lookup ("super" : Str)).isSome)))))
theorem supB_ok {P : Program} {K : PySem.W.Frag} {mg : Str → Option Value} {C : Str} {st : Stmt} {d : FD} (h : supB P K C = true) (hm : mg "super" = none) (e : d.obs K = d.val) (c : d.ok K = true) (ha : d.at_ K = He.ma K (He.ga K C) "__init__") (hc : d.clo = [("__class__" : Str)]) (hst : d.st = st)
    (hself : ∃ ar, ((defArgs st).posonlyargs ++ (defArgs st).args).head? = some ar ∧ ar.arg = ("self" : Str)) : InitF P K mg (He.ga K C) (He.ma K (He.ga K C) "__init__") d.name d.qual st := by
  obtain ⟨h1, h⟩ := He.ba h
  obtain ⟨h2, h⟩ := He.ba h
  obtain ⟨h3, h⟩ := He.ba h
  obtain ⟨h4, h⟩ := He.ba h
  obtain ⟨h5, h⟩ := He.ba h
  obtain ⟨h6, h7⟩ := He.ba h
  obtain ⟨kp, oc, od, osl, kV, doc, pm, an, cdv, ct, clo, lk, hcl, cd⟩ := FD.get e c
  rw [hc] at hcl
  rw [ha] at lk
  subst hst
  obtain ⟨cda, rfl⟩ := He.codeIn_ref cd
  rcases clo with _ | ⟨⟨n, cc⟩, _ | ⟨z, zs⟩⟩
  · cases hcl
  · have hn : n = "__class__" := by simpa using hcl
    subst hn
    have e1 : cdaOf K (He.ma K (He.ga K C) "__init__") = cda := by unfold cdaOf; rw [lk]
    have e2 : ccOf K (He.ma K (He.ga K C) "__init__") = cc := by unfold ccOf; rw [lk]
    rw [e1] at h1
    rw [e2] at h2
    obtain ⟨ar, a1, a2⟩ := hself
    exact ⟨oc, od, osl, kV, doc, pm, an, ct, cc, cda, lk, cd, ⟨⟨oc, od, osl, _, ar, lk, a1, a2⟩, fileB_ok h1, cellB_ok h2, of_decide_eq_true h3, He.eqO_ok h4, of_decide_eq_true h5, He.eqO_ok h6, hm, by simpa using h7⟩⟩
  · simp at hcl
/-! written dicts -/
theorem ns_miss {P : Params} : ∀ {l : List DictEntry} {ks : List Str} {z : Str}, l.map He.keyOf = He.keysIn P ks → z ∉ ks → l.find? (·.key.isStr z) = none ∧ l.any (·.refKey) = false
  | [], _, _, _, _ => ⟨rfl, rfl⟩
  | e :: r, [], _, h, _ => by cases h
  | e :: r, k :: ks, z, h, hz => by
    have h1 : He.keyOf e :: r.map He.keyOf = some (k, PyData.keyHash P k) :: He.keysIn P ks := h
    injection h1 with h2 h3
    obtain ⟨i1, i2⟩ := ns_miss h3 (fun q => hz (List.mem_cons_of_mem _ q))
    unfold He.keyOf at h2
    split at h2
    · rename_i x t q
      have h4 := Option.some.inj h2
      obtain ⟨h5, h6⟩ := Prod.mk.inj h4
      have ne : (e.key.isStr z) = false := by
        rw [q]
        show (x == z) = false
        rw [h5]
        exact beq_eq_false_iff_ne.mpr fun hh => hz (by rw [← hh]; exact List.mem_cons_self)
      have nr : e.refKey = false := by
        unfold DictEntry.refKey
        rw [q]
      exact ⟨by rw [List.find?_cons, ne]; exact i1, by rw [List.any_cons, nr, i2]; rfl⟩
    · cases h2
theorem ktab_of {γ : Gm} {K : PySem.W.Frag} {w : World} {g : Nat} {x : Str} {kvs : List (Str × He.Dv)} {tab : List (Str × A)} (hγ : γ[g]? = some (He.ga K x)) (hd : He.dicW K (He.ga K x) = some (He.keysIn w.params (kvs.map (·.1)))) (hv : He.valsB K (He.ga K x) kvs = true) (hk : tab.map (·.1) = kvs.map (·.1))
    (hr : ∀ z a, tab.lookup z = some a → ∃ q ∈ kvs, q.1 = z ∧ ∀ ρ H, RV K γ ρ H a (q.2.v K)) : KTab γ K w g tab := by
  obtain ⟨es, n, D⟩ := He.dicW_ok hd
  refine ⟨_, es, n, hγ, D, fun z hz => ?_, fun z a hz => ?_⟩
  · have hn : z ∉ kvs.map (·.1) := by
      rw [← hk]
      intro hm
      obtain ⟨⟨k, v⟩, h1, h2⟩ := List.mem_map.mp hm
      have : ∀ (l : List (Str × A)), (k, v) ∈ l → l.lookup k ≠ none := by
        intro l
        induction l with
        | nil => intro h; cases h
        | cons y ys ih =>
          intro h e
          obtain ⟨k', v'⟩ := y
          rw [List.lookup_cons] at e
          cases hb : k == k' with
          | true => rw [hb] at e; cases e
          | false =>
            rw [hb] at e
            rcases List.mem_cons.mp h with q | q
            · cases q; simp at hb
            · exact ih q e
      have h2' : k = z := h2
      subst h2'
      exact this tab h1 hz
    have hw : He.dicW K (He.ga K x) = some (es.toList.map He.keyOf) := by
      unfold He.dicW
      rw [D.at_]
      simp [D.low]
    rw [hw] at hd
    obtain ⟨m1, m2⟩ := ns_miss (Option.some.inj hd) hn
    unfold PySem.W.nsIn
    rw [D.at_]
    simp only [m1, m2]
    rfl
  · obtain ⟨q, hq, rfl, hrv⟩ := hr z a hz
    obtain ⟨u, e1, e2⟩ := He.valsB_ok hv hq
    exact ⟨u, q.2.v K, e1, e2, hrv⟩
/-! ### the Hook -/
def noLst (K : PySem.W.Frag) : Bool := K.all fun q => !(match q.2.cls with
  | .type t => t == "list"
  | _ => false)
theorem noLst_ok {K : PySem.W.Frag} (h : noLst K = true) {a : Addr} {o : Obj} (e : K.lookup a = some o) : o.cls ≠ .type "list" := fun hc => by
  have := List.all_eq_true.mp h (a, o) (He.lookup_mem e)
  rw [hc] at this
  cases this
def sysB (K : PySem.W.Frag) : Bool := (K.lookup sysModules).isSome
theorem sysB_ok {K : PySem.W.Frag} (h : sysB K = true) (hn : noLst K = true) : SysK K := by
  obtain ⟨o, e⟩ := Option.isSome_iff_exists.mp h
  exact ⟨o, e, noLst_ok hn e⟩
def asU (g : Addr → Option Obj) : Nat → List Addr
  | 0 => [mainGlobals, sysModules, cStatics]
  | n + 1 => He.growD g (asU g n)
abbrev AlU : Type := Bool × List FnVal × List (Option (List (Option (Str × Int))))
def obsU (n : Nat) (fa : List He.Fa) (fn : List FD) (ts : List He.Tab) (tf : List He.Defn) (ex : PySem.W.Frag → Bool) (g : Addr → Option Obj) : AlU :=
  let K := He.frT g (asU g n)
  ((fa.all fun f => f.ok K) && (fn.all (fun d => d.ok K) && (ex K && He.tabsB g tf K)), fn.map (fun d => d.obs K), ts.map fun t => He.dicW K (t.1 K))
def valU (fn : List FD) (ts : List He.Tab) (w : World) : AlU := (true, fn.map FD.val, ts.map fun t => some (He.keysIn w.params t.2))
structure SaysU (fa : List He.Fa) (fn : List FD) (ts : List He.Tab) (tf : List He.Defn) (ex : PySem.W.Frag → Bool) (w : World) (h : Heap) (K : PySem.W.Frag) : Prop where
  fa : ∀ f ∈ fa, f.ok K = true
  ok : ∀ d ∈ fn, d.ok K = true
  fn : ∀ d ∈ fn, d.obs K = d.val
  ex : ex K = true
  ts : ∀ t ∈ ts, He.dicW K (t.1 K) = some (He.keysIn w.params t.2)
  hd : ∀ p ∈ tf, PySem.W.codeHdIn K (He.cT K p).1 (He.cT K p).2 = true
  out : ∀ p ∈ tf, K.lookup (He.cT K p).2 = none
  empty : ∀ p ∈ tf, h.get? (He.cT K p).2 = some { cls := .none, data := .fields #[] }
theorem map_all {α β : Type} {f g : α → β} : ∀ {l : List α}, l.map f = l.map g → ∀ a ∈ l, f a = g a
  | [], _, a, h => by cases h
  | x :: xs, e, a, h => by
    injection e with e1 e2
    rcases List.mem_cons.mp h with q | q
    · rw [q]; exact e1
    · exact map_all e2 a q
theorem saysU_of {n : Nat} {fa : List He.Fa} {fn : List FD} {ts : List He.Tab} {tf : List He.Defn} {ex : PySem.W.Frag → Bool} {w : World} {h : Heap} (e : obsU n fa fn ts tf ex h.get? = valU fn ts w) : SaysU fa fn ts tf ex w h (He.frT h.get? (asU h.get? n)) := by
  generalize hK : He.frT h.get? (asU h.get? n) = K
  unfold obsU valU at e
  simp only [hK, Prod.mk.injEq] at e
  obtain ⟨e1, e2, e3⟩ := e
  obtain ⟨b1, e1⟩ := He.ba e1
  obtain ⟨b2, e1⟩ := He.ba e1
  obtain ⟨b3, b4⟩ := He.ba e1
  have key : ∀ p ∈ tf, PySem.W.codeHdIn K (He.cT K p).1 (He.cT K p).2 = true ∧ ∃ o, h.get? (He.cT K p).2 = some o ∧ He.emptyTab o = true := fun p hp => by
    obtain ⟨h3, h4⟩ := He.ba (List.all_eq_true.mp b4 p hp)
    refine ⟨h3, ?_⟩
    cases q : h.get? (He.cT K p).2 with
    | none => rw [q] at h4; cases h4
    | some o => rw [q] at h4; exact ⟨o, rfl, h4⟩
  refine ⟨fun f hf => List.all_eq_true.mp b1 f hf, fun d hd => List.all_eq_true.mp b2 d hd, map_all e2, b3, map_all e3, fun p hp => (key p hp).1, fun p hp => ?_, fun p hp => ?_⟩
  · obtain ⟨_, o, q, z⟩ := key p hp
    rw [← hK] at q ⊢
    exact He.frT_none q z
  · obtain ⟨_, o, q, z⟩ := key p hp
    rw [q, He.emptyTab_eq z]
def hookU (n : Nat) (fa : List He.Fa) (fn : List FD) (ts : List He.Tab) (tf : List He.Defn) (ex : PySem.W.Frag → Bool) : PySem.W.Hook where
  α := AlU
  obs := fun s => obsU n fa fn ts tf ex s.heap.get?
  val := fun w => valU fn ts w
  says := fun w h => ∃ K : PySem.W.Frag, K.In h ∧ SaysU fa fn ts tf ex w h K
  of := fun _ _ e => ⟨_, He.frT_in, saysU_of e⟩
  keeps := fun _ _ _ ⟨K, hK, c⟩ k => ⟨K, PySem.W.Frag.In.keeps hK k, ⟨c.fa, c.ok, c.fn, c.ex, c.ts, c.hd, c.out, fun p hp => k _ _ (c.empty p hp)⟩⟩
theorem obsU_eq {n : Nat} {fa : List He.Fa} {fn : List FD} {ts : List He.Tab} {tf : List He.Defn} {ex : PySem.W.Frag → Bool} {g : Addr → Option Obj} {s : Shared} (h : ∀ a, g a = s.heap.get? a) : obsU n fa fn ts tf ex g = (hookU n fa fn ts tf ex).obs s := by
  have e : g = s.heap.get? := funext h
  rw [e]; rfl
end Ev
end
section
set_option Elab.async false
set_option linter.all false
set_option maxRecDepth 100000
set_option maxHeartbeats 1000000
namespace Ev
open PySem PySem.Spec PyProof.Rows L2
def dvA : He.Dv → A
  | .int i => .int i
  | .str z => .str z
  | _ => .non
def dvOk : He.Dv → Bool
  | .int _ => true
  | .str _ => true
  | _ => false
theorem look_dv {K : PySem.W.Frag} {γ : Gm} {z : Str} {a : A} : ∀ {kvs : List (Str × He.Dv)}, kvs.all (fun q => dvOk q.2) = true → (kvs.map fun q => (q.1, dvA q.2)).lookup z = some a → ∃ q ∈ kvs, q.1 = z ∧ ∀ ρ H, RV K γ ρ H a (q.2.v K)
  | [], _, h => by cases h
  | (k, d) :: r, hk, h => by
    rw [List.all_cons, Bool.and_eq_true] at hk
    rw [List.map_cons, List.lookup_cons] at h
    cases hz : z == k with
    | true =>
      rw [hz] at h
      have e1 : z = k := by simpa using hz
      have e2 : dvA d = a := by simpa using h
      refine ⟨(k, d), List.mem_cons_self, e1.symm, fun ρ H => ?_⟩
      rw [← e2]
      cases d with
      | int i => show RV _ _ _ _ (.int i) (.int i); rw [rv_int]
      | str i => show RV _ _ _ _ (.str i) (.str i); rw [rv_str]
      | _ => exact absurd (show false = true from hk.1) Bool.false_ne_true
    | false =>
      rw [hz] at h
      obtain ⟨q, h1, h2, h3⟩ := look_dv hk.2 h
      exact ⟨q, List.mem_cons_of_mem _ h1, h2, h3⟩
theorem ktab_by {γ : Gm} {K : PySem.W.Frag} {w : World} {g : Nat} {x : Str} {tab : List (Str × A)} (kvs : List (Str × He.Dv)) (hγ : γ[g]? = some (He.ga K x)) (hd : He.dicW K (He.ga K x) = some (He.keysIn w.params (kvs.map (·.1)))) (hv : He.valsB K (He.ga K x) kvs = true) (ht : tab = kvs.map fun q => (q.1, dvA q.2)) (ho : kvs.all (fun q => dvOk q.2) = true) : KTab γ K w g tab := by
  refine ktab_of hγ hd hv ?_ fun z a hz => ?_
  · rw [ht, List.map_map]; rfl
  · rw [ht] at hz
    exact look_dv ho hz
theorem tup_by {K : PySem.W.Frag} {x : Str} {vs : List He.Dv} (h : He.tupB K x vs = true) : SqT K (fun _ => none) (He.ga K x) (vs.map (He.Dv.v K)) := He.tupB_ok h _
def isoB (K : PySem.W.Frag) (C : Str) (tb : List String) : Bool := tb.all fun n => decide (PySem.W.kitOne K (.type n) (.ref (He.ga K C)) = some false)
theorem isoB_ok {γ : Gm} {K : PySem.W.Frag} {g : Nat} {C : Str} {tb : List String} (h : isoB K C tb = true) (hγ : γ[g]? = some (He.ga K C)) : IsOwn γ K g tb [] := by
  refine ⟨fun n hn D hD => ?_, fun p hp => by cases hp⟩
  rw [hγ] at hD
  cases hD
  exact of_decide_eq_true (List.all_eq_true.mp h n hn)
def aliB (K : PySem.W.Frag) (x y : Str) : Bool := He.eqO (PySem.W.nsIn K mainGlobals x) (some (some (.ref (He.ga K y))))
theorem aliB_ok {K : PySem.W.Frag} {h : Heap} {mg : Str → Option Value} {x y : Str} (X : K.In h) (G : h.Ns mainGlobals mg) (c : aliB K x y = true) : mg x = some (.ref (He.ga K y)) := PySem.W.mg_of X G (He.eqO_ok c)
/-- the law's tracked objects at the start -/
theorem rep0 {K : PySem.W.Frag} {γ : Gm} {tabs : List Addr} {a : Addr} {ob : Obj} {ns : List Int} (hT : ∀ p ∈ γ.T, p.1 ∈ tabs ∧ p.1 ≠ a) : Rep K γ [a] ([.ro (ns.map .int)] ++ []) (H0 tabs a ob (ns.map V.int)) := by
  refine ⟨rfl, by simp, fun n b o hb ho => ?_, fun p hp => ?_⟩
  · cases n with
    | zero =>
      have e1 : a = b := by simpa using hb
      have e2 : O.ro (ns.map .int) = o := by simpa using ho
      subst e1 e2
      exact ⟨ns.map V.int, .inr ⟨ob, by unfold H0; rw [if_pos rfl]⟩, rvs_ints ns⟩
    | succ n => simp at hb
  · obtain ⟨h1, h2⟩ := hT p hp
    refine LamX.TabS.nil ?_
    unfold H0
    rw [if_neg h2, if_pos h1]
end Ev
end
section
set_option Elab.async false
set_option linter.all false
set_option maxRecDepth 100000
set_option maxHeartbeats 1000000
/-! Objects that nobody needs are forgotten; a def sees only what its arguments reach. -/
namespace Ev
open PySem PySem.Spec PyProof.Rows L2
mutual
def refsA : A → List Nat
  | .ref n => [n]
  | .tup xs => refsAs xs
  | .ktup xs => refsAs xs
  | _ => []
def refsAs : List A → List Nat
  | [] => []
  | x :: xs => refsA x ++ refsAs xs
end
mutual
def ren (f : Nat → Nat) : A → A
  | .ref n => .ref (f n)
  | .tup xs => .tup (rens f xs)
  | .ktup xs => .ktup (rens f xs)
  | .non => .non
  | .bl b => .bl b
  | .int i => .int i
  | .str x => .str x
  | .ty n => .ty n
  | .glo g => .glo g
def rens (f : Nat → Nat) : List A → List A
  | [] => []
  | x :: xs => ren f x :: rens f xs
end
def renK {κ : Type} (f : Nat → Nat) (kvs : List (κ × A)) : List (κ × A) := kvs.map fun q => (q.1, ren f q.2)
def refsK {κ : Type} (kvs : List (κ × A)) : List Nat := kvs.flatMap fun q => refsA q.2
def renO (f : Nat → Nat) : O → O
  | .lst xs => .lst (rens f xs)
  | .dic kvs => .dic (renK f kvs)
  | .dicT kvs => .dicT (renK f kvs)
  | .ins c fs => .ins c (renK f fs)
  | .ro xs => .ro (rens f xs)
  | .dro kvs => .dro (renK f kvs)
  | .droT kvs => .droT (renK f kvs)
  | .fz kvs => .fz (renK f kvs)
def refsO : O → List Nat
  | .lst xs => refsAs xs
  | .dic kvs => refsK kvs
  | .dicT kvs => refsK kvs
  | .ins _ fs => refsK fs
  | .ro xs => refsAs xs
  | .dro kvs => refsK kvs
  | .droT kvs => refsK kvs
  | .fz kvs => refsK kvs
section
variable {K : PySem.W.Frag} {γ : Gm} {ρ ρ1 : List Addr} {H : Hp} {f : Nat → Nat}
mutual
theorem RV.ren : ∀ (a : A) (v : V), (∀ i ∈ refsA a, ∀ x, ρ[i]? = some x → ρ1[f i]? = some x) → RV K γ ρ H a v → RV K γ ρ1 H (ren f a) v
  | .non, _, _, h => by simpa [RV, Ev.ren] using h
  | .bl _, _, _, h => by simpa [RV, Ev.ren] using h
  | .int _, _, _, h => by simpa [RV, Ev.ren] using h
  | .str _, _, _, h => by simpa [RV, Ev.ren] using h
  | .ty _, _, _, h => by simpa [RV, Ev.ren] using h
  | .glo _, _, _, h => by simpa [RV, Ev.ren] using h
  | .ref n, _, hr, h => by
    unfold Ev.ren
    rw [rv_ref] at h ⊢
    obtain ⟨a, e, q⟩ := h
    exact ⟨a, hr n (by simp [refsA]) a e, q⟩
  | .tup xs, _, hr, h => by
    unfold Ev.ren
    rw [rv_tup] at h ⊢
    obtain ⟨p, vs, e, t, q⟩ := h
    exact ⟨p, vs, e, t, RVs.ren xs vs (fun i hi => hr i (by simpa [refsA] using hi)) q⟩
  | .ktup xs, _, hr, h => by
    unfold Ev.ren
    rw [rv_ktup] at h ⊢
    obtain ⟨p, vs, e, t, q⟩ := h
    exact ⟨p, vs, e, t, RVs.ren xs vs (fun i hi => hr i (by simpa [refsA] using hi)) q⟩
theorem RVs.ren : ∀ (xs : List A) (vs : List V), (∀ i ∈ refsAs xs, ∀ x, ρ[i]? = some x → ρ1[f i]? = some x) → RVs K γ ρ H xs vs → RVs K γ ρ1 H (rens f xs) vs
  | [], _, _, h => by
    rw [rvs_nil] at h
    unfold rens
    rw [rvs_nil]; exact h
  | x :: xs, _, hr, h => by
    rw [rvs_cons] at h
    unfold rens
    rw [rvs_cons]
    obtain ⟨v, r, e, q1, q2⟩ := h
    exact ⟨v, r, e, RV.ren x v (fun i hi => hr i (by simp [refsAs, hi])) q1, RVs.ren xs r (fun i hi => hr i (by simp [refsAs, hi])) q2⟩
end
theorem RKs.ren {κ : Type} : ∀ (kvs : List (κ × A)) (vs : List (κ × V)), (∀ i ∈ refsK kvs, ∀ x, ρ[i]? = some x → ρ1[f i]? = some x) → RKs K γ ρ H kvs vs → RKs K γ ρ1 H (renK f kvs) vs
  | [], _, _, h => h
  | x :: xs, _, hr, h => by
    obtain ⟨v, r, e, q1, q2⟩ := h
    exact ⟨v, r, e, RV.ren _ v (fun i hi => hr i (by simp [refsK, hi])) q1, RKs.ren xs r (fun i hi => hr i (by
      simp only [refsK, List.flatMap_cons, List.mem_append]
      exact .inr hi)) q2⟩
theorem RO.ren {o : O} {a : Addr} (hr : ∀ i ∈ refsO o, ∀ x, ρ[i]? = some x → ρ1[f i]? = some x) (h : RO K γ ρ H o a) : RO K γ ρ1 H (renO f o) a := by
  cases o with
  | lst xs => obtain ⟨vs, z, q⟩ := h; exact ⟨vs, z, RVs.ren _ _ hr q⟩
  | dic xs => obtain ⟨vs, z, q⟩ := h; exact ⟨vs, z, RKs.ren _ _ hr q⟩
  | dicT xs => obtain ⟨vs, z, q⟩ := h; exact ⟨vs, z, RKs.ren _ _ hr q⟩
  | ins c xs => obtain ⟨C, dx, vs, g, z, q⟩ := h; exact ⟨C, dx, vs, g, z, RKs.ren _ _ hr q⟩
  | ro xs => obtain ⟨vs, z, q⟩ := h; exact ⟨vs, z, RVs.ren _ _ hr q⟩
  | dro xs => obtain ⟨vs, z, q⟩ := h; exact ⟨vs, z, RKs.ren _ _ hr q⟩
  | droT xs => obtain ⟨vs, z, q⟩ := h; exact ⟨vs, z, RKs.ren _ _ hr q⟩
  | fz xs => obtain ⟨o, vs, z, q⟩ := h; exact ⟨o, vs, z, RKs.ren _ _ hr q⟩
end
/-! the same numbers -/
mutual
theorem ren_id : ∀ a : A, ren (fun i => i) a = a
  | .ref n => rfl
  | .tup xs => by unfold ren; rw [rens_id xs]
  | .ktup xs => by unfold ren; rw [rens_id xs]
  | .non => rfl
  | .bl _ => rfl
  | .int _ => rfl
  | .str _ => rfl
  | .ty _ => rfl
  | .glo _ => rfl
theorem rens_id : ∀ xs : List A, rens (fun i => i) xs = xs
  | [] => rfl
  | x :: xs => by unfold rens; rw [ren_id x, rens_id xs]
end
theorem renK_id {κ : Type} (kvs : List (κ × A)) : renK (fun i => i) kvs = kvs := by
  unfold renK
  simp [ren_id]
theorem renO_id (o : O) : renO (fun i => i) o = o := by cases o <;> simp [renO, rens_id, renK_id]
section
variable {K : PySem.W.Frag} {γ : Gm} {ρ ρ1 : List Addr} {H : Hp}
theorem RV.sub {a : A} {v : V} (h : RV K γ ρ H a v) (hr : ∀ i ∈ refsA a, ∀ x, ρ[i]? = some x → ρ1[i]? = some x) : RV K γ ρ1 H a v := by
  have := RV.ren (f := fun i => i) a v hr h
  rwa [ren_id] at this
theorem RO.sub {o : O} {a : Addr} (h : RO K γ ρ H o a) (hr : ∀ i ∈ refsO o, ∀ x, ρ[i]? = some x → ρ1[i]? = some x) : RO K γ ρ1 H o a := by
  have := RO.ren (f := fun i => i) hr h
  rwa [renO_id] at this
end
/-! ### cut: the objects behind n are forgotten -/
def below (n : Nat) (a : A) : Bool := (refsA a).all fun i => decide (i < n)
def belowO (n : Nat) (o : O) : Bool := (refsO o).all fun i => decide (i < n)
theorem take_get {l : List Addr} {n i : Nat} {x : Addr} (h : l[i]? = some x) (hi : i < n) : (l.take n)[i]? = some x := by rw [List.getElem?_take_of_lt hi]; exact h
section
variable {K : PySem.W.Frag} {γ : Gm} {ρ ρ' : List Addr} {hp : List O} {H H' : Hp}
theorem RV.cut {n : Nat} {a : A} {v : V} (h : RV K γ ρ H a v) (hb : below n a = true) : RV K γ (ρ.take n) H a v :=
  h.sub fun i hi x e => take_get e (of_decide_eq_true (List.all_eq_true.mp hb i hi))
theorem Rep.cut {n : Nat} (R : Rep K γ ρ hp H) (hb : (hp.take n).all (belowO n) = true) : Rep K γ (ρ.take n) (hp.take n) H := by
  refine ⟨by simp [R.len], R.nd.sublist (List.take_sublist _ _), fun i a o hi ho => ?_, R.tab⟩
  have hl : i < n := by
    have h1 := (List.getElem?_eq_some_iff.mp hi).1
    rw [List.length_take] at h1
    omega
  rw [List.getElem?_take_of_lt hl] at hi
  have hm := List.all_eq_true.mp hb o (List.mem_of_getElem? ho)
  rw [List.getElem?_take_of_lt hl] at ho
  exact (R.ob i a o hi ho).sub fun j hj x e => take_get e (of_decide_eq_true (List.all_eq_true.mp hm j hj))
theorem Fwd.cut {nb n : Nat} (f : Fwd nb ρ H ρ' H') (hn : ρ.length ≤ n) : Fwd nb ρ H (ρ'.take n) H' := by
  obtain ⟨m, e⟩ := f.ext
  refine ⟨⟨m.take (n - ρ.length), ?_⟩, fun a ha hq => f.new a (List.mem_of_mem_take ha) hq, f.kept, f.occ, f.frz, f.bs⟩
  rw [e, List.take_append, List.take_of_length_le hn]
end
theorem cut_top {B t' : List O} {k : Nat} : (B ++ t').take (B.length + k) = B ++ t'.take k := by
  rw [List.take_append, List.take_of_length_le (Nat.le_add_right _ _), Nat.add_sub_cancel_left]
section
variable {K : PySem.W.Frag} {γ : Gm} {ρ : List Addr} {H : Hp}
mutual
theorem RV.lt : ∀ (a : A) (v : V), RV K γ ρ H a v → ∀ i ∈ refsA a, i < ρ.length
  | .ref n, _, h, i, hi => by
    rw [rv_ref] at h
    obtain ⟨a, e, _⟩ := h
    have : i = n := by simpa [refsA] using hi
    rw [this]; exact (List.getElem?_eq_some_iff.mp e).1
  | .tup xs, _, h, i, hi => by
    rw [rv_tup] at h
    obtain ⟨_, vs, _, _, q⟩ := h
    exact RVs.lt xs vs q i (by simpa [refsA] using hi)
  | .ktup xs, _, h, i, hi => by
    rw [rv_ktup] at h
    obtain ⟨_, vs, _, _, q⟩ := h
    exact RVs.lt xs vs q i (by simpa [refsA] using hi)
  | .non, _, _, i, hi => by simp [refsA] at hi
  | .bl _, _, _, i, hi => by simp [refsA] at hi
  | .int _, _, _, i, hi => by simp [refsA] at hi
  | .str _, _, _, i, hi => by simp [refsA] at hi
  | .ty _, _, _, i, hi => by simp [refsA] at hi
  | .glo _, _, _, i, hi => by simp [refsA] at hi
theorem RVs.lt : ∀ (xs : List A) (vs : List V), RVs K γ ρ H xs vs → ∀ i ∈ refsAs xs, i < ρ.length
  | [], _, _, i, hi => by simp [refsAs] at hi
  | x :: xs, _, h, i, hi => by
    rw [rvs_cons] at h
    obtain ⟨v, r, _, q1, q2⟩ := h
    have hi' : i ∈ refsA x ∨ i ∈ refsAs xs := by simpa [refsAs] using hi
    rcases hi' with z | z
    · exact RV.lt x v q1 i z
    · exact RVs.lt xs r q2 i z
end
theorem RKs.lt {κ : Type} : ∀ (xs : List (κ × A)) (vs : List (κ × V)), RKs K γ ρ H xs vs → ∀ i ∈ refsK xs, i < ρ.length
  | [], _, _, i, hi => by simp [refsK] at hi
  | x :: xs, _, h, i, hi => by
    obtain ⟨v, r, _, q1, q2⟩ := h
    have hi' : i ∈ refsA x.2 ∨ i ∈ refsK xs := by simpa [refsK] using hi
    rcases hi' with z | z
    · exact RV.lt _ v q1 i z
    · exact RKs.lt xs r q2 i z
theorem RO.lt {o : O} {a : Addr} (h : RO K γ ρ H o a) : ∀ i ∈ refsO o, i < ρ.length := by
  cases o with
  | lst xs => obtain ⟨vs, z, q⟩ := h; exact RVs.lt _ _ q
  | dic xs => obtain ⟨vs, z, q⟩ := h; exact RKs.lt _ _ q
  | dicT xs => obtain ⟨vs, z, q⟩ := h; exact RKs.lt _ _ q
  | ins c xs => obtain ⟨C, dx, vs, g, z, q⟩ := h; exact RKs.lt _ _ q
  | ro xs => obtain ⟨vs, z, q⟩ := h; exact RVs.lt _ _ q
  | dro xs => obtain ⟨vs, z, q⟩ := h; exact RKs.lt _ _ q
  | droT xs => obtain ⟨vs, z, q⟩ := h; exact RKs.lt _ _ q
  | fz xs => obtain ⟨o, vs, z, q⟩ := h; exact RKs.lt _ _ q
/-- our objects name none but ours -/
theorem Rep.below {hp : List O} (R : Rep K γ ρ hp H) : hp.all (belowO hp.length) = true := by
  refine List.all_eq_true.mpr fun o ho => ?_
  obtain ⟨n, hn⟩ := List.getElem?_of_mem ho
  have hl : n < ρ.length := by rw [R.len]; exact (List.getElem?_eq_some_iff.mp hn).1
  unfold belowO
  refine List.all_eq_true.mpr fun i hi => decide_eq_true ?_
  rw [← R.len]
  exact (R.ob n ρ[n] o (List.getElem?_eq_getElem hl) hn).lt i hi
end
open Classical in
/-- the new objects are forgotten where nothing that stays names them -/
noncomputable def cutR {α : Type} (ok : Nat → α → Bool) (B t : List O) (r : Res α) : Res α := match r with
  | .ok a t' => if (ok (B.length + t.length) a && (B ++ t'.take t.length).all (belowO (B.length + t.length))) = true then .ok a (t'.take t.length) else if ok (B.length + t.length) a = true ∧ t'.take t.length = t then .ok a t else .ok a t'
  | r => r
theorem cutR_ok {α β : Type} {K : PySem.W.Frag} {γ : Gm} {E : XK} {B t : List O} {R : List Addr → Hp → α → β → Prop} {ok : Nat → α → Bool} (hR : ∀ n ρ H a b, ok n a = true → R ρ H a b → R (ρ.take n) H a b) {Q : β → Hp → Prop} {r : Res α} {ρ : List Addr} {H : Hp} (rp : Rep K γ ρ (B ++ t) H)
    (p : Post K γ E B R Q (cutR ok B t r) ρ H) : Post K γ E B R Q r ρ H := by
  cases r with
  | exc c fs t' => exact p
  | bad => exact p
  | ok a t' =>
    simp only [cutR] at p
    have e := cut_top (B := B) (t' := t') (k := t.length)
    have hl : ρ.length = B.length + t.length := by rw [rp.len, List.length_append]
    by_cases h : (ok (B.length + t.length) a && (B ++ t'.take t.length).all (belowO (B.length + t.length))) = true
    · rw [if_pos h] at p
      rw [Bool.and_eq_true] at h
      intro ρ' H' b f r' w
      refine p (ρ'.take (B.length + t.length)) H' b (f.cut (by omega)) ?_ (hR _ _ _ _ _ h.1 w)
      rw [← e]
      exact r'.cut (by rw [e]; exact h.2)
    · rw [if_neg h] at p
      by_cases h2 : ok (B.length + t.length) a = true ∧ t'.take t.length = t
      · have hb := rp.below
        rw [List.length_append] at hb
        rw [h2.1, h2.2, hb] at h
        exact absurd rfl h
      · rw [if_neg h2] at p; exact p
theorem cutR_same {α : Type} {ok : Nat → α → Bool} {B t t' : List O} {a : α} (h : ok (B.length + t.length) a = true) (ht : t'.take t.length = t) : cutR ok B t (.ok a t') = .ok a t := by
  simp only [cutR]
  by_cases h1 : (ok (B.length + t.length) a && (B ++ t'.take t.length).all (belowO (B.length + t.length))) = true
  · rw [if_pos h1, ht]
  · rw [if_neg h1, if_pos ⟨h, ht⟩]
/-- a def's garbage is forgotten -/
noncomputable def gcF (mf : MF) : MF := fun B as t => cutR below B t (mf B as t)
theorem spOf_gc {K : PySem.W.Frag} {γ : Gm} {n : Nat} {mf : MF} (vs : List V) (H : Hp) (Q : VK) (E : XK) (h : spOf K γ n (gcF mf) vs H Q E) : spOf K γ n mf vs H Q E := by
  obtain ⟨ρ, B, t, as, hl, r, w, p⟩ := h
  exact ⟨ρ, B, t, as, hl, r, w, cutR_ok (fun n ρ H a b h1 h2 => RV.cut h2 h1) r p⟩
theorem FnS.gc {P : Program} {w : World} {K : PySem.W.Frag} {mg : Str → Option Value} {base : Heap} {γ : Gm} {k : Nat} {f : Addr} {ps : List Str} {n : Nat} {mf : MF} (F : FnS P w K mg base γ k f ps n mf) : FnS P w K mg base γ k f ps n (gcF mf) := by
  obtain ⟨fd, F, hb⟩ := F.ok
  exact ⟨fd, F.imp fun vs H Q E h => spOf_gc vs H Q E h, hb⟩
/-! a statement's own names and objects are forgotten -/
def kill (vs : List Nat) (s : Sl) : Sl := vs.foldl (fun s i => s.set i none) s
def belowN (n : Nat) : Option A → Bool
  | some a => below n a
  | none => true
def belowS (n : Nat) (s : Sl) : Bool := s.all (belowN n)
def okFl (n : Nat) : Fl → Bool
  | .nx s => belowS n s
  | .rt a => below n a
  | .bk s => belowS n s
  | .ct s => belowS n s
def killFl (vs : List Nat) : Fl → Fl
  | .nx s => .nx (kill vs s)
  | .rt a => .rt a
  | .bk s => .bk (kill vs s)
  | .ct s => .ct (kill vs s)
noncomputable def mScope (B : List O) (vs : List Nat) (m : MS) : MS := fun s t => cutR okFl B t ((m s t).bind fun fl t1 => .ok (killFl vs fl) t1)
section
variable {K : PySem.W.Frag} {γ : Gm} {ρ : List Addr} {H : Hp}
theorem RS.cut {n : Nat} : ∀ {s : Sl} {σ : L2.St}, belowS n s = true → RS K γ ρ H s σ → RS K γ (ρ.take n) H s σ
  | [], _, _, h => h
  | x :: xs, _, hb, h => by
    obtain ⟨v, r, rfl, q1, q2⟩ := h
    have hb' : (belowN n x && belowS n xs) = true := hb
    rw [Bool.and_eq_true] at hb'
    refine ⟨v, r, rfl, fun a ha => ?_, RS.cut hb'.2 q2⟩
    obtain ⟨u, e, w⟩ := q1 a ha
    subst ha
    exact ⟨u, e, w.cut hb'.1⟩
theorem RS.setNone {i : Nat} : ∀ {s : Sl} {σ : L2.St} (i : Nat), RS K γ ρ H s σ → RS K γ ρ H (s.set i none) σ
  | [], _, _, h => h
  | x :: xs, _, 0, h => by
    obtain ⟨v, r, rfl, q1, q2⟩ := h
    exact ⟨v, r, rfl, (fun a ha => by cases ha), q2⟩
  | x :: xs, _, i + 1, h => by
    obtain ⟨v, r, rfl, q1, q2⟩ := h
    exact ⟨v, r, rfl, q1, RS.setNone (i := i) i q2⟩
theorem RS.kill : ∀ (vs : List Nat) {s : Sl} {σ : L2.St}, RS K γ ρ H s σ → RS K γ ρ H (Ev.kill vs s) σ
  | [], _, _, h => h
  | i :: vs, _, _, h => RS.kill vs (RS.setNone (i := i) i h)
end
theorem ss_scope {c : Cc} {X : Cx} {st : List Stmt} {m : MS} (vs : List Nat) (h : SSs c X st m) : SSs c X st (mScope c.B vs m) := by
  refine PSs.imp h fun D σ H ⟨ρ, σa, t, r, s, p⟩ => ⟨ρ, σa, t, r, s, ?_⟩
  have p1 := cutR_ok (R := RF X.K c.γ) (ok := okFl) (fun n ρ H a b h1 h2 => by
    cases a <;> cases b <;> first | exact RS.cut h1 h2 | exact RV.cut h2 h1 | exact h2.elim) r p
  refine Post.bind (R' := RF X.K c.γ) (Q' := QD D) (k := fun fl t1 => .ok (killFl vs fl) t1) p1 fun fl t1 ρ' H' fv _ f r' w q => ?_
  refine q ρ' H' fv (Fwd.refl _ _) r' ?_
  cases fl <;> cases fv <;> first | exact RS.kill vs w | exact w | exact w.elim
end Ev
end
section
set_option Elab.async false
set_option linter.all false
set_option maxRecDepth 100000
set_option maxHeartbeats 1000000
/-! A def runs over the objects that its arguments reach, numbered anew. -/
namespace Ev
open PySem PySem.Spec PyProof.Rows L2
def idx (is : List Nat) (i : Nat) : Nat := is.idxOf i
def bk (is : List Nat) (n k : Nat) : Nat := match is[k]? with
  | some i => i
  | none => n + (k - is.length)
def setO (nb : Nat) : List Nat → List O → List O → List O
  | i :: is, o :: os, t => setO nb is os (t.set (i - nb) o)
  | _, _, t => t
def pack (hp : List O) (is : List Nat) : List O := is.map fun i => renO (idx is) (hp.getD i (.lst []))
def okIs (nb : Nat) (hp : List O) (is : List Nat) (as : List A) : Bool := decide is.Nodup && (is.all (fun i => decide (nb ≤ i) && (match hp[i]? with
  | some o => (refsO o).all (fun j => is.contains j)
  | none => false)) && (refsAs as).all (fun j => is.contains j))
def reach (hp : List O) : Nat → List Nat → List Nat
  | 0, is => is
  | n + 1, is => reach hp n (is ++ is.flatMap fun i => match hp[i]? with
    | some o => refsO o
    | none => []).eraseDups
def unpack (B t : List O) (is : List Nat) (t0 : List O) : List O := setO B.length is ((t0.take is.length).map (renO (bk is (B.length + t.length)))) t ++ (t0.drop is.length).map (renO (bk is (B.length + t.length)))
def frF (mf : MF) : MF := fun B as t =>
  if okIs B.length (B ++ t) (reach (B ++ t) 6 (refsAs as).eraseDups) as = true then
    (match mf [] (rens (idx (reach (B ++ t) 6 (refsAs as).eraseDups)) as) (pack (B ++ t) (reach (B ++ t) 6 (refsAs as).eraseDups)) with
    | .ok v t0 => if (reach (B ++ t) 6 (refsAs as).eraseDups).length ≤ t0.length then .ok (ren (bk (reach (B ++ t) 6 (refsAs as).eraseDups) (B.length + t.length)) v) (unpack B t (reach (B ++ t) 6 (refsAs as).eraseDups) t0) else .bad
    | .exc c fs t0 => if (reach (B ++ t) 6 (refsAs as).eraseDups).length ≤ t0.length then .exc c (renK (bk (reach (B ++ t) 6 (refsAs as).eraseDups) (B.length + t.length)) fs) (unpack B t (reach (B ++ t) 6 (refsAs as).eraseDups) t0) else .bad
    | .bad => .bad)
  else mf B as t
theorem setO_len (nb : Nat) : ∀ (is : List Nat) (os t : List O), (setO nb is os t).length = t.length
  | [], _, _ => rfl
  | _ :: _, [], _ => rfl
  | i :: is, o :: os, t => by unfold setO; rw [setO_len nb is os, List.length_set]
theorem setO_out (nb : Nat) {j : Nat} : ∀ (is : List Nat) (os t : List O), (∀ i ∈ is, nb ≤ i) → nb + j ∉ is → (setO nb is os t)[j]? = t[j]?
  | [], _, _, _, _ => rfl
  | _ :: _, [], _, _, _ => rfl
  | i :: is, o :: os, t, hb, hj => by
    unfold setO
    have h1 := hb i List.mem_cons_self
    have hne : i - nb ≠ j := fun z => hj (by rw [← z]; rw [Nat.add_sub_cancel' h1]; exact List.mem_cons_self)
    rw [setO_out nb is os _ (fun k hk => hb k (List.mem_cons_of_mem _ hk)) (fun z => hj (List.mem_cons_of_mem _ z)), List.getElem?_set_ne hne]
theorem setO_in (nb : Nat) {i k : Nat} : ∀ (is : List Nat) (os t : List O), (∀ i ∈ is, nb ≤ i) → is.Nodup → is.length ≤ os.length → is[k]? = some i → i - nb < t.length → (setO nb is os t)[i - nb]? = os[k]?
  | [], _, _, _, _, _, h, _ => by simp at h
  | x :: is, [], _, _, _, hl, _, _ => by simp at hl
  | x :: is, o :: os, t, hb, hn, hl, hk, ht => by
    unfold setO
    have hx := hb x List.mem_cons_self
    rw [List.nodup_cons] at hn
    cases k with
    | zero =>
      have e : x = i := by simpa using hk
      subst e
      rw [setO_out nb is os _ (fun k hk => hb k (List.mem_cons_of_mem _ hk)) (by rw [Nat.add_sub_cancel' hx]; exact hn.1), List.getElem?_set_self ht]
      rfl
    | succ k =>
      have hk' : is[k]? = some i := by simpa using hk
      rw [setO_in nb is os _ (fun k hk => hb k (List.mem_cons_of_mem _ hk)) hn.2 (by simpa using hl) hk' (by rw [List.length_set]; exact ht)]
      rfl
theorem idx_get {is : List Nat} {i : Nat} (h : i ∈ is) : is[idx is i]? = some i := by
  unfold idx
  have hl : is.idxOf i < is.length := List.idxOf_lt_length_iff.mpr h
  rw [List.getElem?_eq_getElem hl, List.getElem_idxOf]
section
variable {K : PySem.W.Frag} {γ : Gm} {ρ : List Addr} {H : Hp} {B t : List O} {is : List Nat} {as : List A}
structure Packed (B t : List O) (is : List Nat) (as : List A) : Prop where
  nd : is.Nodup
  lo : ∀ i ∈ is, B.length ≤ i
  ob : ∀ i ∈ is, ∃ o, (B ++ t)[i]? = some o ∧ ∀ j ∈ refsO o, j ∈ is
  ar : ∀ j ∈ refsAs as, j ∈ is
theorem packed_of (h : okIs B.length (B ++ t) is as = true) : Packed B t is as := by
  unfold okIs at h
  obtain ⟨h1, h⟩ := He.ba h
  obtain ⟨h2, h3⟩ := He.ba h
  have key : ∀ i ∈ is, B.length ≤ i ∧ ∃ o, (B ++ t)[i]? = some o ∧ ∀ j ∈ refsO o, j ∈ is := fun i hi => by
    obtain ⟨a, b⟩ := He.ba (List.all_eq_true.mp h2 i hi)
    refine ⟨of_decide_eq_true a, ?_⟩
    cases e : (B ++ t)[i]? with
    | none => rw [e] at b; cases b
    | some o =>
      rw [e] at b
      exact ⟨o, rfl, fun j hj => by simpa using List.all_eq_true.mp b j hj⟩
  exact ⟨of_decide_eq_true h1, fun i hi => (key i hi).1, fun i hi => (key i hi).2, fun j hj => by simpa using List.all_eq_true.mp h3 j hj⟩
def packR (ρ : List Addr) (is : List Nat) : List Addr := is.map fun i => ρ.getD i 0
theorem packR_get (R : Rep K γ ρ (B ++ t) H) (P : Packed B t is as) {k i : Nat} (h : is[k]? = some i) : ∃ x, ρ[i]? = some x ∧ (packR ρ is)[k]? = some x := by
  obtain ⟨o, e, _⟩ := P.ob i (List.mem_of_getElem? h)
  have hl : i < ρ.length := by rw [R.len]; exact (List.getElem?_eq_some_iff.mp e).1
  refine ⟨ρ[i], List.getElem?_eq_getElem hl, ?_⟩
  unfold packR
  rw [List.getElem?_map, h]
  simp [hl]
theorem packR_fwd (R : Rep K γ ρ (B ++ t) H) (P : Packed B t is as) {i : Nat} (hi : i ∈ is) {x : Addr} (h : ρ[i]? = some x) : (packR ρ is)[idx is i]? = some x := by
  obtain ⟨y, e1, e2⟩ := packR_get R P (idx_get hi)
  rw [h] at e1
  cases e1
  exact e2
theorem packR_mem (R : Rep K γ ρ (B ++ t) H) (P : Packed B t is as) {a : Addr} (h : a ∈ packR ρ is) : ∃ i ∈ is, ρ[i]? = some a := by
  unfold packR at h
  obtain ⟨i, hi, e⟩ := List.mem_map.mp h
  obtain ⟨o, e1, _⟩ := P.ob i hi
  have hl : i < ρ.length := by rw [R.len]; exact (List.getElem?_eq_some_iff.mp e1).1
  exact ⟨i, hi, by rw [List.getElem?_eq_getElem hl]; simp [hl] at e; rw [e]⟩
theorem rep_pack (R : Rep K γ ρ (B ++ t) H) (P : Packed B t is as) : Rep K γ (packR ρ is) ([] ++ pack (B ++ t) is) H := by
  rw [List.nil_append]
  refine ⟨by simp [packR, pack], ?_, fun k a o ha ho => ?_, R.tab⟩
  · unfold List.Nodup
    rw [List.pairwise_iff_getElem]
    intro k1 k2 h1 h2 hlt e
    have l1 : k1 < is.length := by simpa [packR] using h1
    have l2 : k2 < is.length := by simpa [packR] using h2
    obtain ⟨x1, a1, b1⟩ := packR_get R P (List.getElem?_eq_getElem l1)
    obtain ⟨x2, a2, b2⟩ := packR_get R P (List.getElem?_eq_getElem l2)
    rw [List.getElem?_eq_getElem h1] at b1
    rw [List.getElem?_eq_getElem h2] at b2
    have e1 : x1 = x2 := by rw [← Option.some.inj b1, ← Option.some.inj b2]; exact e
    rw [← e1] at a2
    have e2 := nd_inj R.nd a1 a2
    exact (List.pairwise_iff_getElem.mp P.nd k1 k2 l1 l2 hlt) e2
  · unfold pack at ho
    rw [List.getElem?_map] at ho
    cases hk : is[k]? with
    | none => rw [hk] at ho; cases ho
    | some i =>
      rw [hk] at ho
      obtain ⟨x, e1, e2⟩ := packR_get R P hk
      rw [e2] at ha
      cases ha
      obtain ⟨ob, e3, e4⟩ := P.ob i (List.mem_of_getElem? hk)
      have eo : renO (idx is) ob = o := by
        have : (B ++ t).getD i (.lst []) = ob := by simp [List.getD, e3]
        rw [← this]
        simpa using ho
      rw [← eo]
      exact RO.ren (fun j hj y hy => packR_fwd R P (e4 j hj) hy) (R.ob i a ob e1 e3)
/-- back to the caller's numbers -/
theorem unpack_ok (R : Rep K γ ρ (B ++ t) H) (P : Packed B t is as) {t0 : List O} {ρ' : List Addr} {H' : Hp} (hl : is.length ≤ t0.length) (f : Fwd ([] : List O).length (packR ρ is) H ρ' H') (r' : Rep K γ ρ' ([] ++ t0) H') :
    ∃ ρ1, Fwd B.length ρ H ρ1 H' ∧ Rep K γ ρ1 (B ++ unpack B t is t0) H' ∧ ∀ k x, ρ'[k]? = some x → ρ1[bk is (B.length + t.length) k]? = some x := by
  rw [List.nil_append] at r'
  obtain ⟨m, e⟩ := f.ext
  have lp : (packR ρ is).length = is.length := by simp [packR]
  have lρ : ρ.length = B.length + t.length := by rw [R.len, List.length_append]
  have lm : ρ'.length = is.length + m.length := by rw [e, List.length_append, lp]
  have key : ∀ k x, ρ'[k]? = some x → (ρ ++ m)[bk is (B.length + t.length) k]? = some x := fun k x h => by
    unfold bk
    cases hk : is[k]? with
    | some i =>
      obtain ⟨y, e1, e2⟩ := packR_get R P hk
      have hkl : k < (packR ρ is).length := by rw [lp]; exact (List.getElem?_eq_some_iff.mp hk).1
      rw [e, List.getElem?_append_left hkl, e2] at h
      cases h
      simp only
      rw [List.getElem?_append_left (List.getElem?_eq_some_iff.mp e1).1]
      exact e1
    | none =>
      have hkl : is.length ≤ k := List.getElem?_eq_none_iff.mp hk
      rw [e, List.getElem?_append_right (by omega), lp] at h
      simp only
      rw [List.getElem?_append_right (by omega), lρ, Nat.add_sub_cancel_left]
      exact h
  have memρ : ∀ a, a ∈ packR ρ is → a ∈ ρ := fun a ha => by
    obtain ⟨i, _, h⟩ := packR_mem R P ha
    exact List.mem_of_getElem? h
  have stay : ∀ a, a ∈ ρ → a ∉ packR ρ is → ∀ u, H a = some u → H' a = some u := fun a ha hn u eu => by
    obtain ⟨u', e', z⟩ := R.obj ha
    rw [eu] at e'
    cases e'
    exact f.kept a u eu hn (noT_tb z)
  have r0 := rep_pack R P
  have kp : Keep K ρ H (ρ ++ m) H' := ⟨⟨m, rfl⟩, (r0.keep f).tup⟩
  have fw : Fwd B.length ρ H (ρ ++ m) H' := by
    refine ⟨⟨m, rfl⟩, fun a ha hn => ?_, fun a o ea hn z => f.kept a o ea (fun q => hn (memρ a q)) z, f.occ, f.frz, fun n a hn ha => ?_⟩
    · rcases List.mem_append.mp ha with q | q
      · exact absurd q hn
      · exact f.new a (by rw [e]; exact List.mem_append_right _ q) fun q => hn (memρ a q)
    · have hm : a ∈ ρ := List.mem_of_getElem? ha
      obtain ⟨u, eu, _⟩ := R.obj hm
      rw [stay a hm (fun q => by
        obtain ⟨i, hi, h⟩ := packR_mem R P q
        have := nd_inj R.nd h ha
        have := P.lo i hi
        omega) u eu, eu]
  refine ⟨ρ ++ m, fw, ⟨?_, ?_, fun j a o ha ho => ?_, r'.tab⟩, key⟩
  · have h1 := r'.len
    unfold unpack
    rw [List.length_append, List.length_append, List.length_append, setO_len, List.length_map, List.length_drop]
    omega
  · rw [List.nodup_append]
    refine ⟨R.nd, ?_, fun a ha b hb hab => ?_⟩
    · have := r'.nd
      rw [e, List.nodup_append] at this
      exact this.2.1
    · subst hab
      have nd' := r'.nd
      rw [e, List.nodup_append] at nd'
      by_cases q : a ∈ packR ρ is
      · exact nd'.2.2 a q a hb rfl
      · have hn := f.new a (by rw [e]; exact List.mem_append_right _ hb) q
        obtain ⟨u, eu, _⟩ := R.obj ha
        rw [eu] at hn; cases hn
  · unfold unpack at ho
    by_cases hj : j < ρ.length
    · rw [List.getElem?_append_left hj] at ha
      by_cases hi : j ∈ is
      · obtain ⟨k, hk⟩ : ∃ k, is[k]? = some j := List.getElem?_of_mem hi
        have hkl : k < is.length := (List.getElem?_eq_some_iff.mp hk).1
        have hb := P.lo j hi
        have hs : (B ++ (setO B.length is ((t0.take is.length).map (renO (bk is (B.length + t.length)))) t ++ (t0.drop is.length).map (renO (bk is (B.length + t.length)))))[j]? = (t0[k]?).map (renO (bk is (B.length + t.length))) := by
          rw [List.getElem?_append_right hb, List.getElem?_append_left (by rw [setO_len]; omega), setO_in B.length is _ t P.lo P.nd (by simp; omega) hk (by omega), List.getElem?_map, List.getElem?_take_of_lt hkl]
        rw [hs] at ho
        obtain ⟨o0, e1, e2⟩ := Option.map_eq_some_iff.mp ho
        obtain ⟨y, e3, e4⟩ := packR_get R P hk
        rw [ha] at e3
        cases e3
        have e5 : ρ'[k]? = some a := by rw [e, List.getElem?_append_left (by omega)]; exact e4
        rw [← e2]
        exact RO.ren (fun i _ x hx => key i x hx) (r'.ob k a o0 e5 e1)
      · have hs : (B ++ (setO B.length is ((t0.take is.length).map (renO (bk is (B.length + t.length)))) t ++ (t0.drop is.length).map (renO (bk is (B.length + t.length)))))[j]? = (B ++ t)[j]? := by
          by_cases hb : j < B.length
          · rw [List.getElem?_append_left hb, List.getElem?_append_left hb]
          · have hb' : B.length ≤ j := by omega
            have ht' : j - B.length < t.length := by omega
            rw [List.getElem?_append_right hb', List.getElem?_append_right hb', List.getElem?_append_left (by rw [setO_len]; exact ht'), setO_out B.length is _ t P.lo (by rw [Nat.add_sub_cancel' hb']; exact hi)]
        rw [hs] at ho
        have hm : a ∈ ρ := List.mem_of_getElem? ha
        refine RO.mono kp (fun u eu => stay a hm (fun q => ?_) u eu) (R.ob j a o ha ho)
        obtain ⟨i, hi', h⟩ := packR_mem R P q
        rw [nd_inj R.nd ha h] at hi
        exact hi hi'
    · rw [List.getElem?_append_right (by omega)] at ha
      have hs : (B ++ (setO B.length is ((t0.take is.length).map (renO (bk is (B.length + t.length)))) t ++ (t0.drop is.length).map (renO (bk is (B.length + t.length)))))[j]? = (t0[is.length + (j - ρ.length)]?).map (renO (bk is (B.length + t.length))) := by
        rw [List.getElem?_append_right (by omega), List.getElem?_append_right (by rw [setO_len]; omega), setO_len, List.getElem?_map, List.getElem?_drop]
        congr 2
        omega
      rw [hs] at ho
      obtain ⟨o0, e1, e2⟩ := Option.map_eq_some_iff.mp ho
      have e5 : ρ'[is.length + (j - ρ.length)]? = some a := by
        rw [e, List.getElem?_append_right (by omega), lp, Nat.add_sub_cancel_left]
        exact ha
      rw [← e2]
      exact RO.ren (fun i _ x hx => key i x hx) (r'.ob _ a o0 e5 e1)
end
theorem rens_len (f : Nat → Nat) : ∀ xs : List A, (rens f xs).length = xs.length
  | [] => rfl
  | x :: xs => by unfold rens; simp [rens_len f xs]
theorem spOf_fr {K : PySem.W.Frag} {γ : Gm} {n : Nat} {mf : MF} (vs : List V) (H : Hp) (Q : VK) (E : XK) (h : spOf K γ n (frF mf) vs H Q E) : spOf K γ n mf vs H Q E := by
  obtain ⟨ρ, B, t, as, hl, r, w, p⟩ := h
  unfold frF at p
  generalize his : reach (B ++ t) 6 (refsAs as).eraseDups = is at p
  by_cases hk : okIs B.length (B ++ t) is as = true
  · rw [if_pos hk] at p
    have P := packed_of hk
    refine ⟨packR ρ is, [], pack (B ++ t) is, rens (idx is) as, by rw [rens_len]; exact hl, rep_pack r P, RVs.ren as vs (fun i hi x hx => packR_fwd r P (P.ar i hi) hx) w, ?_⟩
    generalize mf [] (rens (idx is) as) (pack (B ++ t) is) = rr at p
    cases rr with
    | bad => exact p
    | ok v t0 =>
      simp only at p
      by_cases hlen : is.length ≤ t0.length
      · rw [if_pos hlen] at p
        intro ρ' H' b f r' w'
        obtain ⟨ρ1, fw, rp, key⟩ := unpack_ok r P hlen f r'
        exact p ρ1 H' b fw rp (RV.ren v b (fun i _ x hx => key i x hx) w')
      · rw [if_neg hlen] at p; exact p.elim
    | exc c fs t0 =>
      simp only at p
      by_cases hlen : is.length ≤ t0.length
      · rw [if_pos hlen] at p
        intro ρ' H' C d vs' f r' hC hd w'
        obtain ⟨ρ1, fw, rp, key⟩ := unpack_ok r P hlen f r'
        exact p ρ1 H' C d vs' fw rp hC hd (RKs.ren fs vs' (fun i _ x hx => key i x hx) w')
      · rw [if_neg hlen] at p; exact p.elim
  · rw [if_neg hk] at p
    exact ⟨ρ, B, t, as, hl, r, w, p⟩
theorem FnS.fr {P : Program} {w : World} {K : PySem.W.Frag} {mg : Str → Option Value} {base : Heap} {γ : Gm} {k : Nat} {f : Addr} {ps : List Str} {n : Nat} {mf : MF} (F : FnS P w K mg base γ k f ps n mf) : FnS P w K mg base γ k f ps n (frF mf) := by
  obtain ⟨fd, F, hb⟩ := F.ok
  exact ⟨fd, F.imp fun vs H Q E h => spOf_fr vs H Q E h, hb⟩
end Ev
end
section
set_option Elab.async false
set_option linter.all false
namespace Ev
open PySem PySem.Spec PyProof.Rows L2
/-- a piece of the head's equation -/
def Piece {α : Type} (r : PySem.W.OpenRow) (M : Nat) (w : World) (f : PySem.W.SharedT → α) (v : α) : Prop :=
  ∀ os : OsState, (HandSHeadRun.endF (HandSHeadRun.stepQ (HandSHeadRun.denQ HandSHeadRun.tabQ) r.prog w) M r.prog w os).map f = some v
theorem runU {H : PySem.W.Hook} {ob : PySem.W.SharedT → H.α} {r : PySem.W.OpenRow} {q : PySem.Program} {M : Nat} {loose : List Str} {w : World}
    (h0 : HandSHeadRun.RunEq r q PySem.W.Hook.none (fun _ => ()) M loose w) (h1 : Piece r M w ob (H.val w)) : HandSHeadRun.RunEq r q H ob M loose w := fun os => by
  have a0 := h0 os
  have a1 := h1 os
  generalize HandSHeadRun.endF (HandSHeadRun.stepQ (HandSHeadRun.denQ HandSHeadRun.tabQ) r.prog w) M r.prog w os = x at *
  cases x with
  | none => cases a0
  | some s =>
    rw [Option.map_some] at a0 a1 ⊢
    have b0 := Option.some.inj a0
    have b1 := Option.some.inj a1
    exact congrArg some (Prod.ext (congrArg (fun z => z.1) b0) (Prod.ext (congrArg (fun z => z.2.1) b0) b1))
end Ev
end
section
set_option Elab.async false
set_option linter.all false
set_option maxRecDepth 100000
set_option maxHeartbeats 4000000
namespace K01
open PySem PySem.Spec PyProof.Rows L2 Ev
def top (i : Nat) : Stmt := PySem.Challenge.pw_foldlines_k01_lines_looked_at.main.body.getD i (.Pass ⟨0, 0, 0, 0⟩)
def P0 : Program := PySem.Challenge.pw_foldlines_k01_lines_looked_at
def meth (i j : Nat) : Stmt := (clsBody (top i)).getD j (.Pass ⟨0, 0, 0, 0⟩)
def kvs_FORMS : List (Str × He.Dv) := [("num", (.str "rn")), ("copy", (.str "rr")), ("add", (.str "rrr")), ("sub", (.str "rrr")), ("mul", (.str "rrr")), ("addr", (.str "rf")), ("same", (.str "rr")), ("less", (.str "rr")), ("in", (.str "r")), ("out", (.str "r")), ("push", (.str "x")), ("pop", (.str "x")), ("read", (.str "rk")), ("write", (.str "kr")), ("mark", (.str "l")), ("jump", (.str "l")), ("if", (.str "l")), ("unless", (.str "l")), ("call", (.str "f")), ("callr", (.str "r")), ("tail", (.str "f")), ("back", (.str "")), ("stop", (.str ""))]
def kvs_SIZES : List (Str × He.Dv) := [("addr", (.int 3)), ("mark", (.int 0)), ("jump", (.int 2)), ("if", (.int 2)), ("unless", (.int 2)), ("call", (.int 2)), ("tail", (.int 2))]
def fa : List He.Fa := ([.free "int", .free "isinstance", .free "bool", .glo "is_integer", .keep "is_integer", .glo "is_between", .int "HALF" 2147483648, .keep "is_between", .free "str", .free "len", .int "MOST_LETTERS" 8, .str "LETTERS" "abcdefghijklmnopqrstuvwxyz", .free "all", .free "tuple", .free "list", .free "dict", .free "super", .glo "own_copy", .keep "own_copy", .int "REGISTERS" 6, .str "LINK" "link", .glo "is_number", .keep "is_number", .int "MOST_DEEP" 59, .glo "is_word", .keep "is_word", .glo "FORMS", .free "zip", .glo "is_part", .keep "is_part"] : List He.Fa) ++ ([.int "LEAST_SHORT" (-8), .int "MOST_SHORT" 7, .glo "SIZES", .keep "size_of_line", .free "sum", .free "enumerate", .glo "marks_of", .keep "marks_of", .glo "ENDS", .glo "BRANCHES", .free "sorted", .glo "ways_of", .keep "ways_of", .glo "row_behind", .keep "row_behind", .glo "is_call", .keep "is_call", .glo "reached_of", .keep "reached_of", .glo "is_own_behind", .keep "is_own_behind", .glo "ends_well", .keep "ends_well", .glo "rows_of", .keep "rows_of", .glo "own_of", .keep "own_of", .glo "needs_own", .keep "needs_own", .int "MAX_FUNCTIONS" 24] : List He.Fa) ++ ([.str "MAIN" "main", .glo "is_list", .keep "is_list", .glo "is_line", .keep "is_line", .glo "named", .keep "named", .glo "InvalidLine", .glo "label_of", .keep "label_of", .free "max", .int "MAX_LINES" 60, .int "MAX_ALL" 240, .glo "is_tidy", .keep "is_tidy", .glo "need_lines", .cls "Program", .meth "Program" "barred", .noat "Program" "own_functions", .keep "need_lines", .glo "need_few", .keep "need_few", .meth "Program" "is_fine", .glo "Parts", .glo "need_functions", .keep "need_functions", .meth "Program" "need_fine", .mkr "Program", .glo "size_of_lines", .keep "size_of_lines"] : List He.Fa) ++ ([.free "abs", .glo "_law_draw", .keep "_law_draw", .glo "_law_pick", .keep "_law_pick", .glo "_law_number", .keep "_law_number", .glo "_law_forms", .keep "_law_forms", .free "range", .glo "_law_is_part", .keep "_law_is_part", .glo "_law_part", .keep "_law_part", .glo "_law_any_part", .keep "_law_any_part", .glo "_law_pen", .keep "_law_pen", .free "min", .glo "_law_candidate", .keep "_law_candidate", .free "repr", .glo "_law_is_line", .keep "_law_is_line", .glo "Program", .glo "_law_index", .free "ValueError", .glo "_law_size", .keep "_law_size", .glo "law"] : List He.Fa)
def fn : List FD := ([⟨fun K => (He.ga K "is_integer"), "is_integer", "is_integer", (top 5), []⟩, ⟨fun K => (He.ga K "is_between"), "is_between", "is_between", (top 6), []⟩, ⟨fun K => (He.ga K "is_number"), "is_number", "is_number", (top 7), []⟩, ⟨fun K => (He.ga K "is_word"), "is_word", "is_word", (top 8), []⟩, ⟨fun K => (He.ga K "is_list"), "is_list", "is_list", (top 9), []⟩, ⟨fun K => (He.ga K "own_copy"), "own_copy", "own_copy", (top 11), []⟩, ⟨fun K => He.ma K (He.ga K "InvalidLine") "__init__", "__init__", "InvalidLine.__init__", meth 13 0, ["__class__"]⟩, ⟨fun K => (He.ga K "is_part"), "is_part", "is_part", (top 31), []⟩, ⟨fun K => (He.ga K "is_line"), "is_line", "is_line", (top 32), []⟩, ⟨fun K => (He.ga K "size_of_line"), "size_of_line", "size_of_line", (top 33), []⟩, ⟨fun K => (He.ga K "size_of_lines"), "size_of_lines", "size_of_lines", (top 35), []⟩, ⟨fun K => (He.ga K "named"), "named", "named", (top 36), []⟩, ⟨fun K => (He.ga K "label_of"), "label_of", "label_of", (top 37), []⟩, ⟨fun K => (He.ga K "is_call"), "is_call", "is_call", (top 38), []⟩, ⟨fun K => (He.ga K "marks_of"), "marks_of", "marks_of", (top 39), []⟩, ⟨fun K => (He.ga K "ways_of"), "ways_of", "ways_of", (top 40), []⟩, ⟨fun K => (He.ga K "reached_of"), "reached_of", "reached_of", (top 41), []⟩, ⟨fun K => (He.ga K "row_behind"), "row_behind", "row_behind", (top 44), []⟩, ⟨fun K => (He.ga K "rows_of"), "rows_of", "rows_of", (top 45), []⟩, ⟨fun K => (He.ga K "is_own_behind"), "is_own_behind", "is_own_behind", (top 46), []⟩, ⟨fun K => (He.ga K "own_of"), "own_of", "own_of", (top 47), []⟩, ⟨fun K => (He.ga K "needs_own"), "needs_own", "needs_own", (top 48), []⟩, ⟨fun K => (He.ga K "ends_well"), "ends_well", "ends_well", (top 49), []⟩, ⟨fun K => (He.ga K "is_tidy"), "is_tidy", "is_tidy", (top 50), []⟩, ⟨fun K => (He.ga K "need_functions"), "need_functions", "need_functions", (top 63), []⟩, ⟨fun K => (He.ga K "need_lines"), "need_lines", "need_lines", (top 64), []⟩, ⟨fun K => (He.ga K "need_few"), "need_few", "need_few", (top 65), []⟩, ⟨fun K => (He.ma K (He.ga K "Program") "barred"), "barred", "Program.barred", (meth 67 4), []⟩, ⟨fun K => (He.ma K (He.ga K "Program") "is_fine"), "is_fine", "Program.is_fine", (meth 67 5), []⟩, ⟨fun K => (He.ma K (He.ga K "Program") "need_fine"), "need_fine", "Program.need_fine", (meth 67 3), []⟩] : List FD) ++ ([⟨fun K => (He.ma K (He.ga K "Program") "__init__"), "__init__", "Program.__init__", (meth 67 2), []⟩, ⟨fun K => (smF K "Program" "of"), "of", "Program.of", (meth 67 7), []⟩, ⟨fun K => (smF K "Program" "size_of_line"), "size_of_line", "Program.size_of_line", (meth 67 9), []⟩, ⟨fun K => (prF K "Program" "functions"), "functions", "Program.functions", (meth 67 10), []⟩, ⟨fun K => (prF K "Program" "size"), "size", "Program.size", (meth 67 12), []⟩, ⟨fun K => (He.ga K "_law_pen"), "_law_pen", "_law_pen", (top 70), []⟩, ⟨fun K => (He.ga K "_law_draw"), "_law_draw", "_law_draw", (top 71), []⟩, ⟨fun K => (He.ga K "_law_pick"), "_law_pick", "_law_pick", (top 72), []⟩, ⟨fun K => (He.ga K "_law_number"), "_law_number", "_law_number", (top 73), []⟩, ⟨fun K => (He.ga K "_law_forms"), "_law_forms", "_law_forms", (top 74), []⟩, ⟨fun K => (He.ga K "_law_any_part"), "_law_any_part", "_law_any_part", (top 75), []⟩, ⟨fun K => (He.ga K "_law_part"), "_law_part", "_law_part", (top 76), []⟩, ⟨fun K => (He.ga K "_law_is_part"), "_law_is_part", "_law_is_part", (top 77), []⟩, ⟨fun K => (He.ga K "_law_is_line"), "_law_is_line", "_law_is_line", (top 78), []⟩, ⟨fun K => (He.ga K "_law_size"), "_law_size", "_law_size", (top 79), []⟩, ⟨fun K => (He.ga K "_law_candidate"), "_law_candidate", "_law_candidate", (top 80), []⟩, ⟨fun K => (He.ga K "_law_index"), "_law_index", "_law_index", (top 81), []⟩, ⟨fun K => (He.ga K "law"), "law", "law", (top 82), []⟩] : List FD)
def ts : List He.Tab := [((fun K => He.ga K "FORMS"), kvs_FORMS.map (·.1)), ((fun K => He.ga K "SIZES"), kvs_SIZES.map (·.1))]
def tf : List He.Defn := [("law", none)]
def exs : List (PySem.W.Frag → Bool) := [fun K => noLst K, fun K => oexB K "InvalidLine", fun K => tryB K "InvalidLine" "ValueError" "name" "index", fun K => supB P0 K "InvalidLine", fun K => He.valsB K (He.ga K "FORMS") kvs_FORMS, fun K => He.valsB K (He.ga K "SIZES") kvs_SIZES, fun K => aliB K "size_of_line_lines" "size_of_line", fun K => He.tupB K "ENDS" [(.str "jump"), (.str "back"), (.str "tail"), (.str "stop")], fun K => He.tupB K "BRANCHES" [(.str "if"), (.str "unless")], fun K => isoB K "Parts" ["dict"], fun K => sysB K, fun K => prB K "Program" "functions", fun K => prB K "Program" "size", fun K => rdB K "Program", fun K => smB K "Program" "size_of_line", fun K => cmB K "Program" "of"]
def ex (K : PySem.W.Frag) : Bool := exs.all fun f => f K
abbrev R : PySem.W.OpenRow := PySem.W.OpenLaw.row PySem.Challenge.rw_foldlines_k01_lines_looked_at
def loose : List Str := (["_wall", "LETTERS", "MOST_LETTERS", "HALF", "is_integer", "is_between", "is_number", "is_word", "is_list", "own_copy", "InvalidFunctions", "InvalidLine", "InvalidText", "Untidy", "UnknownName", "TooMany", "MAX_FUNCTIONS", "MAX_LINES", "MAX_ALL", "REGISTERS", "MOST_DEEP", "LEAST_SHORT", "MOST_SHORT", "FORMS", "SIZES", "BRANCHES", "ENDS", "LINK", "is_part", "is_line"] : List Str) ++ (["size_of_line", "size_of_line_lines", "size_of_lines", "named", "label_of", "is_call", "marks_of", "ways_of", "reached_of", "VALUE", "row_behind", "rows_of", "is_own_behind", "own_of", "needs_own", "ends_well", "is_tidy", "HEAD", "DIGITS", "MOST_DIGITS", "line_text", "function_text", "functions_text", "integer_in", "line_in", "functions_in", "MAIN", "need_functions", "need_lines", "need_few"] : List Str) ++ (["Parts", "Program", "BareProgram", "_law_pen", "_law_draw", "_law_pick", "_law_number", "_law_forms", "_law_any_part", "_law_part", "_law_is_part", "_law_is_line", "_law_size", "_law_candidate", "_law_index"] : List Str)
abbrev hk : PySem.W.Hook := hookU 5 fa fn ts tf ex
def ob (s : PySem.W.SharedT) : AlU := obsU 5 fa fn ts tf ex (HandSHeadRun.getT s)
theorem ob_eq (s : PySem.W.SharedT) : ob s = hk.obs s.abs := obsU_eq (HandSHeadRun.getT_eq s)
end K01
end
section
set_option Elab.async false
set_option linter.all false
set_option maxRecDepth 100000
set_option maxHeartbeats 0
namespace K01
open PySem PySem.Spec PyProof.Rows L2 Ev
theorem run0f (w : World) : (fun w => HandSHeadRun.RunEq R (PySem.W.view R.prog [82]) PySem.W.Hook.none (fun _ => ()) 60000 loose w) (w.withFollow "special-get-raises" false) := fun os => by kernel_rfl
theorem run0t (w : World) : (fun w => HandSHeadRun.RunEq R (PySem.W.view R.prog [82]) PySem.W.Hook.none (fun _ => ()) 60000 loose w) (w.withFollow "special-get-raises" true) := fun os => by kernel_rfl
theorem run0 (w : World) : HandSHeadRun.RunEq R (PySem.W.view R.prog [82]) PySem.W.Hook.none (fun _ => ()) 60000 loose w :=
  PySem.W.byRow2 "special-get-raises" (P := fun w => HandSHeadRun.RunEq R (PySem.W.view R.prog [82]) PySem.W.Hook.none (fun _ => ()) 60000 loose w) run0f run0t w
theorem run1f (w : World) : (fun w => Piece R 60000 w ob (valU fn ts w)) (w.withFollow "special-get-raises" false) := fun os => by kernel_rfl
theorem run1t (w : World) : (fun w => Piece R 60000 w ob (valU fn ts w)) (w.withFollow "special-get-raises" true) := fun os => by kernel_rfl
theorem run1 (w : World) : Piece R 60000 w ob (valU fn ts w) :=
  PySem.W.byRow2 "special-get-raises" (P := fun w => Piece R 60000 w ob (valU fn ts w)) run1f run1t w
theorem run (w : World) : HandSHeadRun.RunEq R (PySem.W.view R.prog [82]) hk ob 60000 loose w :=
  runU (H := hk) (run0 w) (run1 w)
end K01
end
section
set_option Elab.async false
set_option linter.all false
namespace Ev
open PySem PySem.Spec PyProof.Rows L2
/-- an expression's garbage is forgotten -/
noncomputable def mGcE (B : List O) (m : ME) : ME := fun s t => cutR below B t (m s t)
theorem se_gc {c : Cc} {X : Cx} {e : Expr} {m : ME} (h : SE c X e m) : SE c X e (mGcE c.B m) :=
  PE.imp h fun σ H Q ⟨ρ, σa, top, r, s, p⟩ => ⟨ρ, σa, top, r, s, cutR_ok (fun n ρ H a b h1 h2 => RV.cut h2 h1) r p⟩
end Ev
end
section
set_option Elab.async false
set_option linter.all false
set_option maxRecDepth 100000
set_option maxHeartbeats 1000000
/-! Evaluation rules for the plain side. -/
namespace Ev
open PySem PySem.Spec PyProof.Rows L2
section
variable {α β : Type} {a b : A} {s : Sl} {t t1 : List O} {B : List O}
@[simp] theorem bind_ok {x : α} {k : α → List O → Res β} : (Res.ok x t).bind k = k x t := rfl
@[simp] theorem bind_exc {c : Nat} {fs : List (Str × A)} {k : α → List O → Res β} : (Res.exc c fs t : Res α).bind k = .exc c fs t := rfl
@[simp] theorem bind_bad {k : α → List O → Res β} : (Res.bad : Res α).bind k = .bad := rfl
@[simp] theorem ev_runF {len : Nat} {mb : List O → MS} {as : List A} : runF len mb B as t = (mb B (startA len as) t).bind endF := rfl
@[simp] theorem ev_start {len : Nat} {as : List A} : startA len as = as.map some ++ List.replicate (len - as.length) none := rfl
@[simp] theorem ev_end_rt : endF (.rt a) t = .ok a t := rfl
@[simp] theorem ev_end_nx : endF (.nx s) t = .ok .non t := rfl
@[simp] theorem ev_then_nx {k : Sl → List O → Res Fl} : andThen (.nx s) t k = k s t := rfl
@[simp] theorem ev_then_rt {k : Sl → List O → Res Fl} : andThen (.rt a) t k = .ok (.rt a) t := rfl
@[simp] theorem ev_mRet {ma : ME} : mRet ma s t = (ma s t).bind fun a t1 => .ok (.rt a) t1 := rfl
@[simp] theorem ev_mDrop {ma : ME} : mDrop ma s t = (ma s t).bind fun _ t1 => .ok (.nx s) t1 := rfl
@[simp] theorem ev_mNext : mNext s t = .ok (.nx s) t := rfl
@[simp] theorem ev_mSeq {m1 m2 : MS} : mSeq m1 m2 s t = (m1 s t).bind fun fl t1 => andThen fl t1 m2 := rfl
@[simp] theorem ev_mIf {mc : MT} {m1 m2 : MS} : mIf mc m1 m2 s t = (mc s t).bind fun b t1 => bif b then m1 s t1 else m2 s t1 := by
  unfold mIf
  congr 1
@[simp] theorem ev_mCon : mCon a s t = .ok a t := rfl
@[simp] theorem ev_mVar {i : Nat} : mVar i s t = match s[i]? with
  | some (some a) => .ok a t
  | _ => .bad := by unfold mVar; rfl
@[simp] theorem ev_mNil : mNil s t = .ok [] t := rfl
@[simp] theorem ev_mCons {ma : ME} {mr : MA} : mCons ma mr s t = (ma s t).bind fun a t1 => (mr s t1).bind fun as t2 => .ok (a :: as) t2 := rfl
@[simp] theorem ev_mCall {f : List A → List O → Res A} {ma : MA} : mCall f ma s t = (ma s t).bind f := rfl
@[simp] theorem ev_mBin {f : A → A → List O → Res A} {ma mb : ME} : mBin f ma mb s t = (ma s t).bind fun a t1 => (mb s t1).bind fun b t2 => f a b t2 := rfl
@[simp] theorem ev_mUn {f : A → List O → Res A} {ma : ME} : mUn f ma s t = (ma s t).bind f := rfl
@[simp] theorem ev_mTup {ma : MA} : mTup ma s t = (ma s t).bind fun as t => if as.length ≤ sizeLine then .ok (.tup as) t else .bad := rfl
@[simp] theorem ev_mLst {ma : MA} : mLst B ma s t = (ma s t).bind fun as t => if as.length ≤ sizeLine then mkO B (.lst as) t else .bad := rfl
@[simp] theorem ev_mkO {o : O} : mkO B o t = .ok (.ref (B.length + t.length)) (t ++ [o]) := rfl
@[simp] theorem ev_mDic0 : mDic0 B s t = .ok (.ref (B.length + t.length)) (t ++ [.dic []]) := rfl
/-- a test's value -/
def asB : A → List O → Res Bool
  | .bl b, t => .ok b t
  | _, _ => .bad
@[simp] theorem ev_asB {b : Bool} : asB (.bl b) t = .ok b t := rfl
@[simp] theorem ev_mTest {ma : ME} : mTest ma s t = (ma s t).bind asB := by
  unfold mTest
  congr 1
  funext a t1
  cases a <;> rfl
@[simp] theorem ev_mAnd {ma mb : MT} : mAnd ma mb s t = (ma s t).bind fun a t1 => bif a then mb s t1 else .ok false t1 := by
  unfold mAnd
  congr 1
@[simp] theorem ev_mOr {ma mb : MT} : mOr ma mb s t = (ma s t).bind fun a t1 => bif a then .ok true t1 else mb s t1 := by
  unfold mOr
  congr 1
@[simp] theorem ev_mNot {ma : MT} : mNot ma s t = (ma s t).bind fun a t1 => .ok (!a) t1 := rfl
@[simp] theorem ev_mIte {mc : MT} {ma mb : ME} : mIte mc ma mb s t = (mc s t).bind fun b t1 => bif b then ma s t1 else mb s t1 := by
  unfold mIte
  congr 1
@[simp] theorem ev_mAndV {ma mb : ME} : mAndV ma mb s t = (ma s t).bind fun a t1 => (asB a t1).bind fun b t2 => bif b then mb s t2 else .ok (.bl false) t2 := by
  unfold mAndV
  congr 1
  funext a t1
  cases a with
  | bl b => cases b <;> rfl
  | _ => rfl
@[simp] theorem ev_mOrV {ma mb : ME} : mOrV ma mb s t = (ma s t).bind fun a t1 => (asB a t1).bind fun b t2 => bif b then .ok (.bl true) t2 else mb s t2 := by
  unfold mOrV
  congr 1
  funext a t1
  cases a with
  | bl b => cases b <;> rfl
  | _ => rfl
@[simp] theorem ev_mNotV {ma : ME} : mNotV ma s t = (ma s t).bind fun a t1 => (asB a t1).bind fun b t2 => .ok (.bl (!b)) t2 := by
  unfold mNotV
  congr 1
  funext a t1
  cases a <;> rfl
@[simp] theorem ev_mCallF {n : Nat} {mf : MF} {ma : MA} : mCallF B n mf ma s t = (ma s t).bind fun as t1 => if as.length = n then mf B as t1 else .bad := rfl
@[simp] theorem ev_mCallF0 {mf : MF} : mCallF0 B mf s t = mf B [] t := rfl
@[simp] theorem ev_mAsg {f : MG} {ma : ME} : mAsg f ma s t = (ma s t).bind fun a t1 => (f a s t1).bind fun s' t2 => .ok (.nx s') t2 := rfl
@[simp] theorem ev_gN {i : Nat} : gN i a s t = .ok (s.set i (some a)) t := rfl
@[simp] theorem ev_gT {is : List Nat} {xs : List A} : gT is (.tup xs) s t = match setAll is xs s with
  | some s' => .ok s' t
  | none => .bad := rfl
@[simp] theorem ev_setAll0 : setAll [] [] s = some s := rfl
@[simp] theorem ev_setAll {i : Nat} {is : List Nat} {as : List A} : setAll (i :: is) (a :: as) s = setAll is as (s.set i (some a)) := rfl
@[simp] theorem ev_mPar {is : List Nat} {ma : MA} : mPar is ma s t = (ma s t).bind fun as t1 => match setAll is as s with
  | some s' => .ok (.nx s') t1
  | none => .bad := rfl
@[simp] theorem ev_fLe {i j : Int} : fLe (.int i) (.int j) t = .ok (.bl (decide (i ≤ j))) t := rfl
@[simp] theorem ev_fLt {i j : Int} : fLt (.int i) (.int j) t = .ok (.bl (decide (i < j))) t := rfl
@[simp] theorem ev_fGe {i j : Int} : fGe (.int i) (.int j) t = .ok (.bl (decide (j ≤ i))) t := rfl
@[simp] theorem ev_fGt {i j : Int} : fGt (.int i) (.int j) t = .ok (.bl (decide (j < i))) t := rfl
@[simp] theorem ev_fSub {i j : Int} : fSub (.int i) (.int j) t = .ok (.int (i - j)) t := rfl
@[simp] theorem ev_fNeg {i : Int} : fNeg (.int i) t = .ok (.int (-i)) t := rfl
@[simp] theorem ev_fAddI {i j : Int} : fAdd B (.int i) (.int j) t = .ok (.int (i + j)) t := rfl
@[simp] theorem ev_mChain {f g : A → A → List O → Res A} {ma mb mc : ME} : mChain f g ma mb mc s t = (ma s t).bind fun a t1 => (mb s t1).bind fun b t2 => (f a b t2).bind fun z t3 => (asB z t3).bind fun k t3 => bif k then (mc s t3).bind fun d t4 => g b d t4 else .ok (.bl false) t3 := by
  unfold mChain
  congr 1
  funext a t1
  congr 1
  funext b t2
  congr 1
  funext z t3
  cases z with
  | bl b => cases b <;> rfl
  | _ => rfl
@[simp] theorem ev_isN {neg : Bool} : fIs neg a .non t = .ok (.bl (if neg then !isNonA a else isNonA a)) t := rfl
theorem eq_str {x y : Str} {neg : Bool} (hx : PyData.strOk x = true) (hy : PyData.strOk y = true) : fEq B neg (.str x) (.str y) t = .ok (.bl (if neg then !decide (x = y) else decide (x = y))) t := by
  unfold fEq
  simp only [toD, deep]
  have e : PyData.eqv (.str x) (.str y) = decide (x = y) := by
    simp only [PyData.eqv]
    by_cases h : x = y <;> simp [h]
  simp [SeqAt.shaped, PyData.canLay0, PyData.depth, e, hx, hy]
theorem eq_int {x y : Int} {neg : Bool} : fEq B neg (.int x) (.int y) t = .ok (.bl (if neg then !decide (x = y) else decide (x = y))) t := by
  unfold fEq
  simp only [toD, deep]
  have e : PyData.eqv (.int x) (.int y) = decide (x = y) := by
    simp only [PyData.eqv]
    by_cases h : x = y <;> simp [h]
  simp [SeqAt.shaped, PyData.canLay0, PyData.depth, e]
/-! the heap -/
@[simp] theorem get_new {l : List O} : (B ++ (t ++ l))[B.length + t.length]? = l[0]? := by
  rw [List.getElem?_append_right (by omega), Nat.add_sub_cancel_left, List.getElem?_append_right (by omega), Nat.sub_self]
@[simp] theorem get_newK {l : List O} {k : Nat} : (B ++ (t ++ l))[B.length + (t.length + k)]? = l[k]? := by
  rw [List.getElem?_append_right (by omega), Nat.add_sub_cancel_left, List.getElem?_append_right (by omega), Nat.add_sub_cancel_left]
theorem get_old {l : List O} {n : Nat} {o : O} (h : (B ++ t)[n]? = some o) : (B ++ (t ++ l))[n]? = some o := by
  rw [← List.append_assoc, List.getElem?_append_left (List.getElem?_eq_some_iff.mp h).1]
  exact h
theorem rdL_old {l : List O} {n : Nat} {xs : List A} (h : rdL (B ++ t) n = some xs) : rdL (B ++ (t ++ l)) n = some xs := by
  unfold rdL at h ⊢
  cases e : (B ++ t)[n]? with
  | none => simp [e] at h
  | some o => rw [e] at h; rw [get_old e]; exact h
theorem tyN_old {l : List O} {a : A} {m : String} (h : tyN (B ++ t) a = some m) : tyN (B ++ (t ++ l)) a = some m := by
  cases a with
  | ref n =>
    simp only [tyN] at h ⊢
    cases e : (B ++ t)[n]? with
    | none => simp [e] at h
    | some o => simp only [e] at h; simp only [get_old e]; exact h
  | _ => exact h
/-! loops -/
theorem itL_at {ys zs : List A} {hp : List O} {k : Nat} {y : A} (h : ys = zs ++ y :: ys.drop (zs.length + 1)) (hk : k + 1 = ys.length - zs.length) : (itL ys).get ((itL ys).n - (k + 1)) hp = some y := by
  show ys[ys.length - (k + 1)]? = some y
  have hl : zs.length < ys.length := by rw [h]; simp
  have e : ys.length - (k + 1) = zs.length := by omega
  rw [e]
  conv => lhs; rw [h]
  simp
/-- a comprehension over values that leaves no objects -/
theorem lcGo_go {g : MG} {mt : MT} {me : ME} {s : Sl} {c : A → Bool} {f : A → A} (ys : List A) (h1 : ∀ y ∈ ys, ∃ s1, g y s t = .ok s1 t ∧ mt s1 t = .ok (c y) t ∧ (c y = true → me s1 t = .ok (f y) t)) :
    ∀ (zs us : List A), ys = zs ++ us → lcGo B (itL ys) g mt me s us.length t = .ok ((us.filter c).map f) t
  | zs, [], _ => rfl
  | zs, u :: us, e => by
    have hm : u ∈ ys := by rw [e]; simp
    obtain ⟨s1, e1, e2, e3⟩ := h1 u hm
    have ih := lcGo_go (g := g) (mt := mt) (me := me) (s := s) ys h1 (zs ++ [u]) us (by rw [e]; simp)
    have hg : (itL ys).get ((itL ys).n - (us.length + 1)) (B ++ t) = some u := by
      show ys[ys.length - (us.length + 1)]? = some u
      have hl : ys.length - (us.length + 1) = zs.length := by rw [e]; simp
      rw [hl, e]
      simp
    show lcGo B (itL ys) g mt me s (us.length + 1) t = _
    unfold lcGo
    rw [hg]
    simp only [e1, bind_ok, e2]
    cases hc : c u with
    | false => simp only [hc]; rw [ih, List.filter_cons_of_neg (by simp [hc])]
    | true => simp only [hc]; rw [e3 hc, bind_ok, ih, bind_ok, List.filter_cons_of_pos hc, List.map_cons]
theorem lcGo_itL {g : MG} {mt : MT} {me : ME} {s : Sl} {c : A → Bool} {f : A → A} {ys : List A} (h1 : ∀ y ∈ ys, ∃ s1, g y s t = .ok s1 t ∧ mt s1 t = .ok (c y) t ∧ (c y = true → me s1 t = .ok (f y) t)) :
    lcGo B (itL ys) g mt me s (itL ys).n t = .ok ((ys.filter c).map f) t := lcGo_go ys h1 [] ys rfl
@[simp] theorem noX_ok {x : α} : (Res.ok x t : Res α).noX = .ok x t := rfl
theorem mLc_itL {vs : List Nat} {mi : MI} {g : MG} {mt : MT} {me : ME} {c : A → Bool} {f : A → A} {ys : List A} (hi : mi s t = .ok (itL ys) t) (hl : ys.length ≤ sizeLine) (h1 : ∀ y ∈ ys, ∃ s1, g y (wipeA s vs) t = .ok s1 t ∧ mt s1 t = .ok (c y) t ∧ (c y = true → me s1 t = .ok (f y) t)) :
    mLc B vs mi g mt me s t = .ok (.ref (B.length + t.length)) (t ++ [.lst ((ys.filter c).map f)]) := by
  unfold mLc
  have hn : (itL ys).n = ys.length := rfl
  rw [hi, bind_ok, hn, if_pos hl, ← hn, lcGo_itL h1]
  rfl
/-- with no test -/
theorem mLc_map {vs : List Nat} {mi : MI} {g : MG} {me : ME} {f : A → A} {ys : List A} (hi : mi s t = .ok (itL ys) t) (hl : ys.length ≤ sizeLine) (h1 : ∀ y ∈ ys, ∃ s1, g y (wipeA s vs) t = .ok s1 t ∧ me s1 t = .ok (f y) t) :
    mLc B vs mi g mYes me s t = .ok (.ref (B.length + t.length)) (t ++ [.lst (ys.map f)]) := by
  have h := mLc_itL (B := B) (vs := vs) (mt := mYes) (c := fun _ => true) hi hl fun y hy => by
    obtain ⟨s1, e1, e2⟩ := h1 y hy
    exact ⟨s1, e1, rfl, fun _ => e2⟩
  rw [List.filter_eq_self.mpr (fun _ _ => rfl)] at h
  exact h
theorem mapO_bl : ∀ (bs : List Bool), mapO blA (bs.map A.bl) = some bs
  | [] => rfl
  | b :: bs => by
    simp only [List.map_cons, mapO, blA, mapO_bl bs]
    rfl
theorem mapO_int : ∀ (bs : List Int), mapO intA (bs.map A.int) = some bs
  | [] => rfl
  | b :: bs => by
    simp only [List.map_cons, mapO, intA, mapO_int bs]
    rfl
theorem mapO_blF {β : Type} {f : β → A} {p : β → Bool} : ∀ (ys : List β), (∀ y ∈ ys, f y = .bl (p y)) → mapO blA (ys.map f) = some (ys.map p)
  | [], _ => rfl
  | y :: ys, h => by
    rw [List.map_cons, List.map_cons, h y List.mem_cons_self]
    simp only [mapO, blA, mapO_blF ys (fun z hz => h z (List.mem_cons_of_mem _ hz))]
    rfl
theorem all_newF {β : Type} {f : β → A} {p : β → Bool} {ys : List β} {l : List O} (h : ∀ y ∈ ys, f y = .bl (p y)) : fAll B [.ref (B.length + t.length)] (t ++ .lst (ys.map f) :: l) = .ok (.bl (ys.all p)) (t ++ .lst (ys.map f) :: l) := by
  simp [fAll, fL1, rdL, mapO_blF ys h]
theorem all_new {bs : List Bool} {l : List O} : fAll B [.ref (B.length + t.length)] (t ++ .lst (bs.map A.bl) :: l) = .ok (.bl (bs.all id)) (t ++ .lst (bs.map A.bl) :: l) := by
  simp [fAll, fL1, rdL, mapO_bl]
theorem sum_new {bs : List Int} {l : List O} : fSum B [.ref (B.length + t.length)] (t ++ .lst (bs.map A.int) :: l) = .ok (.int bs.sum) (t ++ .lst (bs.map A.int) :: l) := by
  simp [fSum, fL1, rdL, mapO_int]
/-! garbage -/
theorem gc_ok {mf : MF} {j : List O} {as : List A} (h : mf B as t = .ok a (t ++ j)) (hb : below (B.length + t.length) a = true) : gcF mf B as t = .ok a t := by
  unfold gcF
  rw [h]
  exact cutR_same hb (by simp)
theorem gc_ok0 {mf : MF} {as : List A} (h : mf B as t = .ok a t) (hb : below (B.length + t.length) a = true) : gcF mf B as t = .ok a t := by
  unfold gcF
  rw [h]
  exact cutR_same hb (by simp)
theorem gc_exc {mf : MF} {as : List A} {c : Nat} {fs : List (Str × A)} (h : mf B as t = .exc c fs t1) : gcF mf B as t = .exc c fs t1 := by
  unfold gcF
  rw [h]
  rfl
/-- a def whose arguments name no object -/
theorem reach0 {hp : List O} : ∀ n, reach hp n [] = []
  | 0 => rfl
  | n + 1 => by
    unfold reach
    simp only [List.flatMap_nil, List.append_nil]
    exact reach0 n
mutual
theorem ren_free {f : Nat → Nat} : ∀ (a : A), refsA a = [] → ren f a = a
  | .ref n, h => by simp [refsA] at h
  | .tup xs, h => by unfold ren; rw [rens_free xs (by simpa [refsA] using h)]
  | .ktup xs, h => by unfold ren; rw [rens_free xs (by simpa [refsA] using h)]
  | .non, _ => rfl
  | .bl _, _ => rfl
  | .int _, _ => rfl
  | .str _, _ => rfl
  | .ty _, _ => rfl
  | .glo _, _ => rfl
theorem rens_free {f : Nat → Nat} : ∀ (as : List A), refsAs as = [] → rens f as = as
  | [], _ => rfl
  | x :: xs, h => by
    have h' : refsA x ++ refsAs xs = [] := by simpa [refsAs] using h
    rw [List.append_eq_nil_iff] at h'
    unfold rens
    rw [ren_free x h'.1, rens_free xs h'.2]
end
theorem fr_free {mf : MF} {as : List A} {t0 : List O} (hr : refsAs as = []) (h : mf [] as [] = .ok a t0) (ha : refsA a = []) : frF mf B as t = .ok a (t ++ t0.map (renO (bk [] (B.length + t.length)))) := by
  unfold frF
  rw [hr]
  have e : reach (B ++ t) 6 ([] : List Nat).eraseDups = [] := reach0 6
  rw [e, if_pos (by simp [okIs, hr]), rens_free as hr]
  have ep : pack (B ++ t) [] = [] := rfl
  rw [ep, h]
  simp only [List.length_nil, Nat.zero_le, if_true, ren_free a ha]
  rfl
theorem gcfr {mf : MF} {as : List A} {t0 : List O} (hr : refsAs as = []) (h : mf [] as [] = .ok a t0) (ha : refsA a = []) : gcF (frF mf) B as t = .ok a t :=
  gc_ok (fr_free hr h ha) (by unfold below; rw [ha]; rfl)
end
end Ev
end
section
set_option Elab.async false
set_option linter.all false
set_option maxRecDepth 100000
set_option maxHeartbeats 4000000
namespace K01
open PySem PySem.Spec PyProof.Rows L2 Ev
noncomputable section
def tab_FORMS : List (Str × A) := [("num", (.str "rn")), ("copy", (.str "rr")), ("add", (.str "rrr")), ("sub", (.str "rrr")), ("mul", (.str "rrr")), ("addr", (.str "rf")), ("same", (.str "rr")), ("less", (.str "rr")), ("in", (.str "r")), ("out", (.str "r")), ("push", (.str "x")), ("pop", (.str "x")), ("read", (.str "rk")), ("write", (.str "kr")), ("mark", (.str "l")), ("jump", (.str "l")), ("if", (.str "l")), ("unless", (.str "l")), ("call", (.str "f")), ("callr", (.str "r")), ("tail", (.str "f")), ("back", (.str "")), ("stop", (.str ""))]
def tab_SIZES : List (Str × A) := [("addr", (.int 3)), ("mark", (.int 0)), ("jump", (.int 2)), ("if", (.int 2)), ("unless", (.int 2)), ("call", (.int 2)), ("tail", (.int 2))]
def m_is_integer (B : List O) : MS := (mRet (mAndV (mCall (fIsi B) (mCons (mVar 0) (mCons (mCon (.ty "int")) mNil))) (mNotV (mCall (fIsi B) (mCons (mVar 0) (mCons (mCon (.ty "bool")) mNil))))))
def f_is_integer : MF := gcF (runF 1 m_is_integer)
def m_is_between (B : List O) : MS := (mRet (mAndV (mCallF B 1 f_is_integer (mCons (mVar 0) mNil)) (mChain fLe fLe (mVar 1) (mVar 0) (mVar 2))))
def f_is_between : MF := gcF (runF 3 m_is_between)
def m_is_number (B : List O) : MS := (mRet (mCallF B 3 f_is_between (mCons (mVar 0) (mCons (mUn fNeg (mCon (.int 2147483648))) (mCons (mBin fSub (mCon (.int 2147483648)) (mCon (.int 1))) mNil)))))
def f_is_number : MF := gcF (runF 1 m_is_number)
def m_is_word (B : List O) : MS := (mSeq (mIf (mOr (mNot (mTest (mCall (fIsi B) (mCons (mVar 0) (mCons (mCon (.ty "str")) mNil))))) (mNot (mTest (mChain fLe fLe (mCon (.int 1)) (mCall (fLen B) (mCons (mVar 0) mNil)) (mCon (.int 8)))))) (mRet (mCon (.bl false))) mNext) (mRet (mCall (fAll B) (mCons (mLc B [1] (mIStr (mVar 0)) (gN 1) mYes (mBin (fTIn false) (mVar 1) (mCon (.str "abcdefghijklmnopqrstuvwxyz")))) mNil))))
def f_is_word : MF := gcF (runF 2 m_is_word)
def m_is_list (B : List O) : MS := (mRet (mCall (fIsiT B) (mCons (mVar 0) (mCons (mTup (mCons (mCon (.ty "list")) (mCons (mCon (.ty "tuple")) mNil))) mNil))))
def f_is_list : MF := gcF (runF 1 m_is_list)
def m_own_copy (B : List O) : MS := (mSeq (mIf (mTest (mCall (fIsi B) (mCons (mVar 0) (mCons (mCon (.ty "list")) mNil)))) (mRet (fun _ _ => .bad)) mNext) (mSeq (mIf (mTest (mCall (fIsi B) (mCons (mVar 0) (mCons (mCon (.ty "tuple")) mNil)))) (mRet (fun _ _ => .bad)) mNext) (mSeq (mIf (mTest (mCall (fIsi B) (mCons (mVar 0) (mCons (mCon (.ty "dict")) mNil)))) (mRet (fun _ _ => .bad)) mNext) (mRet (mVar 0)))))
def f_own_copy : MF := gcF (runF 3 m_own_copy)
def m_is_part (B : List O) : MS := (mSeq (mIf (mOr (mTest (mBin (fEq B false) (mVar 0) (mCon (.str "r")))) (mAnd (mTest (mBin (fEq B false) (mVar 0) (mCon (.str "x")))) (mNot (mTest (mCall (fIsi B) (mCons (mVar 1) (mCons (mCon (.ty "str")) mNil))))))) (mRet (mCallF B 3 f_is_between (mCons (mVar 1) (mCons (mCon (.int 0)) (mCons (mBin fSub (mCon (.int 6)) (mCon (.int 1))) mNil))))) mNext) (mSeq (mIf (mTest (mBin (fEq B false) (mVar 0) (mCon (.str "x")))) (mRet (mBin (fEq B false) (mVar 1) (mCon (.str "link")))) mNext) (mSeq (mIf (mTest (mBin (fEq B false) (mVar 0) (mCon (.str "n")))) (mRet (mCallF B 1 f_is_number (mCons (mVar 1) mNil))) mNext) (mRet (mIte (mTest (mBin (fEq B false) (mVar 0) (mCon (.str "k")))) (mCallF B 3 f_is_between (mCons (mVar 1) (mCons (mCon (.int 0)) (mCons (mCon (.int 59)) mNil)))) (mCallF B 1 f_is_word (mCons (mVar 1) mNil)))))))
def f_is_part : MF := gcF (runF 2 m_is_part)
def m_is_line (B : List O) : MS := (mSeq (mIf (mOr (mNot (mTest (mCall (fIsi B) (mCons (mVar 0) (mCons (mCon (.ty "tuple")) mNil))))) (mOr (mTest (mBin fEq0 (mVar 0) (mTup mNil))) (mOr (mNot (mTest (mCall (fIsi B) (mCons (mBin (fIx B) (mVar 0) (mCon (.int 0))) (mCons (mCon (.ty "str")) mNil))))) (mTest (mBin (fKIn 9 tab_FORMS true) (mBin (fIx B) (mVar 0) (mCon (.int 0))) (mCon (.glo 9))))))) (mRet (mCon (.bl false))) mNext) (mSeq (mAsg (gN 1) (mBin (fKIx 9 tab_FORMS) (mCon (.glo 9)) (mBin (fIx B) (mVar 0) (mCon (.int 0))))) (mRet (mAndV (mBin (fEq B false) (mCall (fLen B) (mCons (mVar 0) mNil)) (mBin (fAdd B) (mCall (fLen B) (mCons (mVar 1) mNil)) (mCon (.int 1)))) (mCall (fAll B) (mCons (mLc B [2, 3] (mIZipS (mCons (mVar 1) (mCons (mSl B (mVar 0) (mO1 (mCon (.int 1))) mO0) mNil))) (gT [2, 3]) mYes (mCallF B 2 f_is_part (mCons (mVar 2) (mCons (mVar 3) mNil)))) mNil))))))
def f_is_line : MF := gcF (runF 4 m_is_line)
def m_size_of_line (B : List O) : MS := (mSeq (mIf (mTest (mBin (fEq B false) (mBin (fIx B) (mVar 0) (mCon (.int 0))) (mCon (.str "num")))) (mRet (mIte (mTest (mChain fLe fLe (mCon (.int (-8))) (mBin (fIx B) (mVar 0) (mCon (.int 2))) (mCon (.int 7)))) (mCon (.int 1)) (mCon (.int 3)))) mNext) (mRet (mKGet 10 tab_SIZES (mCon (.glo 10)) (mBin (fIx B) (mVar 0) (mCon (.int 0))) (mCon (.int 1)))))
def f_size_of_line : MF := gcF (runF 1 m_size_of_line)
def m_size_of_lines (B : List O) : MS := (mRet (mCall (fSum B) (mCons (mLc B [1] (mISeq B (mVar 0)) (gN 1) mYes (mCallF B 1 f_size_of_line (mCons (mVar 1) mNil))) mNil)))
def f_size_of_lines : MF := gcF (runF 2 m_size_of_lines)
def m_named (B : List O) : MS := (mRet (mIte (mTest (mBin (fSIn B false) (mBin (fIx B) (mVar 0) (mCon (.int 0))) (mTup (mCons (mCon (.str "call")) (mCons (mCon (.str "tail")) (mCons (mCon (.str "addr")) mNil)))))) (mBin (fIx B) (mVar 0) (mUn fNeg (mCon (.int 1)))) (mCon .non)))
def f_named : MF := gcF (runF 1 m_named)
def m_label_of (B : List O) : MS := (mRet (mIte (mTest (mBin (fSIn B false) (mBin (fIx B) (mVar 0) (mCon (.int 0))) (mTup (mCons (mCon (.str "mark")) (mCons (mCon (.str "jump")) (mCons (mCon (.str "if")) (mCons (mCon (.str "unless")) mNil))))))) (mBin (fIx B) (mVar 0) (mCon (.int 1))) (mCon .non)))
def f_label_of : MF := gcF (runF 1 m_label_of)
def m_is_call (B : List O) : MS := (mRet (mBin (fSIn B false) (mBin (fIx B) (mVar 0) (mCon (.int 0))) (mTup (mCons (mCon (.str "call")) (mCons (mCon (.str "callr")) mNil)))))
def f_is_call : MF := runF 1 m_is_call
def m_marks_of (B : List O) : MS := (mRet (mDc B [1, 2] (mIEnum B (mCons (mVar 0) mNil)) (gT [1, 2]) (mTest (mBin (fEq B false) (mBin (fIx B) (mVar 2) (mCon (.int 0))) (mCon (.str "mark")))) (mBin (fIx B) (mVar 2) (mCon (.int 1))) (mVar 1)))
def f_marks_of : MF := runF 3 m_marks_of
def m_ways_of (B : List O) : MS := (mSeq (mPar [1, 2] (mCons (mCallF B 1 f_marks_of (mCons (mVar 0) mNil)) (mCons (mLst B mNil) mNil))) (mSeq (mForS B (mIEnum B (mCons (mVar 0) mNil)) (gT [3, 4]) (mSeq (mAsg (gN 5) (mIte (mAnd (mTest (mBin (fSIn B true) (mBin (fIx B) (mVar 4) (mCon (.int 0))) (mCon (.ktup [(.str "jump"), (.str "back"), (.str "tail"), (.str "stop")])))) (mTest (mBin fLt (mBin (fAdd B) (mVar 3) (mCon (.int 1))) (mCall (fLen B) (mCons (mVar 0) mNil))))) (mDisp B [((mBin (fAdd B) (mVar 3) (mCon (.int 1))), (mCon (.bl true)))]) (mDic0 B))) (mSeq (mIf (mOr (mTest (mBin (fEq B false) (mBin (fIx B) (mVar 4) (mCon (.int 0))) (mCon (.str "jump")))) (mTest (mBin (fSIn B false) (mBin (fIx B) (mVar 4) (mCon (.int 0))) (mCon (.ktup [(.str "if"), (.str "unless")]))))) (mAsg (gSubA B (mVar 5) (mBin (fDGet B) (mVar 1) (mBin (fIx B) (mVar 4) (mCon (.int 1))))) (mCon (.bl true))) mNext) (mDrop (mMet B "list" (fAppend B) (mVar 2) (mCons (mCall (fTupOf B) (mCons (mCall (fSorted B) (mCons (mVar 5) mNil)) mNil)) mNil)))))) (mRet (mVar 2))))
def f_ways_of : MF := runF 6 m_ways_of
def m_reached_of (B : List O) : MS := (mSeq (mPar [1, 2, 3] (mCons (mCallF B 1 f_ways_of (mCons (mVar 0) mNil)) (mCons (mDisp B [((mCon (.int 0)), (mCon (.bl true)))]) (mCons (mLst B (mCons (mCon (.int 0)) mNil)) mNil)))) (mSeq (mWhile (mTest (mBin (fEq B true) (mVar 3) (mLst B mNil))) (mForS B (mISeq B (mBin (fIx B) (mVar 1) (mMet B "list" (fPop B) (mVar 3) mNil))) (gN 4) (mIf (mTest (mBin (fDIn B true) (mVar 4) (mVar 2))) (mSeq (mAsg (gSubA B (mVar 2) (mVar 4)) (mCon (.bl true))) (mDrop (mMet B "list" (fAppend B) (mVar 3) (mCons (mVar 4) mNil)))) mNext)) 1000) (mRet (mCall (fSorted B) (mCons (mVar 2) mNil)))))
def f_reached_of : MF := runF 5 m_reached_of
def m_row_behind (B : List O) : MS := (mSeq (mAsg (gN 2) (mBin (fIx B) (mVar 1) (mCon (.int 0)))) (mSeq (mIf (mTest (mBin (fEq B false) (mVar 2) (mCon (.str "push")))) (fun _ _ => .bad) mNext) (mSeq (mIf (mTest (mBin (fEq B false) (mVar 2) (mCon (.str "pop")))) (fun _ _ => .bad) mNext) (mSeq (mIf (mTest (mBin (fSIn B false) (mVar 2) (mTup (mCons (mCon (.str "read")) (mCons (mCon (.str "write")) mNil))))) (fun _ _ => .bad) mNext) (mRet (mIte (mAnd (mTest (mBin (fSIn B false) (mVar 2) (mTup (mCons (mCon (.str "back")) (mCons (mCon (.str "tail")) mNil))))) (mTest (mBin (fEq B true) (mVar 0) (mTup mNil)))) (mCon .non) (mVar 0)))))))
def f_row_behind : MF := runF 4 m_row_behind
def m_rows_of (B : List O) : MS := (mSeq (mPar [1, 2, 3] (mCons (mCallF B 1 f_ways_of (mCons (mVar 0) mNil)) (mCons (mDisp B [((mCon (.int 0)), (mTup mNil))]) (mCons (mLst B (mCons (mCon (.int 0)) mNil)) mNil)))) (mSeq (mWhile (mTest (mBin (fEq B true) (mVar 3) (mLst B mNil))) (mSeq (mAsg (gN 4) (mMet B "list" (fPop B) (mVar 3) mNil)) (mSeq (mAsg (gN 5) (mCallF B 2 f_row_behind (mCons (mBin (fDGet B) (mVar 2) (mVar 4)) (mCons (mBin (fIx B) (mVar 0) (mVar 4)) mNil)))) (mSeq (mIf (mTest (mBin (fIs false) (mVar 5) (mCon .non))) (mRet (mCon .non)) mNext) (mForS B (mISeq B (mBin (fIx B) (mVar 1) (mVar 4))) (gN 6) (mIf (mTest (mBin (fDIn B true) (mVar 6) (mVar 2))) (mSeq (mAsg (gSubA B (mVar 2) (mVar 6)) (mVar 5)) (mDrop (mMet B "list" (fAppend B) (mVar 3) (mCons (mVar 6) mNil)))) (mIf (mTest (mBin (fEq B true) (mBin (fDGet B) (mVar 2) (mVar 6)) (mVar 5))) (mRet (mCon .non)) mNext)))))) 1000) (mRet (mVar 2))))
def f_rows_of : MF := runF 7 m_rows_of
def m_is_own_behind (B : List O) : MS := (mSeq (mIf (mAnd (mTest (mBin (fEq B false) (mBin (fIx B) (mVar 0) (mCon (.int 0))) (mCon (.str "pop")))) (mTest (mBin (fEq B false) (mBin (fIx B) (mVar 0) (mCon (.int 1))) (mCon (.str "link"))))) (mRet (mCon (.bl true))) mNext) (mRet (mAndV (mVar 1) (mNotV (mCallF B 1 f_is_call (mCons (mVar 0) mNil))))))
def f_is_own_behind : MF := runF 2 m_is_own_behind
def m_own_of (B : List O) : MS := (mSeq (mPar [1, 2] (mCons (mCallF B 1 f_ways_of (mCons (mVar 0) mNil)) (mCons (mCallF B 1 f_reached_of (mCons (mVar 0) mNil)) mNil))) (mSeq (mAsg (gT [3, 4]) (mTup (mCons (mDc B [5] (mISeq B (mVar 2)) (gN 5) mYes (mVar 5) (mCon (.bl true))) (mCons (mCon (.bl true)) mNil)))) (mSeq (mWhile (mTest (mVar 4)) (mSeq (mAsg (gN 4) (mCon (.bl false))) (mForS B (mISeq B (mVar 2)) (gN 5) (mIf (mNot (mTest (mCallF B 2 f_is_own_behind (mCons (mBin (fIx B) (mVar 0) (mVar 5)) (mCons (mBin (fDGet B) (mVar 3) (mVar 5)) mNil))))) (mForS B (mISeq B (mBin (fIx B) (mVar 1) (mVar 5))) (gN 6) (mSeq (mAsg (gN 4) (mOrV (mVar 4) (mBin (fDGet B) (mVar 3) (mVar 6)))) (mAsg (gSubA B (mVar 3) (mVar 6)) (mCon (.bl false))))) mNext))) 1000) (mRet (mLc B [5] (mISeq B (mVar 2)) (gN 5) (mTest (mBin (fDGet B) (mVar 3) (mVar 5))) (mVar 5))))))
def f_own_of : MF := runF 7 m_own_of
def m_needs_own (B : List O) : MS := (mRet (mOrV (mBin (fSIn B false) (mBin (fIx B) (mVar 0) (mCon (.int 0))) (mTup (mCons (mCon (.str "back")) (mCons (mCon (.str "tail")) mNil)))) (mAndV (mBin (fEq B false) (mBin (fIx B) (mVar 0) (mCon (.int 0))) (mCon (.str "push"))) (mBin (fEq B false) (mBin (fIx B) (mVar 0) (mCon (.int 1))) (mCon (.str "link"))))))
def f_needs_own : MF := runF 1 m_needs_own
def m_ends_well (B : List O) : MS := (mRet (mOrV (mBin (fSIn B false) (mBin (fIx B) (mBin (fIx B) (mVar 0) (mUn fNeg (mCon (.int 1)))) (mCon (.int 0))) (mCon (.ktup [(.str "jump"), (.str "back"), (.str "tail"), (.str "stop")]))) (mBin (fSIn B true) (mBin fSub (mCall (fLen B) (mCons (mVar 0) mNil)) (mCon (.int 1))) (mCallF B 1 f_reached_of (mCons (mVar 0) mNil)))))
def f_ends_well : MF := runF 1 m_ends_well
def m_is_tidy (B : List O) : MS := (mSeq (mIf (mOr (mNot (mTest (mCallF B 1 f_ends_well (mCons (mVar 0) mNil)))) (mTest (mBin (fIs false) (mCallF B 1 f_rows_of (mCons (mVar 0) mNil)) (mCon .non)))) (mRet (mCon (.bl false))) mNext) (mSeq (mAsg (gN 1) (mCallF B 1 f_own_of (mCons (mVar 0) mNil))) (mRet (mCall (fAll B) (mCons (mLc B [2] (mISeq B (mCallF B 1 f_reached_of (mCons (mVar 0) mNil))) (gN 2) mYes (mOrV (mBin (fSIn B false) (mVar 2) (mVar 1)) (mNotV (mCallF B 1 f_needs_own (mCons (mBin (fIx B) (mVar 0) (mVar 2)) mNil))))) mNil)))))
def f_is_tidy : MF := gcF (frF (runF 3 m_is_tidy))
def m_need_functions (B : List O) : MS := (mSeq (mIf (mOr (mNot (mTest (mCall (fIsi B) (mCons (mVar 0) (mCons (mCon (.ty "dict")) mNil))))) (mOr (mNot (mTest (mChain fLe fLe (mCon (.int 1)) (mCall (fLen B) (mCons (mVar 0) mNil)) (mCon (.int 24))))) (mTest (mBin (fDIn B true) (mCon (.str "main")) (mVar 0))))) (fun _ _ => .bad) mNext) (mIf (mNot (mTest (mCall (fAll B) (mCons (mLc B [1] (mIN B ksA (mVar 0)) (gN 1) mYes (mAndV (mCallF B 1 f_is_word (mCons (mVar 1) mNil)) (mAndV (mCallF B 1 f_is_list (mCons (mBin (fDGet B) (mVar 0) (mVar 1)) mNil)) (mBin fGt (mCall (fLen B) (mCons (mBin (fDGet B) (mVar 0) (mVar 1)) mNil)) (mCon (.int 0)))))) mNil)))) (fun _ _ => .bad) mNext))
def f_need_functions : MF := gcF (runF 2 m_need_functions)
def m_need_lines (B : List O) : MS := (mForS B (mIN B ksA (mVar 0)) (gN 2) (mSeq (mPar [4, 5] (mCons (mBin (fDGet B) (mVar 0) (mVar 2)) (mCons (mDic0 B) mNil))) (mSeq (mAsg (gN 3) (mLc B [7] (mISeq B (mVar 4)) (gN 7) (mAnd (mTest (mCallF B 1 f_is_line (mCons (mVar 7) mNil))) (mTest (mBin (fEq B false) (mBin (fIx B) (mVar 7) (mCon (.int 0))) (mCon (.str "mark"))))) (mBin (fIx B) (mVar 7) (mCon (.int 1))))) (mForS B (mIEnum B (mCons (mVar 4) mNil)) (gT [6, 7]) (mSeq (mIf (mOr (mNot (mTest (mCallF B 1 f_is_line (mCons (mVar 7) mNil)))) (mOr (mTest (mBin (fSIn B false) (mBin (fIx B) (mVar 7) (mCon (.int 0))) (mVar 1))) (mAnd (mTest (mBin (fIs true) (mCallF B 1 f_named (mCons (mVar 7) mNil)) (mCon .non))) (mTest (mBin (fDIn B true) (mCallF B 1 f_named (mCons (mVar 7) mNil)) (mVar 0)))))) (mRaise B 1 ["name", "index"] f_own_copy (mCons (mVar 2) (mCons (mVar 6) mNil))) mNext) (mSeq (mIf (mOr (mAnd (mTest (mBin (fEq B false) (mBin (fIx B) (mVar 7) (mCon (.int 0))) (mCon (.str "mark")))) (mTest (mBin (fDIn B false) (mBin (fIx B) (mVar 7) (mCon (.int 1))) (mVar 5)))) (mAnd (mTest (mBin (fIs true) (mCallF B 1 f_label_of (mCons (mVar 7) mNil)) (mCon .non))) (mTest (mBin (fSIn B true) (mBin (fIx B) (mVar 7) (mCon (.int 1))) (mVar 3))))) (mRaise B 1 ["name", "index"] f_own_copy (mCons (mVar 2) (mCons (mVar 6) mNil))) mNext) (mIf (mTest (mBin (fEq B false) (mBin (fIx B) (mVar 7) (mCon (.int 0))) (mCon (.str "mark")))) (mAsg (gSubA B (mVar 5) (mBin (fIx B) (mVar 7) (mCon (.int 1)))) (mCon (.bl true))) mNext)))))))
def f_need_lines : MF := gcF (runF 8 m_need_lines)
def m_need_few (B : List O) : MS := (mSeq (mIf (mTest (mBin fGt (mCall (fMax B) (mCons (mLc B [1] (mIN B vsA (mVar 0)) (gN 1) mYes (mCall (fLen B) (mCons (mVar 1) mNil))) mNil)) (mCon (.int 60)))) (fun _ _ => .bad) mNext) (mIf (mTest (mBin fGt (mCall (fSum B) (mCons (mLc B [1] (mIN B vsA (mVar 0)) (gN 1) mYes (mCall (fLen B) (mCons (mVar 1) mNil))) mNil)) (mCon (.int 240)))) (fun _ _ => .bad) mNext))
def f_need_few : MF := gcF (runF 2 m_need_few)
def m_Program_barred (B : List O) : MS := (mRet (mTup mNil))
def f_Program_barred : MF := gcF (runF 1 m_Program_barred)
def m_Program_is_fine (B : List O) : MS := (mRet (mCallF B 1 f_is_tidy (mCons (mVar 1) mNil)))
def f_Program_is_fine : MF := gcF (runF 2 m_Program_is_fine)
def m_Program_need_fine (B : List O) : MS := (mSeq (mDrop (mCallF B 2 f_need_lines (mCons (mUn (fldC B [7] "own_functions") (mVar 0)) (mCons (mMethF0 B 7 "barred" f_Program_barred (mVar 0)) mNil)))) (mSeq (mDrop (mCallF B 1 f_need_few (mCons (mUn (fldC B [7] "own_functions") (mVar 0)) mNil))) (mForS B (mIN B ksA (mUn (fldC B [7] "own_functions") (mVar 0))) (gN 1) (mIf (mNot (mTest (mMethF B 7 "is_fine" 2 f_Program_is_fine (mVar 0) (mCons (mBin (fDGet B) (mUn (fldC B [7] "own_functions") (mVar 0)) (mVar 1)) mNil)))) (fun _ _ => .bad) mNext))))
def f_Program_need_fine : MF := gcF (runF 2 m_Program_need_fine)
def m_Program___init__ (B : List O) : MS := (mSeq (mIf (mTest (mCall (fIsiO B 6 ["dict"] []) (mCons (mVar 1) (mCons (mCon (.glo 6)) mNil)))) (fun _ _ => .bad) (mSeq (mDrop (mCallF B 1 f_need_functions (mCons (mVar 1) mNil))) (mAsg (gN 2) (mVar 1)))) (mSeq (mFld B [7] "own_functions" (mVar 0) (mDc B [3] (mISeq B (mCall (fSorted B) (mCons (mVar 2) mNil))) (gN 3) mYes (mVar 3) (mCall (fTupOf B) (mCons (mBin (fDGet B) (mVar 2) (mVar 3)) mNil)))) (mIf (mNot (mTest (mCall (fIsiO B 6 ["dict"] []) (mCons (mVar 1) (mCons (mCon (.glo 6)) mNil))))) (mDrop (mMethF0 B 7 "need_fine" f_Program_need_fine (mVar 0))) mNext)))
def f_Program___init__ : MF := runF 4 m_Program___init__
def m_Program_of (B : List O) : MS := (mSeq (mAsg (gN 2) (mDisp B [((mCon (.str "main")), (mVar 1))])) (mRet (mMakeL B 0 7 2 f_Program___init__ (mCons (mVar 2) mNil))))
def f_Program_of : MF := runF 3 m_Program_of
def m_Program_size_of_line (B : List O) : MS := (mRet (mCallF B 1 f_size_of_line (mCons (mVar 0) mNil)))
def f_Program_size_of_line : MF := gcF (runF 1 m_Program_size_of_line)
def m_Program_functions (B : List O) : MS := (mRet (mCall (fDicOf B) (mCons (mUn (fldC B [7] "own_functions") (mVar 0)) mNil)))
def f_Program_functions : MF := gcF (runF 1 m_Program_functions)
def m_Program_size (B : List O) : MS := (mRet (mCall (fSum B) (mCons (mLc B [1] (mIN B vsA (mUn (fldC B [7] "own_functions") (mVar 0))) (gN 1) mYes (mCallF B 1 f_size_of_lines (mCons (mVar 1) mNil))) mNil)))
def f_Program_size : MF := gcF (runF 2 m_Program_size)
def m__law_pen (B : List O) : MS := (mRet (mDisp B [((mCon (.str "cells")), (mCall (fLstOf B) (mCons (mSl B (mVar 0) mO0 (mO1 (mCon (.int 63)))) mNil))), ((mCon (.str "turn")), (mCon (.int 0))), ((mCon (.str "left")), (mCon (.int 0)))]))
def f__law_pen : MF := gcF (runF 1 m__law_pen)
def m__law_draw (B : List O) : MS := (mSeq (mIf (mTest (mBin fGt (mBin (fDGet B) (mVar 0) (mCon (.str "left"))) (mCon (.int 0)))) (mSeq (mAsg (gN 2) (mBin fMod (mCall fInt (mCons (mBin (fDGet B) (mVar 0) (mCon (.str "left"))) mNil)) (mVar 1))) (mSeq (mAsg (gSubA B (mVar 0) (mCon (.str "left"))) (mBin fDiv (mBin (fDGet B) (mVar 0) (mCon (.str "left"))) (mVar 1))) (mRet (mVar 2)))) mNext) (mSeq (mAsg (gN 3) (mBin (fDGet B) (mVar 0) (mCon (.str "turn")))) (mSeq (mAsg (gSubA B (mVar 0) (mCon (.str "turn"))) (mBin (fAdd B) (mVar 3) (mCon (.int 1)))) (mSeq (mAsg (gN 4) (mBin (fAdd B) (mBin fMul (mCon (.int 43)) (mVar 3)) (mCon (.int 19)))) (mSeq (mIf (mTest (mBin (fEq B true) (mBin (fDGet B) (mVar 0) (mCon (.str "cells"))) (mLst B mNil))) (mAsg (gN 4) (mBin (fIx B) (mBin (fDGet B) (mVar 0) (mCon (.str "cells"))) (mBin fMod (mCall fInt (mCons (mVar 3) mNil)) (mCall (fLen B) (mCons (mBin (fDGet B) (mVar 0) (mCon (.str "cells"))) mNil))))) mNext) (mSeq (mIf (mAnd (mTest (mBin fLt (mVar 3) (mCall (fLen B) (mCons (mBin (fDGet B) (mVar 0) (mCon (.str "cells"))) mNil)))) (mTest (mBin fGe (mCall fAbs (mCons (mVar 4) mNil)) (mBin fPow (mCon (.int 10)) (mCon (.int 18)))))) (mSeq (mAsg (gSubA B (mVar 0) (mCon (.str "left"))) (mBin fDiv (mBin fSub (mCall fAbs (mCons (mVar 4) mNil)) (mBin fPow (mCon (.int 10)) (mCon (.int 18)))) (mVar 1))) (mRet (mBin fMod (mBin fSub (mCall fAbs (mCons (mVar 4) mNil)) (mBin fPow (mCon (.int 10)) (mCon (.int 18)))) (mVar 1)))) mNext) (mSeq (mAsg (gN 5) (mLst B (mCons (mCon (.int 2147483629)) (mCons (mCon (.int 2147483647)) (mCons (mCon (.int 2147483587)) (mCons (mCon (.int 2147483563)) (mCons (mCon (.int 2147483579)) mNil))))))) (mSeq (mAsg (gN 6) (mBin (fIx B) (mVar 5) (mBin fMod (mCall fInt (mCons (mVar 3) mNil)) (mCon (.int 5))))) (mSeq (mAsg (gN 7) (mBin fMod (mCall fInt (mCons (mBin (fAdd B) (mBin (fAdd B) (mBin fMul (mBin fMod (mCall fInt (mCons (mVar 4) mNil)) (mVar 6)) (mCon (.int 39373))) (mBin fMul (mVar 3) (mBin (fAdd B) (mBin fMul (mCon (.int 30011)) (mVar 3)) (mCon (.int 8117))))) (mCon (.int 23))) mNil)) (mVar 6))) (mSeq (mAsg (gN 7) (mBin fMod (mCall fInt (mCons (mBin fMul (mVar 7) (mBin (fAdd B) (mVar 7) (mCon (.int 69621)))) mNil)) (mBin (fIx B) (mVar 5) (mBin fMod (mCall fInt (mCons (mBin (fAdd B) (mVar 3) (mCon (.int 2))) mNil)) (mCon (.int 5)))))) (mRet (mBin fMod (mCall fInt (mCons (mBin fDiv (mBin fMod (mCall fInt (mCons (mBin (fAdd B) (mBin (fAdd B) (mBin fMul (mVar 7) (mVar 7)) (mBin fMul (mCon (.int 16807)) (mVar 7))) (mVar 3)) mNil)) (mCon (.int 2147483549))) (mCon (.int 64))) mNil)) (mVar 1)))))))))))))
def f__law_draw : MF := gcF (runF 8 m__law_draw)
def m__law_pick (B : List O) : MS := (mRet (mBin (fIx B) (mVar 1) (mCallF B 2 f__law_draw (mCons (mVar 0) (mCons (mCall (fLen B) (mCons (mVar 1) mNil)) mNil)))))
def f__law_pick : MF := gcF (runF 2 m__law_pick)
def m__law_number (B : List O) : MS := (mSeq (mAsg (gN 1) (mBin fSub (mCallF B 2 f__law_draw (mCons (mVar 0) (mCons (mCon (.int 16)) mNil))) (mCon (.int 8)))) (mRet (mCallF B 2 f__law_pick (mCons (mVar 0) (mCons (mLst B (mCons (mVar 1) (mCons (mVar 1) (mCons (mVar 1) (mCons (mVar 1) (mCons (mCon (.int 8)) (mCons (mUn fNeg (mCon (.int 9))) (mCons (mBin (fAdd B) (mCon (.int 1000)) (mVar 1)) (mCons (mBin fSub (mBin fPow (mCon (.int 2)) (mCon (.int 31))) (mCon (.int 1))) (mCons (mBin fSub (mCon (.int 0)) (mBin fPow (mCon (.int 2)) (mCon (.int 31)))) mNil)))))))))) mNil)))))
def f__law_number : MF := gcF (runF 2 m__law_number)
def m__law_forms (B : List O) : MS := (mSeq (mAsg (gN 0) (mDisp B [((mCon (.str "num")), (mCon (.str "rn"))), ((mCon (.str "copy")), (mCon (.str "rr"))), ((mCon (.str "add")), (mCon (.str "rrr"))), ((mCon (.str "sub")), (mCon (.str "rrr"))), ((mCon (.str "mul")), (mCon (.str "rrr"))), ((mCon (.str "addr")), (mCon (.str "rf"))), ((mCon (.str "same")), (mCon (.str "rr")))])) (mSeq (mDrop (mMet B "dict" (fUpdate B) (mVar 0) (mCons (mDisp B [((mCon (.str "less")), (mCon (.str "rr"))), ((mCon (.str "in")), (mCon (.str "r"))), ((mCon (.str "out")), (mCon (.str "r"))), ((mCon (.str "push")), (mCon (.str "x"))), ((mCon (.str "pop")), (mCon (.str "x"))), ((mCon (.str "read")), (mCon (.str "rk"))), ((mCon (.str "write")), (mCon (.str "kr")))]) mNil))) (mSeq (mDrop (mMet B "dict" (fUpdate B) (mVar 0) (mCons (mDisp B [((mCon (.str "mark")), (mCon (.str "l"))), ((mCon (.str "jump")), (mCon (.str "l"))), ((mCon (.str "if")), (mCon (.str "l"))), ((mCon (.str "unless")), (mCon (.str "l"))), ((mCon (.str "call")), (mCon (.str "f"))), ((mCon (.str "callr")), (mCon (.str "r"))), ((mCon (.str "tail")), (mCon (.str "f")))]) mNil))) (mSeq (mDrop (mMet B "dict" (fUpdate B) (mVar 0) (mCons (mDisp B [((mCon (.str "back")), (mCon (.str ""))), ((mCon (.str "stop")), (mCon (.str "")))]) mNil))) (mRet (mVar 0))))))
def f__law_forms : MF := gcF (frF (runF 1 m__law_forms))
def m__law_any_part (B : List O) : MS := (mSeq (mAsg (gN 1) (mLst B (mCons (mCon .non) (mCons (mCon (.bl true)) (mCons (mCon (.bl false)) (mCons (mUn fNeg (mCon (.int 1))) (mCons (mCon (.int 6)) (mCons (mCon (.int 60)) (mCons (mBin fPow (mCon (.int 2)) (mCon (.int 31))) (mCons (mBin fSub (mBin fSub (mCon (.int 0)) (mBin fPow (mCon (.int 2)) (mCon (.int 31)))) (mCon (.int 1))) (mCons (mBin fPow (mCon (.int 10)) (mCon (.int 59))) (mCons (mCon (.str "")) (mCons (mCon (.str "A")) (mCons (mCon (.str "abcdefghi")) (mCons (mCon (.str "link")) (mCons (mCon (.str "a b")) mNil)))))))))))))))) (mRet (mCallF B 2 f__law_pick (mCons (mVar 0) (mCons (mBin (fAdd B) (mVar 1) (mLst B (mCons (mTup (mCons (mCon (.int 0)) mNil)) (mCons (mLst B (mCons (mCon (.int 0)) mNil)) (mCons (mDic0 B) (mCons (mCon (.int 0)) (mCons (mCon (.int 5)) (mCons (mCon (.int 59)) (mCons (mCon (.str "main")) (mCons (mCon (.str "a")) (mCons (mCon (.str "zz")) (mCons (mBin fSub (mBin fPow (mCon (.int 2)) (mCon (.int 31))) (mCon (.int 1))) mNil)))))))))))) mNil)))))
def f__law_any_part : MF := gcF (runF 2 m__law_any_part)
def m__law_part (B : List O) : MS := (mSeq (mIf (mOr (mTest (mBin (fEq B false) (mVar 1) (mCon (.str "r")))) (mAnd (mTest (mBin (fEq B false) (mVar 1) (mCon (.str "x")))) (mTest (mBin (fEq B false) (mCallF B 2 f__law_draw (mCons (mVar 0) (mCons (mCon (.int 2)) mNil))) (mCon (.int 0)))))) (mRet (mCallF B 2 f__law_draw (mCons (mVar 0) (mCons (mCon (.int 6)) mNil)))) mNext) (mSeq (mIf (mTest (mBin (fEq B false) (mVar 1) (mCon (.str "x")))) (mRet (mCon (.str "link"))) mNext) (mSeq (mIf (mTest (mBin (fEq B false) (mVar 1) (mCon (.str "n")))) (mRet (mCallF B 1 f__law_number (mCons (mVar 0) mNil))) mNext) (mRet (mIte (mTest (mBin (fEq B false) (mVar 1) (mCon (.str "k")))) (mCallF B 2 f__law_pick (mCons (mVar 0) (mCons (mLst B (mCons (mCon (.int 0)) (mCons (mCon (.int 1)) (mCons (mCon (.int 59)) mNil)))) mNil))) (mBin (fIx B) (mLst B (mCons (mCon (.str "a")) (mCons (mCon (.str "main")) mNil))) (mCall fInt (mCons (mBin (fEq B false) (mVar 1) (mCon (.str "f"))) mNil))))))))
def f__law_part : MF := gcF (runF 2 m__law_part)
def m__law_is_part (B : List O) : MS := (mSeq (mAsg (gN 2) (mAndV (mCall (fIsi B) (mCons (mVar 1) (mCons (mCon (.ty "int")) mNil))) (mNotV (mCall (fIsi B) (mCons (mVar 1) (mCons (mCon (.ty "bool")) mNil)))))) (mSeq (mIf (mTest (mBin (fEq B false) (mVar 0) (mCon (.str "n")))) (mRet (mAndV (mVar 2) (mChain fLe fLt (mBin fSub (mCon (.int 0)) (mBin fPow (mCon (.int 2)) (mCon (.int 31)))) (mVar 1) (mBin fPow (mCon (.int 2)) (mCon (.int 31)))))) mNext) (mSeq (mIf (mTest (mBin (fEq B false) (mVar 0) (mCon (.str "k")))) (mRet (mAndV (mVar 2) (mChain fLe fLe (mCon (.int 0)) (mVar 1) (mCon (.int 59))))) mNext) (mSeq (mIf (mTest (mBin (fEq B false) (mVar 0) (mCon (.str "f")))) (mRet (mAndV (mCall (fIsi B) (mCons (mVar 1) (mCons (mCon (.ty "str")) mNil))) (mBin (fEq B false) (mVar 1) (mCon (.str "main"))))) mNext) (mSeq (mIf (mTest (mBin (fEq B false) (mVar 0) (mCon (.str "l")))) (mRet (mAndV (mCall (fIsi B) (mCons (mVar 1) (mCons (mCon (.ty "str")) mNil))) (mBin (fEq B false) (mVar 1) (mCon (.str "a"))))) mNext) (mRet (mOrV (mAndV (mVar 2) (mChain fLe fLe (mCon (.int 0)) (mVar 1) (mCon (.int 5)))) (mAndV (mBin (fEq B false) (mVar 0) (mCon (.str "x"))) (mAndV (mCall (fIsi B) (mCons (mVar 1) (mCons (mCon (.ty "str")) mNil))) (mBin (fEq B false) (mVar 1) (mCon (.str "link"))))))))))))
def f__law_is_part : MF := gcF (runF 3 m__law_is_part)
def m__law_is_line (B : List O) : MS := (mSeq (mIf (mOr (mNot (mTest (mCall (fIsi B) (mCons (mVar 0) (mCons (mCon (.ty "tuple")) mNil))))) (mOr (mTest (mBin fEq0 (mVar 0) (mTup mNil))) (mOr (mNot (mTest (mCall (fIsi B) (mCons (mBin (fIx B) (mVar 0) (mCon (.int 0))) (mCons (mCon (.ty "str")) mNil))))) (mTest (mBin (fDIn B true) (mBin (fIx B) (mVar 0) (mCon (.int 0))) (mCallF0 B f__law_forms)))))) (mRet (mCon (.bl false))) mNext) (mSeq (mAsg (gN 1) (mBin (fDGet B) (mCallF0 B f__law_forms) (mBin (fIx B) (mVar 0) (mCon (.int 0))))) (mSeq (mIf (mTest (mBin (fEq B true) (mCall (fLen B) (mCons (mVar 0) mNil)) (mBin (fAdd B) (mCall (fLen B) (mCons (mVar 1) mNil)) (mCon (.int 1))))) (mRet (mCon (.bl false))) mNext) (mRet (mBin (fEq B false) (mLc B [2] (mIRng1 (mCons (mCall (fLen B) (mCons (mVar 1) mNil)) mNil)) (gN 2) (mNot (mTest (mCallF B 2 f__law_is_part (mCons (mBin (fIx B) (mVar 1) (mVar 2)) (mCons (mBin (fIx B) (mVar 0) (mBin (fAdd B) (mVar 2) (mCon (.int 1)))) mNil))))) (mVar 2)) (mLst B mNil))))))
def f__law_is_line : MF := gcF (runF 3 m__law_is_line)
def m__law_size (B : List O) : MS := (mSeq (mIf (mTest (mBin (fEq B false) (mBin (fIx B) (mVar 0) (mCon (.int 0))) (mCon (.str "num")))) (mRet (mIte (mTest (mChain fLe fLe (mUn fNeg (mCon (.int 8))) (mBin (fIx B) (mVar 0) (mCon (.int 2))) (mCon (.int 7)))) (mCon (.int 1)) (mCon (.int 3)))) mNext) (mRet (mDGet2 B (mDisp B [((mCon (.str "addr")), (mCon (.int 3))), ((mCon (.str "mark")), (mCon (.int 0))), ((mCon (.str "jump")), (mCon (.int 2))), ((mCon (.str "if")), (mCon (.int 2))), ((mCon (.str "unless")), (mCon (.int 2))), ((mCon (.str "call")), (mCon (.int 2))), ((mCon (.str "tail")), (mCon (.int 2)))]) (mBin (fIx B) (mVar 0) (mCon (.int 0))) (mCon (.int 1)))))
def f__law_size : MF := gcF (frF (runF 1 m__law_size))
def m__law_candidate (B : List O) : MS := (mSeq (mAsg (gN 1) (mCallF B 2 f__law_pick (mCons (mVar 0) (mCons (mLc B [1] (mIN B ksA (mCallF0 B f__law_forms)) (gN 1) (mTest (mBin (fEq B true) (mVar 1) (mCon (.str "mark")))) (mVar 1)) mNil)))) (mSeq (mAsg (gN 2) (mBin (fAdd B) (mLst B (mCons (mVar 1) mNil)) (mLc B [3] (mIStr (mBin (fDGet B) (mCallF0 B f__law_forms) (mVar 1))) (gN 3) mYes (mCallF B 2 f__law_part (mCons (mVar 0) (mCons (mVar 3) mNil)))))) (mSeq (mAsg (gN 4) (mCallF B 2 f__law_draw (mCons (mVar 0) (mCons (mCon (.int 8)) mNil)))) (mSeq (mIf (mTest (mBin (fEq B false) (mVar 4) (mCon (.int 0)))) (mAsg (gSubA B (mVar 2) (mCallF B 2 f__law_draw (mCons (mVar 0) (mCons (mCall (fLen B) (mCons (mVar 2) mNil)) mNil)))) (mCallF B 1 f__law_any_part (mCons (mVar 0) mNil))) mNext) (mSeq (mIf (mTest (mBin (fEq B false) (mVar 4) (mCon (.int 1)))) (mDrop (mMet B "list" (fInsert B) (mVar 2) (mCons (mCallF B 2 f__law_draw (mCons (mVar 0) (mCons (mBin (fAdd B) (mCall (fLen B) (mCons (mVar 2) mNil)) (mCon (.int 1))) mNil))) (mCons (mCallF B 1 f__law_any_part (mCons (mVar 0) mNil)) mNil)))) mNext) (mSeq (mIf (mTest (mBin (fEq B false) (mVar 4) (mCon (.int 2)))) (mDrop (mMet B "list" (fPopAt B) (mVar 2) (mCons (mCallF B 2 f__law_draw (mCons (mVar 0) (mCons (mCall (fLen B) (mCons (mVar 2) mNil)) mNil))) mNil))) mNext) (mSeq (mIf (mTest (mBin (fEq B false) (mVar 4) (mCon (.int 3)))) (mRet (mCallF B 2 f__law_pick (mCons (mVar 0) (mCons (mLst B (mCons (mVar 2) (mCons (mCallF B 1 f__law_any_part (mCons (mVar 0) mNil)) (mCons (mTup (mCons (mCall (fTupOf B) (mCons (mVar 2) mNil)) mNil)) (mCons (mTup (mCons (mCon (.str "nothing")) (mCons (mCon (.int 0)) mNil))) (mCons (mTup (mCons (mCon (.str "num")) (mCons (mCon (.int 0)) (mCons (mCon (.int 1)) (mCons (mCon (.int 2)) mNil))))) (mCons (mDisp B [((mCon (.str "num")), (mCon (.int 0)))]) mNil))))))) mNil)))) mNext) (mRet (mCall (fTupOf B) (mCons (mVar 2) mNil))))))))))
def f__law_candidate : MF := gcF (runF 5 m__law_candidate)
def m_law (B : List O) : MS := (mSeq (mAsg (gN 1) (mCallF B 1 f__law_pen (mCons (mVar 0) mNil))) (mSeq (mForS B (mIRng1 (mCons (mBin (fAdd B) (mCon (.int 20)) (mCall (fI2 fun i j => if j < i then j else i) (mCons (mCon (.int 20)) (mCons (mCall (fLen B) (mCons (mVar 0) mNil)) mNil)))) mNil)) (gN 2) (mScope B [5, 6, 3, 4, 7] (mSeq (mPar [5, 6] (mCons (mCallF B 1 f__law_candidate (mCons (mVar 1) mNil)) (mCons (mCallF B 2 f__law_draw (mCons (mVar 1) (mCons (mCon (.int 3)) mNil))) mNil))) (mSeq (mAsg (gN 3) (mBin (fAdd B) (mBin (fRep B) (mLst B (mCons (mTup (mCons (mCon (.str "out")) (mCons (mCon (.int 0)) mNil))) mNil)) (mVar 6)) (mLst B (mCons (mTup (mCons (mCon (.str "jump")) (mCons (mCon (.str "b")) mNil))) (mCons (mVar 5) (mCons (mTup (mCons (mCon (.str "mark")) (mCons (mCon (.str "a")) mNil))) (mCons (mTup (mCons (mCon (.str "mark")) (mCons (mCon (.str "b")) mNil))) (mCons (mTup (mCons (mCon (.str "stop")) mNil)) mNil)))))))) (mSeq (mAsg (gN 4) (mCall (fRepr B) (mCons (mVar 3) mNil))) (mIf (mNot (mTest (mCallF B 1 f__law_is_line (mCons (mVar 5) mNil)))) (mIf (mOr (mTest (mBin (fEq B true) (mGcE B (mTry1 1 (fIx2 "name" "index") (mMakeF B 7 2 f_Program___init__ (mCons (mDisp B [((mCon (.str "main")), (mVar 3))]) mNil)))) (mTup (mCons (mCon (.str "main")) (mCons (mBin (fAdd B) (mVar 6) (mCon (.int 1))) mNil))))) (mTest (mBin (fEq B true) (mCall (fRepr B) (mCons (mVar 3) mNil)) (mVar 4)))) (mRet (mCon (.bl false))) mNext) (mSeq (mAsg (gN 7) (mMakeF B 7 2 f_Program___init__ (mCons (mDisp B [((mCon (.str "main")), (mCall (fTupOf B) (mCons (mVar 3) mNil)))]) mNil))) (mSeq (mIf (mOr (mTest (mBin (fEq B true) (mCall (fRepr B) (mCons (mProp B 7 f_Program_functions (mVar 7)) mNil)) (mCall (fRepr B) (mCons (mDisp B [((mCon (.str "main")), (mCall (fTupOf B) (mCons (mVar 3) mNil)))]) mNil)))) (mTest (mBin (fEq B true) (mCall (fRepr B) (mCons (mVar 3) mNil)) (mVar 4)))) (mRet (mCon (.bl false))) mNext) (mIf (mOr (mTest (mBin (fEq B true) (mCall (fRepr B) (mCons (mProp B 7 f_Program_size (mVar 7)) mNil)) (mCall (fRepr B) (mCons (mBin (fAdd B) (mBin (fAdd B) (mBin (fAdd B) (mVar 6) (mCon (.int 2))) (mCallF B 1 f__law_size (mCons (mVar 5) mNil))) (mCon (.int 1))) mNil)))) (mTest (mBin (fEq B true) (mSMeth B 7 1 f_Program_size_of_line (mCon (.glo 7)) (mCons (mVar 5) mNil)) (mCallF B 1 f__law_size (mCons (mVar 5) mNil))))) (mRet (mCon (.bl false))) mNext))))))))) (mSeq (mAsg (gN 8) (mLst B (mCons (mTup (mCons (mCon (.str "mark")) (mCons (mCon (.str "a")) mNil))) (mCons (mTup (mCons (mCon (.str "out")) (mCons (mCon (.int 0)) mNil))) (mCons (mTup (mCons (mCon (.str "mark")) (mCons (mCon (.str "a")) mNil))) (mCons (mTup (mCons (mCon (.str "stop")) mNil)) mNil)))))) (mRet (mBin (fEq B false) (mGcE B (mTry1 1 (fIx2 "name" "index") (mCMeth B 7 f_Program_of (mCon (.glo 7)) (mCons (mBin (fIx B) (mVar 8) (mCon (.int 0))) (mCons (mBin (fIx B) (mVar 8) (mCon (.int 1))) (mCons (mBin (fIx B) (mVar 8) (mCon (.int 2))) (mCons (mBin (fIx B) (mVar 8) (mCon (.int 3))) mNil))))))) (mTup (mCons (mCon (.str "main")) (mCons (mCon (.int 2)) mNil))))))))
def f_law : MF := runF 9 m_law
end
end K01
end
section
set_option Elab.async false
set_option linter.all false
set_option maxRecDepth 100000
set_option maxHeartbeats 4000000
namespace K01
open PySem PySem.Spec PyProof.Rows L2 Ev
def gm (K : PySem.W.Frag) : Gm := ⟨[He.ga K "InvalidFunctions", He.ga K "InvalidLine", He.ga K "InvalidText", He.ga K "Untidy", He.ga K "UnknownName", He.ga K "TooMany", He.ga K "Parts", He.ga K "Program", He.ga K "BareProgram", He.ga K "FORMS", He.ga K "SIZES"], [((He.cT K ("law", none)).2, ("law" : Str) ++ ".<locals>." ++ "<lambda>")]⟩
structure U (w : World) (K : PySem.W.Frag) (mg : Str → Option Value) : Prop where
  f_int : mg "int" = none
  f_isinstance : mg "isinstance" = none
  f_bool : mg "bool" = none
  d_is_integer : ∃ fd, FunD K "is_integer" "is_integer" (defArgs (top 5)) (defBody (top 5)) (defScope (top 5)) [] [] (He.ga K "is_integer") fd
  g_is_integer : mg "is_integer" = some (.ref (He.ga K "is_integer"))
  kp_is_integer : PySem.W.keepIn K (.ref (He.ga K "is_integer")) = true
  d_is_between : ∃ fd, FunD K "is_between" "is_between" (defArgs (top 6)) (defBody (top 6)) (defScope (top 6)) [] [] (He.ga K "is_between") fd
  g_is_between : mg "is_between" = some (.ref (He.ga K "is_between"))
  i_HALF : ∃ t, mg "HALF" = some (.int 2147483648 t)
  kp_is_between : PySem.W.keepIn K (.ref (He.ga K "is_between")) = true
  d_is_number : ∃ fd, FunD K "is_number" "is_number" (defArgs (top 7)) (defBody (top 7)) (defScope (top 7)) [] [] (He.ga K "is_number") fd
  f_str : mg "str" = none
  f_len : mg "len" = none
  i_MOST_LETTERS : ∃ t, mg "MOST_LETTERS" = some (.int 8 t)
  s_LETTERS : ∃ t, mg "LETTERS" = some (.str "abcdefghijklmnopqrstuvwxyz" t)
  f_all : mg "all" = none
  d_is_word : ∃ fd, FunD K "is_word" "is_word" (defArgs (top 8)) (defBody (top 8)) (defScope (top 8)) [] [] (He.ga K "is_word") fd
  f_tuple : mg "tuple" = none
  f_list : mg "list" = none
  d_is_list : ∃ fd, FunD K "is_list" "is_list" (defArgs (top 9)) (defBody (top 9)) (defScope (top 9)) [] [] (He.ga K "is_list") fd
  f_dict : mg "dict" = none
  d_own_copy : ∃ fd, FunD K "own_copy" "own_copy" (defArgs (top 11)) (defBody (top 11)) (defScope (top 11)) [] [] (He.ga K "own_copy") fd
  oex_InvalidLine : OexG K (He.ga K "InvalidLine")
  try_InvalidLine : TryC K (He.ga K "InvalidLine") "ValueError" "name" "index"
  d_InvalidLine_init : InitF P0 K mg (He.ga K "InvalidLine") (He.ma K (He.ga K "InvalidLine") "__init__") "__init__" "InvalidLine.__init__" (meth 13 0)
  g_own_copy : mg "own_copy" = some (.ref (He.ga K "own_copy"))
  kp_own_copy : PySem.W.keepIn K (.ref (He.ga K "own_copy")) = true
  i_REGISTERS : ∃ t, mg "REGISTERS" = some (.int 6 t)
  s_LINK : ∃ t, mg "LINK" = some (.str "link" t)
  g_is_number : mg "is_number" = some (.ref (He.ga K "is_number"))
  kp_is_number : PySem.W.keepIn K (.ref (He.ga K "is_number")) = true
  i_MOST_DEEP : ∃ t, mg "MOST_DEEP" = some (.int 59 t)
  g_is_word : mg "is_word" = some (.ref (He.ga K "is_word"))
  kp_is_word : PySem.W.keepIn K (.ref (He.ga K "is_word")) = true
  d_is_part : ∃ fd, FunD K "is_part" "is_part" (defArgs (top 31)) (defBody (top 31)) (defScope (top 31)) [] [] (He.ga K "is_part") fd
  g_FORMS : mg "FORMS" = some (.ref (He.ga K "FORMS"))
  k_FORMS : KTab (gm K) K w 9 tab_FORMS
  f_zip : mg "zip" = none
  g_is_part : mg "is_part" = some (.ref (He.ga K "is_part"))
  kp_is_part : PySem.W.keepIn K (.ref (He.ga K "is_part")) = true
  d_is_line : ∃ fd, FunD K "is_line" "is_line" (defArgs (top 32)) (defBody (top 32)) (defScope (top 32)) [] [] (He.ga K "is_line") fd
  i_LEAST_SHORT : ∃ t, mg "LEAST_SHORT" = some (.int (-8) t)
  i_MOST_SHORT : ∃ t, mg "MOST_SHORT" = some (.int 7 t)
  g_SIZES : mg "SIZES" = some (.ref (He.ga K "SIZES"))
  k_SIZES : KTab (gm K) K w 10 tab_SIZES
  d_size_of_line : ∃ fd, FunD K "size_of_line" "size_of_line" (defArgs (top 33)) (defBody (top 33)) (defScope (top 33)) [] [] (He.ga K "size_of_line") fd
  g_size_of_line_lines : mg "size_of_line_lines" = some (.ref (He.ga K "size_of_line"))
  kp_size_of_line : PySem.W.keepIn K (.ref (He.ga K "size_of_line")) = true
  f_sum : mg "sum" = none
  d_size_of_lines : ∃ fd, FunD K "size_of_lines" "size_of_lines" (defArgs (top 35)) (defBody (top 35)) (defScope (top 35)) [] [] (He.ga K "size_of_lines") fd
  d_named : ∃ fd, FunD K "named" "named" (defArgs (top 36)) (defBody (top 36)) (defScope (top 36)) [] [] (He.ga K "named") fd
  d_label_of : ∃ fd, FunD K "label_of" "label_of" (defArgs (top 37)) (defBody (top 37)) (defScope (top 37)) [] [] (He.ga K "label_of") fd
  d_is_call : ∃ fd, FunD K "is_call" "is_call" (defArgs (top 38)) (defBody (top 38)) (defScope (top 38)) [] [] (He.ga K "is_call") fd
  f_enumerate : mg "enumerate" = none
  d_marks_of : ∃ fd, FunD K "marks_of" "marks_of" (defArgs (top 39)) (defBody (top 39)) (defScope (top 39)) [] [] (He.ga K "marks_of") fd
  g_marks_of : mg "marks_of" = some (.ref (He.ga K "marks_of"))
  kp_marks_of : PySem.W.keepIn K (.ref (He.ga K "marks_of")) = true
  g_ENDS : mg "ENDS" = some (.ref (He.ga K "ENDS"))
  t_ENDS : SqT K (fun _ => none) (He.ga K "ENDS") [(.str "jump"), (.str "back"), (.str "tail"), (.str "stop")]
  g_BRANCHES : mg "BRANCHES" = some (.ref (He.ga K "BRANCHES"))
  t_BRANCHES : SqT K (fun _ => none) (He.ga K "BRANCHES") [(.str "if"), (.str "unless")]
  f_sorted : mg "sorted" = none
  d_ways_of : ∃ fd, FunD K "ways_of" "ways_of" (defArgs (top 40)) (defBody (top 40)) (defScope (top 40)) [] [] (He.ga K "ways_of") fd
  g_ways_of : mg "ways_of" = some (.ref (He.ga K "ways_of"))
  kp_ways_of : PySem.W.keepIn K (.ref (He.ga K "ways_of")) = true
  d_reached_of : ∃ fd, FunD K "reached_of" "reached_of" (defArgs (top 41)) (defBody (top 41)) (defScope (top 41)) [] [] (He.ga K "reached_of") fd
  d_row_behind : ∃ fd, FunD K "row_behind" "row_behind" (defArgs (top 44)) (defBody (top 44)) (defScope (top 44)) [] [] (He.ga K "row_behind") fd
  g_row_behind : mg "row_behind" = some (.ref (He.ga K "row_behind"))
  kp_row_behind : PySem.W.keepIn K (.ref (He.ga K "row_behind")) = true
  d_rows_of : ∃ fd, FunD K "rows_of" "rows_of" (defArgs (top 45)) (defBody (top 45)) (defScope (top 45)) [] [] (He.ga K "rows_of") fd
  g_is_call : mg "is_call" = some (.ref (He.ga K "is_call"))
  kp_is_call : PySem.W.keepIn K (.ref (He.ga K "is_call")) = true
  d_is_own_behind : ∃ fd, FunD K "is_own_behind" "is_own_behind" (defArgs (top 46)) (defBody (top 46)) (defScope (top 46)) [] [] (He.ga K "is_own_behind") fd
  g_reached_of : mg "reached_of" = some (.ref (He.ga K "reached_of"))
  kp_reached_of : PySem.W.keepIn K (.ref (He.ga K "reached_of")) = true
  g_is_own_behind : mg "is_own_behind" = some (.ref (He.ga K "is_own_behind"))
  kp_is_own_behind : PySem.W.keepIn K (.ref (He.ga K "is_own_behind")) = true
  d_own_of : ∃ fd, FunD K "own_of" "own_of" (defArgs (top 47)) (defBody (top 47)) (defScope (top 47)) [] [] (He.ga K "own_of") fd
  d_needs_own : ∃ fd, FunD K "needs_own" "needs_own" (defArgs (top 48)) (defBody (top 48)) (defScope (top 48)) [] [] (He.ga K "needs_own") fd
  d_ends_well : ∃ fd, FunD K "ends_well" "ends_well" (defArgs (top 49)) (defBody (top 49)) (defScope (top 49)) [] [] (He.ga K "ends_well") fd
  g_ends_well : mg "ends_well" = some (.ref (He.ga K "ends_well"))
  kp_ends_well : PySem.W.keepIn K (.ref (He.ga K "ends_well")) = true
  g_rows_of : mg "rows_of" = some (.ref (He.ga K "rows_of"))
  kp_rows_of : PySem.W.keepIn K (.ref (He.ga K "rows_of")) = true
  g_own_of : mg "own_of" = some (.ref (He.ga K "own_of"))
  kp_own_of : PySem.W.keepIn K (.ref (He.ga K "own_of")) = true
  g_needs_own : mg "needs_own" = some (.ref (He.ga K "needs_own"))
  kp_needs_own : PySem.W.keepIn K (.ref (He.ga K "needs_own")) = true
  d_is_tidy : ∃ fd, FunD K "is_tidy" "is_tidy" (defArgs (top 50)) (defBody (top 50)) (defScope (top 50)) [] [] (He.ga K "is_tidy") fd
  i_MAX_FUNCTIONS : ∃ t, mg "MAX_FUNCTIONS" = some (.int 24 t)
  s_MAIN : ∃ t, mg "MAIN" = some (.str "main" t)
  g_is_list : mg "is_list" = some (.ref (He.ga K "is_list"))
  kp_is_list : PySem.W.keepIn K (.ref (He.ga K "is_list")) = true
  d_need_functions : ∃ fd, FunD K "need_functions" "need_functions" (defArgs (top 63)) (defBody (top 63)) (defScope (top 63)) [] [] (He.ga K "need_functions") fd
  g_is_line : mg "is_line" = some (.ref (He.ga K "is_line"))
  kp_is_line : PySem.W.keepIn K (.ref (He.ga K "is_line")) = true
  g_named : mg "named" = some (.ref (He.ga K "named"))
  kp_named : PySem.W.keepIn K (.ref (He.ga K "named")) = true
  g_InvalidLine : mg "InvalidLine" = some (.ref (He.ga K "InvalidLine"))
  g_label_of : mg "label_of" = some (.ref (He.ga K "label_of"))
  kp_label_of : PySem.W.keepIn K (.ref (He.ga K "label_of")) = true
  d_need_lines : ∃ fd, FunD K "need_lines" "need_lines" (defArgs (top 64)) (defBody (top 64)) (defScope (top 64)) [] [] (He.ga K "need_lines") fd
  f_max : mg "max" = none
  i_MAX_LINES : ∃ t, mg "MAX_LINES" = some (.int 60 t)
  i_MAX_ALL : ∃ t, mg "MAX_ALL" = some (.int 240 t)
  d_need_few : ∃ fd, FunD K "need_few" "need_few" (defArgs (top 65)) (defBody (top 65)) (defScope (top 65)) [] [] (He.ga K "need_few") fd
  d_Program_barred : ∃ fd, FunD K "barred" "Program.barred" (defArgs (meth 67 4)) (defBody (meth 67 4)) (defScope (meth 67 4)) [] [] (He.ma K (He.ga K "Program") "barred") fd
  g_is_tidy : mg "is_tidy" = some (.ref (He.ga K "is_tidy"))
  kp_is_tidy : PySem.W.keepIn K (.ref (He.ga K "is_tidy")) = true
  d_Program_is_fine : ∃ fd, FunD K "is_fine" "Program.is_fine" (defArgs (meth 67 5)) (defBody (meth 67 5)) (defScope (meth 67 5)) [] [] (He.ma K (He.ga K "Program") "is_fine") fd
  g_need_lines : mg "need_lines" = some (.ref (He.ga K "need_lines"))
  cl_Program : Cls K (He.ga K "Program")
  me_Program_barred : Meth K (He.ga K "Program") "barred" (He.ma K (He.ga K "Program") "barred")
  na_Program_own_functions : NoAttr K (He.ga K "Program") "own_functions"
  kp_need_lines : PySem.W.keepIn K (.ref (He.ga K "need_lines")) = true
  g_need_few : mg "need_few" = some (.ref (He.ga K "need_few"))
  kp_need_few : PySem.W.keepIn K (.ref (He.ga K "need_few")) = true
  me_Program_is_fine : Meth K (He.ga K "Program") "is_fine" (He.ma K (He.ga K "Program") "is_fine")
  d_Program_need_fine : ∃ fd, FunD K "need_fine" "Program.need_fine" (defArgs (meth 67 3)) (defBody (meth 67 3)) (defScope (meth 67 3)) [] [] (He.ma K (He.ga K "Program") "need_fine") fd
  g_Parts : mg "Parts" = some (.ref (He.ga K "Parts"))
  own_Parts : IsOwn (gm K) K 6 ["dict"] []
  g_need_functions : mg "need_functions" = some (.ref (He.ga K "need_functions"))
  kp_need_functions : PySem.W.keepIn K (.ref (He.ga K "need_functions")) = true
  me_Program_need_fine : Meth K (He.ga K "Program") "need_fine" (He.ma K (He.ga K "Program") "need_fine")
  d_Program___init__ : ∃ fd, FunD K "__init__" "Program.__init__" (defArgs (meth 67 2)) (defBody (meth 67 2)) (defScope (meth 67 2)) [] [] (He.ma K (He.ga K "Program") "__init__") fd
  mk_Program : Mk K (He.ga K "Program") (He.ma K (He.ga K "Program") "__init__")
  d_Program_of : ∃ fd, FunD K "of" "Program.of" (defArgs (meth 67 7)) (defBody (meth 67 7)) (defScope (meth 67 7)) [] [] (smF K "Program" "of") fd
  d_Program_size_of_line : ∃ fd, FunD K "size_of_line" "Program.size_of_line" (defArgs (meth 67 9)) (defBody (meth 67 9)) (defScope (meth 67 9)) [] [] (smF K "Program" "size_of_line") fd
  d_Program_functions : ∃ fd, FunD K "functions" "Program.functions" (defArgs (meth 67 10)) (defBody (meth 67 10)) (defScope (meth 67 10)) [] [] (prF K "Program" "functions") fd
  g_size_of_lines : mg "size_of_lines" = some (.ref (He.ga K "size_of_lines"))
  kp_size_of_lines : PySem.W.keepIn K (.ref (He.ga K "size_of_lines")) = true
  d_Program_size : ∃ fd, FunD K "size" "Program.size" (defArgs (meth 67 12)) (defBody (meth 67 12)) (defScope (meth 67 12)) [] [] (prF K "Program" "size") fd
  d__law_pen : ∃ fd, FunD K "_law_pen" "_law_pen" (defArgs (top 70)) (defBody (top 70)) (defScope (top 70)) [] [] (He.ga K "_law_pen") fd
  f_abs : mg "abs" = none
  d__law_draw : ∃ fd, FunD K "_law_draw" "_law_draw" (defArgs (top 71)) (defBody (top 71)) (defScope (top 71)) [] [] (He.ga K "_law_draw") fd
  g__law_draw : mg "_law_draw" = some (.ref (He.ga K "_law_draw"))
  kp__law_draw : PySem.W.keepIn K (.ref (He.ga K "_law_draw")) = true
  d__law_pick : ∃ fd, FunD K "_law_pick" "_law_pick" (defArgs (top 72)) (defBody (top 72)) (defScope (top 72)) [] [] (He.ga K "_law_pick") fd
  g__law_pick : mg "_law_pick" = some (.ref (He.ga K "_law_pick"))
  kp__law_pick : PySem.W.keepIn K (.ref (He.ga K "_law_pick")) = true
  d__law_number : ∃ fd, FunD K "_law_number" "_law_number" (defArgs (top 73)) (defBody (top 73)) (defScope (top 73)) [] [] (He.ga K "_law_number") fd
  d__law_forms : ∃ fd, FunD K "_law_forms" "_law_forms" (defArgs (top 74)) (defBody (top 74)) (defScope (top 74)) [] [] (He.ga K "_law_forms") fd
  d__law_any_part : ∃ fd, FunD K "_law_any_part" "_law_any_part" (defArgs (top 75)) (defBody (top 75)) (defScope (top 75)) [] [] (He.ga K "_law_any_part") fd
  g__law_number : mg "_law_number" = some (.ref (He.ga K "_law_number"))
  kp__law_number : PySem.W.keepIn K (.ref (He.ga K "_law_number")) = true
  d__law_part : ∃ fd, FunD K "_law_part" "_law_part" (defArgs (top 76)) (defBody (top 76)) (defScope (top 76)) [] [] (He.ga K "_law_part") fd
  d__law_is_part : ∃ fd, FunD K "_law_is_part" "_law_is_part" (defArgs (top 77)) (defBody (top 77)) (defScope (top 77)) [] [] (He.ga K "_law_is_part") fd
  g__law_forms : mg "_law_forms" = some (.ref (He.ga K "_law_forms"))
  kp__law_forms : PySem.W.keepIn K (.ref (He.ga K "_law_forms")) = true
  f_range : mg "range" = none
  g__law_is_part : mg "_law_is_part" = some (.ref (He.ga K "_law_is_part"))
  kp__law_is_part : PySem.W.keepIn K (.ref (He.ga K "_law_is_part")) = true
  d__law_is_line : ∃ fd, FunD K "_law_is_line" "_law_is_line" (defArgs (top 78)) (defBody (top 78)) (defScope (top 78)) [] [] (He.ga K "_law_is_line") fd
  d__law_size : ∃ fd, FunD K "_law_size" "_law_size" (defArgs (top 79)) (defBody (top 79)) (defScope (top 79)) [] [] (He.ga K "_law_size") fd
  g__law_part : mg "_law_part" = some (.ref (He.ga K "_law_part"))
  kp__law_part : PySem.W.keepIn K (.ref (He.ga K "_law_part")) = true
  g__law_any_part : mg "_law_any_part" = some (.ref (He.ga K "_law_any_part"))
  kp__law_any_part : PySem.W.keepIn K (.ref (He.ga K "_law_any_part")) = true
  d__law_candidate : ∃ fd, FunD K "_law_candidate" "_law_candidate" (defArgs (top 80)) (defBody (top 80)) (defScope (top 80)) [] [] (He.ga K "_law_candidate") fd
  g__law_pen : mg "_law_pen" = some (.ref (He.ga K "_law_pen"))
  kp__law_pen : PySem.W.keepIn K (.ref (He.ga K "_law_pen")) = true
  f_min : mg "min" = none
  g__law_candidate : mg "_law_candidate" = some (.ref (He.ga K "_law_candidate"))
  kp__law_candidate : PySem.W.keepIn K (.ref (He.ga K "_law_candidate")) = true
  sys : SysK K
  f_repr : mg "repr" = none
  g__law_is_line : mg "_law_is_line" = some (.ref (He.ga K "_law_is_line"))
  kp__law_is_line : PySem.W.keepIn K (.ref (He.ga K "_law_is_line")) = true
  g_Program : mg "Program" = some (.ref (He.ga K "Program"))
  g__law_index : mg "_law_index" = some (.ref (He.ga K "_law_index"))
  f_ValueError : mg "ValueError" = none
  pr_Program_functions : PropOf K (He.ga K "Program") "functions" (prP K "Program" "functions") (prF K "Program" "functions")
  pr_Program_size : PropOf K (He.ga K "Program") "size" (prP K "Program" "size") (prF K "Program" "size")
  g__law_size : mg "_law_size" = some (.ref (He.ga K "_law_size"))
  kp__law_size : PySem.W.keepIn K (.ref (He.ga K "_law_size")) = true
  rd_Program : ClX.CRead K (He.ga K "Program") (.type "type")
  sm_Program_size_of_line : SMet K (He.ga K "Program") (.type "type") "size_of_line" (smP K "Program" "size_of_line") (smF K "Program" "size_of_line")
  cm_Program_of : ClX.CMet K (He.ga K "Program") (.type "type") "of" (smP K "Program" "of") (smF K "Program" "of")
  d__law_index : ∃ fd, FunD K "_law_index" "_law_index" (defArgs (top 81)) (defBody (top 81)) (defScope (top 81)) [] [] (He.ga K "_law_index") fd
  d_law : ∃ fd, FunD K "law" "law" (defArgs (top 82)) (defBody (top 82)) (defScope (top 82)) [] [] (He.ga K "law") fd
  g_law : mg "law" = some (.ref (He.ga K "law"))
section
variable {w : World} {K : PySem.W.Frag} {mg : Str → Option Value} {base : Heap}
def N_is_integer : List Str := ["value"]
theorem nd_is_integer : N_is_integer.Nodup := by decide +kernel
theorem sc_is_integer : FnScope N_is_integer ["value"] (defScope (top 5)) := ⟨rfl, rfl, rfl, nd_is_integer, rfl, by decide +kernel, by decide +kernel⟩
theorem ok_is_integer (u : U w K mg) : FnS P0 w K mg base (gm K) 1 (He.ga K "is_integer") ["value"] 1 f_is_integer := by
  obtain ⟨fd, F⟩ := u.d_is_integer
  exact .gc <| s_def (k := 0) F sc_is_integer rfl rfl (F.bindsN fun _ _ _ _ _ _ us hl => match us, hl with | [_], _ => rfl) fun E B cdv A outer s H hr =>
    (sss_one (ss_ret (se_and (sb call_isi ok_isi u.f_isinstance Boot.«isinstance» (sa_cons (sv 0) (sa_cons (cty u.f_int Boot.«int») sa_nil))) (se_one (se_not (sb call_isi ok_isi u.f_isinstance Boot.«isinstance» (sa_cons (sv 0) (sa_cons (cty u.f_bool Boot.«bool») sa_nil))))))))
def N_is_between : List Str := ["value", "least", "most"]
theorem nd_is_between : N_is_between.Nodup := by decide +kernel
theorem sc_is_between : FnScope N_is_between ["value", "least", "most"] (defScope (top 6)) := ⟨rfl, rfl, rfl, nd_is_between, rfl, by decide +kernel, by decide +kernel⟩
theorem ok_is_between (u : U w K mg) : FnS P0 w K mg base (gm K) 2 (He.ga K "is_between") ["value", "least", "most"] 3 f_is_between := by
  obtain ⟨fd, F⟩ := u.d_is_between
  exact .gc <| s_def (k := 1) F sc_is_between rfl rfl (F.bindsN fun _ _ _ _ _ _ us hl => match us, hl with | [_, _, _], _ => rfl) fun E B cdv A outer s H hr =>
    (sss_one (ss_ret (se_and (s_call (ok_is_integer u) (psF tkF) hr u.g_is_integer u.kp_is_integer (sa_cons (sv 0) sa_nil)) (se_one (s_lele (sv 1) (sv 0) (sv 2))))))
def N_is_number : List Str := ["value"]
theorem nd_is_number : N_is_number.Nodup := by decide +kernel
theorem sc_is_number : FnScope N_is_number ["value"] (defScope (top 7)) := ⟨rfl, rfl, rfl, nd_is_number, rfl, by decide +kernel, by decide +kernel⟩
theorem ok_is_number (u : U w K mg) : FnS P0 w K mg base (gm K) 3 (He.ga K "is_number") ["value"] 1 f_is_number := by
  obtain ⟨fd, F⟩ := u.d_is_number
  exact .gc <| s_def (k := 2) F sc_is_number rfl rfl (F.bindsN fun _ _ _ _ _ _ us hl => match us, hl with | [_], _ => rfl) fun E B cdv A outer s H hr =>
    (sss_one (ss_ret (s_call (ok_is_between u) (psF tkF) hr u.g_is_between u.kp_is_between (sa_cons (sv 0) (sa_cons (se_neg (cgi u.i_HALF)) (sa_cons (se_sub (cgi u.i_HALF) ci) sa_nil))))))
def N_is_word : List Str := ["value", "letter"]
theorem nd_is_word : N_is_word.Nodup := by decide +kernel
theorem sc_is_word : FnScope N_is_word ["value"] (defScope (top 8)) := ⟨rfl, rfl, rfl, nd_is_word, rfl, by decide +kernel, by decide +kernel⟩
theorem ok_is_word (u : U w K mg) : FnS P0 w K mg base (gm K) 1 (He.ga K "is_word") ["value"] 1 f_is_word := by
  obtain ⟨fd, F⟩ := u.d_is_word
  exact .gc <| s_def (k := 0) F sc_is_word rfl rfl (F.bindsN fun _ _ _ _ _ _ us hl => match us, hl with | [_], _ => rfl) fun E B cdv A outer s H hr =>
    (sss_cons (ss_if (SW.st (sw_or (st_not (st_val (sb call_isi ok_isi u.f_isinstance Boot.«isinstance» (sa_cons (sv 0) (sa_cons (cty u.f_str Boot.«str») sa_nil))))) (sw_or1 (st_not (t_lele ci (sb call_lenX ok_len u.f_len Boot.«len» (sa_cons (sv 0) sa_nil)) (cgi u.i_MOST_LETTERS)))))) (sss_one (ss_ret cb)) sss_nil) (sss_one (ss_ret (sb (cr_all rfl) ok_all u.f_all Boot.«all» (sa_cons (se_lc (own := [("letter", 1)]) rfl nd_is_word (si_str (sv 0)) (show BlkOk N_is_word (defScope (top 8)) _ [("letter", 1)] from ⟨rfl, by decide +kernel, by decide +kernel, by decide +kernel, by decide +kernel⟩) (ok_gNV (by decide)) (fun _ _ _ _ _ => pg_name nd_is_word rfl (.inl rfl)) (fun _ _ _ _ _ => sts_nil) (fun _ _ _ _ _ => (s_tin (sv 1) (cgs u.s_LETTERS)))) sa_nil)))))
def N_is_list : List Str := ["value"]
theorem nd_is_list : N_is_list.Nodup := by decide +kernel
theorem sc_is_list : FnScope N_is_list ["value"] (defScope (top 9)) := ⟨rfl, rfl, rfl, nd_is_list, rfl, by decide +kernel, by decide +kernel⟩
theorem ok_is_list (u : U w K mg) : FnS P0 w K mg base (gm K) 1 (He.ga K "is_list") ["value"] 1 f_is_list := by
  obtain ⟨fd, F⟩ := u.d_is_list
  exact .gc <| s_def (k := 0) F sc_is_list rfl rfl (F.bindsN fun _ _ _ _ _ _ us hl => match us, hl with | [_], _ => rfl) fun E B cdv A outer s H hr =>
    (sss_one (ss_ret (sb call_isiT ok_isiT u.f_isinstance Boot.«isinstance» (sa_cons (sv 0) (sa_cons (se_tup (sa_cons (cty u.f_list Boot.«list») (sa_cons (cty u.f_tuple Boot.«tuple») sa_nil))) sa_nil)))))
def N_own_copy : List Str := ["value", "part", "key"]
theorem nd_own_copy : N_own_copy.Nodup := by decide +kernel
theorem sc_own_copy : FnScope N_own_copy ["value"] (defScope (top 11)) := ⟨rfl, rfl, rfl, nd_own_copy, rfl, by decide +kernel, by decide +kernel⟩
theorem ok_own_copy (u : U w K mg) : FnS P0 w K mg base (gm K) 1 (He.ga K "own_copy") ["value"] 1 f_own_copy := by
  obtain ⟨fd, F⟩ := u.d_own_copy
  exact .gc <| s_def (k := 0) F sc_own_copy rfl rfl (F.bindsN fun _ _ _ _ _ _ us hl => match us, hl with | [_], _ => rfl) fun E B cdv A outer s H hr =>
    (sss_cons (ss_if (st_val (sb call_isi ok_isi u.f_isinstance Boot.«isinstance» (sa_cons (sv 0) (sa_cons (cty u.f_list Boot.«list») sa_nil)))) (sss_one (ss_ret se_bad)) sss_nil) (sss_cons (ss_if (st_val (sb call_isi ok_isi u.f_isinstance Boot.«isinstance» (sa_cons (sv 0) (sa_cons (cty u.f_tuple Boot.«tuple») sa_nil)))) (sss_one (ss_ret se_bad)) sss_nil) (sss_cons (ss_if (st_val (sb call_isi ok_isi u.f_isinstance Boot.«isinstance» (sa_cons (sv 0) (sa_cons (cty u.f_dict Boot.«dict») sa_nil)))) (sss_one (ss_ret se_bad)) sss_nil) (sss_one (ss_ret (sv 0))))))
theorem ok_InvalidLine_init (u : U w K mg) : FnI P0 w K mg base (gm K) 2 (He.ga K "InvalidLine") (He.ma K (He.ga K "InvalidLine") "__init__") ["self", "name", "index"] ["name", "index"] f_own_copy := by
  obtain ⟨oc, od, osl, kV, doc, pm, an, ct, cc, cda, lk, hcd, SF⟩ := u.d_InvalidLine_init.ex
  exact ⟨_, fn_init2 (k := 1) (ps := []) rfl lk hcd (NdefX.nscope_by (by decide +kernel)) rfl SF u.oex_InvalidLine.oex u.try_InvalidLine.xf u.try_InvalidLine.n1 u.try_InvalidLine.n2 (by decide)
    (fun A outer s H E B hr => s_call (ok_own_copy u) pass0 hr u.g_own_copy u.kp_own_copy (sa_cons (sv 1) sa_nil))
    (fun A outer s H E B hr => s_call (ok_own_copy u) pass0 hr u.g_own_copy u.kp_own_copy (sa_cons (sv 2) sa_nil)) (fun _ => rfl) (fun _ => rfl) (fun _ => rfl), .all fun us hl => match us, hl with | [_, _, _], _ => rfl⟩
def N_is_part : List Str := ["kind", "value"]
theorem nd_is_part : N_is_part.Nodup := by decide +kernel
theorem sc_is_part : FnScope N_is_part ["kind", "value"] (defScope (top 31)) := ⟨rfl, rfl, rfl, nd_is_part, rfl, by decide +kernel, by decide +kernel⟩
theorem ok_is_part (u : U w K mg) : FnS P0 w K mg base (gm K) 4 (He.ga K "is_part") ["kind", "value"] 2 f_is_part := by
  obtain ⟨fd, F⟩ := u.d_is_part
  exact .gc <| s_def (k := 3) F sc_is_part rfl rfl (F.bindsN fun _ _ _ _ _ _ us hl => match us, hl with | [_, _], _ => rfl) fun E B cdv A outer s H hr =>
    (sss_cons (ss_if (SW.st (sw_or (t_eq hr.u64 (sv 0) cs) (sw_or1 (SW.st (sw_and (t_eq hr.u64 (sv 0) cs) (sw_and1 (st_not (st_val (sb call_isi ok_isi u.f_isinstance Boot.«isinstance» (sa_cons (sv 1) (sa_cons (cty u.f_str Boot.«str») sa_nil))))))))))) (sss_one (ss_ret (s_call (ok_is_between u) (psF tkF) hr u.g_is_between u.kp_is_between (sa_cons (sv 1) (sa_cons ci (sa_cons (se_sub (cgi u.i_REGISTERS) ci) sa_nil)))))) sss_nil) (sss_cons (ss_if (t_eq hr.u64 (sv 0) cs) (sss_one (ss_ret (s_eq hr.u64 (sv 1) (cgs u.s_LINK)))) sss_nil) (sss_cons (ss_if (t_eq hr.u64 (sv 0) cs) (sss_one (ss_ret (s_call (ok_is_number u) (psF tkF) hr u.g_is_number u.kp_is_number (sa_cons (sv 1) sa_nil)))) sss_nil) (sss_one (ss_ret (se_ite (t_eq hr.u64 (sv 0) cs) (s_call (ok_is_between u) (psF tkF) hr u.g_is_between u.kp_is_between (sa_cons (sv 1) (sa_cons ci (sa_cons (cgi u.i_MOST_DEEP) sa_nil)))) (s_call (ok_is_word u) (psF tkF) hr u.g_is_word u.kp_is_word (sa_cons (sv 1) sa_nil))))))))
def N_is_line : List Str := ["value", "form", "kind", "part"]
theorem nd_is_line : N_is_line.Nodup := by decide +kernel
theorem sc_is_line : FnScope N_is_line ["value"] (defScope (top 32)) := ⟨rfl, rfl, rfl, nd_is_line, rfl, by decide +kernel, by decide +kernel⟩
theorem ok_is_line (u : U w K mg) : FnS P0 w K mg base (gm K) 5 (He.ga K "is_line") ["value"] 1 f_is_line := by
  obtain ⟨fd, F⟩ := u.d_is_line
  exact .gc <| s_def (k := 4) F sc_is_line rfl rfl (F.bindsN fun _ _ _ _ _ _ us hl => match us, hl with | [_], _ => rfl) fun E B cdv A outer s H hr =>
    (sss_cons (ss_if (SW.st (sw_or (st_not (st_val (sb call_isi ok_isi u.f_isinstance Boot.«isinstance» (sa_cons (sv 0) (sa_cons (cty u.f_tuple Boot.«tuple») sa_nil))))) (sw_or (t_eq0 hr.u64 (sv 0) (se_tup sa_nil)) (sw_or (st_not (st_val (sb call_isi ok_isi u.f_isinstance Boot.«isinstance» (sa_cons (se_ix (sv 0) ci) (sa_cons (cty u.f_str Boot.«str») sa_nil))))) (sw_or1 (t_knotin u.k_FORMS (se_ix (sv 0) ci) (cgl u.g_FORMS rfl))))))) (sss_one (ss_ret cb)) sss_nil) (sss_cons (ss_set nd_is_line rfl (by first | exact .inl rfl | exact .inr rfl) (se_kix u.k_FORMS (cgl u.g_FORMS rfl) (se_ix (sv 0) ci))) (sss_one (ss_ret (se_and (s_eq hr.u64 (sb call_lenX ok_len u.f_len Boot.«len» (sa_cons (sv 0) sa_nil)) (se_add (sb call_lenX ok_len u.f_len Boot.«len» (sa_cons (sv 1) sa_nil)) ci)) (se_one (sb (cr_all rfl) ok_all u.f_all Boot.«all» (sa_cons (se_lc (own := [("kind", 2), ("part", 3)]) rfl nd_is_line (si_zipS rfl u.f_zip (sa_cons (sv 1) (sa_cons (se_slice (sv 0) (so_some ci) so_none) sa_nil))) (show BlkOk N_is_line (defScope (top 32)) _ [("kind", 2), ("part", 3)] from ⟨rfl, by decide +kernel, by decide +kernel, by decide +kernel, by decide +kernel⟩) (ok_gTV (is := [2, 3]) (by decide)) (fun _ _ _ _ _ => pg_tup rfl (pgs_cons (pg_name nd_is_line rfl (.inl rfl)) (pgs_cons (pg_name nd_is_line rfl (.inl rfl)) pgs_nil))) (fun _ _ _ _ _ => sts_nil) (fun _ _ _ _ _ => (s_call (ok_is_part u) pass0 hr u.g_is_part u.kp_is_part (sa_cons (sv 2) (sa_cons (sv 3) sa_nil))))) sa_nil))))))))
def N_size_of_line : List Str := ["line"]
theorem nd_size_of_line : N_size_of_line.Nodup := by decide +kernel
theorem sc_size_of_line : FnScope N_size_of_line ["line"] (defScope (top 33)) := ⟨rfl, rfl, rfl, nd_size_of_line, rfl, by decide +kernel, by decide +kernel⟩
theorem ok_size_of_line (u : U w K mg) : FnS P0 w K mg base (gm K) 1 (He.ga K "size_of_line") ["line"] 1 f_size_of_line := by
  obtain ⟨fd, F⟩ := u.d_size_of_line
  exact .gc <| s_def (k := 0) F sc_size_of_line rfl rfl (F.bindsN fun _ _ _ _ _ _ us hl => match us, hl with | [_], _ => rfl) fun E B cdv A outer s H hr =>
    (sss_cons (ss_if (t_eq hr.u64 (se_ix (sv 0) ci) cs) (sss_one (ss_ret (se_ite (t_lele (cgi u.i_LEAST_SHORT) (se_ix (sv 0) ci) (cgi u.i_MOST_SHORT)) ci ci))) sss_nil) (sss_one (ss_ret (se_kget u.k_SIZES (cgl u.g_SIZES rfl) (se_ix (sv 0) ci) ci))))
def N_size_of_lines : List Str := ["lines", "line"]
theorem nd_size_of_lines : N_size_of_lines.Nodup := by decide +kernel
theorem sc_size_of_lines : FnScope N_size_of_lines ["lines"] (defScope (top 35)) := ⟨rfl, rfl, rfl, nd_size_of_lines, rfl, by decide +kernel, by decide +kernel⟩
theorem ok_size_of_lines (u : U w K mg) : FnS P0 w K mg base (gm K) 2 (He.ga K "size_of_lines") ["lines"] 1 f_size_of_lines := by
  obtain ⟨fd, F⟩ := u.d_size_of_lines
  exact .gc <| s_def (k := 1) F sc_size_of_lines rfl rfl (F.bindsN fun _ _ _ _ _ _ us hl => match us, hl with | [_], _ => rfl) fun E B cdv A outer s H hr =>
    (sss_one (ss_ret (sb (cr_sum rfl) ok_sum u.f_sum Boot.«sum» (sa_cons (se_lc (own := [("line", 1)]) rfl nd_size_of_lines (si_seq (sv 0)) (show BlkOk N_size_of_lines (defScope (top 35)) _ [("line", 1)] from ⟨rfl, by decide +kernel, by decide +kernel, by decide +kernel, by decide +kernel⟩) (ok_gNV (by decide)) (fun _ _ _ _ _ => pg_name nd_size_of_lines rfl (.inl rfl)) (fun _ _ _ _ _ => sts_nil) (fun _ _ _ _ _ => (s_call (ok_size_of_line u) pass0 hr u.g_size_of_line_lines u.kp_size_of_line (sa_cons (sv 1) sa_nil)))) sa_nil))))
def N_named : List Str := ["line"]
theorem nd_named : N_named.Nodup := by decide +kernel
theorem sc_named : FnScope N_named ["line"] (defScope (top 36)) := ⟨rfl, rfl, rfl, nd_named, rfl, by decide +kernel, by decide +kernel⟩
theorem ok_named (u : U w K mg) : FnS P0 w K mg base (gm K) 1 (He.ga K "named") ["line"] 1 f_named := by
  obtain ⟨fd, F⟩ := u.d_named
  exact .gc <| s_def (k := 0) F sc_named rfl rfl (F.bindsN fun _ _ _ _ _ _ us hl => match us, hl with | [_], _ => rfl) fun E B cdv A outer s H hr =>
    (sss_one (ss_ret (se_ite (t_in (se_ix (sv 0) ci) (se_tup (sa_cons cs (sa_cons cs (sa_cons cs sa_nil))))) (se_ix (sv 0) (se_neg ci)) cn)))
def N_label_of : List Str := ["line"]
theorem nd_label_of : N_label_of.Nodup := by decide +kernel
theorem sc_label_of : FnScope N_label_of ["line"] (defScope (top 37)) := ⟨rfl, rfl, rfl, nd_label_of, rfl, by decide +kernel, by decide +kernel⟩
theorem ok_label_of (u : U w K mg) : FnS P0 w K mg base (gm K) 1 (He.ga K "label_of") ["line"] 1 f_label_of := by
  obtain ⟨fd, F⟩ := u.d_label_of
  exact .gc <| s_def (k := 0) F sc_label_of rfl rfl (F.bindsN fun _ _ _ _ _ _ us hl => match us, hl with | [_], _ => rfl) fun E B cdv A outer s H hr =>
    (sss_one (ss_ret (se_ite (t_in (se_ix (sv 0) ci) (se_tup (sa_cons cs (sa_cons cs (sa_cons cs (sa_cons cs sa_nil)))))) (se_ix (sv 0) ci) cn)))
def N_is_call : List Str := ["line"]
theorem nd_is_call : N_is_call.Nodup := by decide +kernel
theorem sc_is_call : FnScope N_is_call ["line"] (defScope (top 38)) := ⟨rfl, rfl, rfl, nd_is_call, rfl, by decide +kernel, by decide +kernel⟩
theorem ok_is_call (u : U w K mg) : FnS P0 w K mg base (gm K) 1 (He.ga K "is_call") ["line"] 1 f_is_call := by
  obtain ⟨fd, F⟩ := u.d_is_call
  exact  s_def (k := 0) F sc_is_call rfl rfl (F.bindsN fun _ _ _ _ _ _ us hl => match us, hl with | [_], _ => rfl) fun E B cdv A outer s H hr =>
    (sss_one (ss_ret (s_in (se_ix (sv 0) ci) (se_tup (sa_cons cs (sa_cons cs sa_nil))))))
def N_marks_of : List Str := ["lines", "index", "line"]
theorem nd_marks_of : N_marks_of.Nodup := by decide +kernel
theorem sc_marks_of : FnScope N_marks_of ["lines"] (defScope (top 39)) := ⟨rfl, rfl, rfl, nd_marks_of, rfl, by decide +kernel, by decide +kernel⟩
theorem ok_marks_of (u : U w K mg) : FnS P0 w K mg base (gm K) 1 (He.ga K "marks_of") ["lines"] 1 f_marks_of := by
  obtain ⟨fd, F⟩ := u.d_marks_of
  exact  s_def (k := 0) F sc_marks_of rfl rfl (F.bindsN fun _ _ _ _ _ _ us hl => match us, hl with | [_], _ => rfl) fun E B cdv A outer s H hr =>
    (sss_one (ss_ret (se_dc (own := [("index", 1), ("line", 2)]) rfl nd_marks_of (si_enum rfl u.f_enumerate (sa_cons (sv 0) sa_nil)) (show BlkOk N_marks_of (defScope (top 39)) _ [("index", 1), ("line", 2)] from ⟨rfl, by decide +kernel, by decide +kernel, by decide +kernel, by decide +kernel⟩) (ok_gTV (is := [1, 2]) (by decide)) (fun _ _ _ _ _ => pg_tup rfl (pgs_cons (pg_name nd_marks_of rfl (.inl rfl)) (pgs_cons (pg_name nd_marks_of rfl (.inl rfl)) pgs_nil))) (fun _ _ _ _ _ => sts_one (t_eq hr.u64 (se_ix (sv 2) ci) cs)) (fun _ _ _ _ _ => (se_ix (sv 2) ci)) (fun _ _ _ _ _ => (sv 1)))))
def N_ways_of : List Str := ["lines", "marks", "found", "index", "line", "goals"]
theorem nd_ways_of : N_ways_of.Nodup := by decide +kernel
theorem sc_ways_of : FnScope N_ways_of ["lines"] (defScope (top 40)) := ⟨rfl, rfl, rfl, nd_ways_of, rfl, by decide +kernel, by decide +kernel⟩
theorem ok_ways_of (u : U w K mg) : FnS P0 w K mg base (gm K) 2 (He.ga K "ways_of") ["lines"] 1 f_ways_of := by
  obtain ⟨fd, F⟩ := u.d_ways_of
  exact  s_def (k := 1) F sc_ways_of rfl rfl (F.bindsN fun _ _ _ _ _ _ us hl => match us, hl with | [_], _ => rfl) fun E B cdv A outer s H hr =>
    (sss_cons (ss_par2 (ps_par rfl nd_ways_of rfl rfl (by decide) rfl rfl (sa_cons (s_call (ok_marks_of u) (psF tkF) hr u.g_marks_of u.kp_marks_of (sa_cons (sv 0) sa_nil)) (sa_cons (se_lst sa_nil) sa_nil)) (by first | rfl | with_unfolding_all rfl | kernel_rfl) rfl)) (sss_cons (ss_for ownF rfl (si_enum rfl u.f_enumerate (sa_cons (sv 0) sa_nil)) (pg_tup rfl (pgs_cons (pg_name nd_ways_of rfl (.inl rfl)) (pgs_cons (pg_name nd_ways_of rfl (.inl rfl)) pgs_nil))) (ok_gT (is := [3, 4])) (sss_cons (ss_set nd_ways_of rfl (by first | exact .inl rfl | exact .inr rfl) (se_ite (SW.st (sw_and (t_notin (se_ix (sv 4) ci) (cgt u.g_ENDS u.t_ENDS (fun _ _ => by simp [RVs, RV]))) (sw_and1 (t_lt (se_add (sv 3) ci) (sb call_lenX ok_len u.f_len Boot.«len» (sa_cons (sv 0) sa_nil)))))) (se_disp (prs := [((mBin (fAdd B) (mVar 3) (mCon (.int 1))), (mCon (.bl true)))]) (pps_cons (se_add (sv 3) ci) cb pps_nil)) se_dic0)) (sss_cons (ss_if (SW.st (sw_or (t_eq hr.u64 (se_ix (sv 4) ci) cs) (sw_or1 (t_in (se_ix (sv 4) ci) (cgt u.g_BRANCHES u.t_BRANCHES (fun _ _ => by simp [RVs, RV])))))) (sss_one (ss_put hr.u1 (sv 5) (se_dget hr.u1 (sv 1) (se_ix (sv 4) ci)) cb)) sss_nil) (sss_one (ss_expr (se_append (sv 2) (sa_cons (sbt call_tuple_of ok_tupOf u.f_tuple Boot.«tuple» (sa_cons (sb (cr_sortX rfl) ok_sorted u.f_sorted Boot.«sorted» (sa_cons (sv 5) sa_nil)) sa_nil)) sa_nil))))))) (sss_one (ss_ret (sv 2)))))
def N_reached_of : List Str := ["lines", "ways", "found", "waiting", "index"]
theorem nd_reached_of : N_reached_of.Nodup := by decide +kernel
theorem sc_reached_of : FnScope N_reached_of ["lines"] (defScope (top 41)) := ⟨rfl, rfl, rfl, nd_reached_of, rfl, by decide +kernel, by decide +kernel⟩
theorem ok_reached_of (u : U w K mg) : FnS P0 w K mg base (gm K) 3 (He.ga K "reached_of") ["lines"] 1 f_reached_of := by
  obtain ⟨fd, F⟩ := u.d_reached_of
  exact  s_def (k := 2) F sc_reached_of rfl rfl (F.bindsN fun _ _ _ _ _ _ us hl => match us, hl with | [_], _ => rfl) fun E B cdv A outer s H hr =>
    (sss_cons (ss_par3 (ps_par3 rfl nd_reached_of rfl rfl rfl (by decide) (by decide) (by decide) rfl rfl rfl (sa_cons (s_call (ok_ways_of u) (psF tkF) hr u.g_ways_of u.kp_ways_of (sa_cons (sv 0) sa_nil)) (sa_cons (se_disp (prs := [((mCon (.int 0)), (mCon (.bl true)))]) (pps_cons ci cb pps_nil)) (sa_cons (se_lst (sa_cons ci sa_nil)) sa_nil))) (by first | rfl | with_unfolding_all rfl | kernel_rfl) rfl)) (sss_cons (ss_while 1000 ownF (t_ne hr.u64 (sv 3) (se_lst sa_nil)) (sss_one (ss_for ownF rfl (si_seq (se_ix (sv 1) (se_pop (sv 3)))) (pg_name nd_reached_of rfl (.inl rfl)) ok_gN (sss_one (ss_if (t_dnotin hr.u1 (sv 4) (sv 2)) (sss_cons (ss_put hr.u1 (sv 2) (sv 4) cb) (sss_one (ss_expr (se_append (sv 3) (sa_cons (sv 4) sa_nil))))) sss_nil))))) (sss_one (ss_ret (sb (cr_sortX rfl) ok_sorted u.f_sorted Boot.«sorted» (sa_cons (sv 2) sa_nil))))))
def N_row_behind : List Str := ["row", "line", "word", "deep"]
theorem nd_row_behind : N_row_behind.Nodup := by decide +kernel
theorem sc_row_behind : FnScope N_row_behind ["row", "line"] (defScope (top 44)) := ⟨rfl, rfl, rfl, nd_row_behind, rfl, by decide +kernel, by decide +kernel⟩
theorem ok_row_behind (u : U w K mg) : FnS P0 w K mg base (gm K) 1 (He.ga K "row_behind") ["row", "line"] 2 f_row_behind := by
  obtain ⟨fd, F⟩ := u.d_row_behind
  exact  s_def (k := 0) F sc_row_behind rfl rfl (F.bindsN fun _ _ _ _ _ _ us hl => match us, hl with | [_, _], _ => rfl) fun E B cdv A outer s H hr =>
    (sss_cons (ss_set nd_row_behind rfl (by first | exact .inl rfl | exact .inr rfl) (se_ix (sv 1) ci)) (sss_cons (ss_if (t_eq hr.u64 (sv 2) cs) sss_bad sss_nil) (sss_cons (ss_if (t_eq hr.u64 (sv 2) cs) sss_bad sss_nil) (sss_cons (ss_if (t_in (sv 2) (se_tup (sa_cons cs (sa_cons cs sa_nil)))) sss_bad sss_nil) (sss_one (ss_ret (se_ite (SW.st (sw_and (t_in (sv 2) (se_tup (sa_cons cs (sa_cons cs sa_nil)))) (sw_and1 (t_ne hr.u64 (sv 0) (se_tup sa_nil))))) cn (sv 0))))))))
def N_rows_of : List Str := ["lines", "ways", "found", "waiting", "index", "row", "later"]
theorem nd_rows_of : N_rows_of.Nodup := by decide +kernel
theorem sc_rows_of : FnScope N_rows_of ["lines"] (defScope (top 45)) := ⟨rfl, rfl, rfl, nd_rows_of, rfl, by decide +kernel, by decide +kernel⟩
theorem ok_rows_of (u : U w K mg) : FnS P0 w K mg base (gm K) 3 (He.ga K "rows_of") ["lines"] 1 f_rows_of := by
  obtain ⟨fd, F⟩ := u.d_rows_of
  exact  s_def (k := 2) F sc_rows_of rfl rfl (F.bindsN fun _ _ _ _ _ _ us hl => match us, hl with | [_], _ => rfl) fun E B cdv A outer s H hr =>
    (sss_cons (ss_par3 (ps_par3 rfl nd_rows_of rfl rfl rfl (by decide) (by decide) (by decide) rfl rfl rfl (sa_cons (s_call (ok_ways_of u) (psF tkF) hr u.g_ways_of u.kp_ways_of (sa_cons (sv 0) sa_nil)) (sa_cons (se_disp (prs := [((mCon (.int 0)), (mTup mNil))]) (pps_cons ci (se_tup sa_nil) pps_nil)) (sa_cons (se_lst (sa_cons ci sa_nil)) sa_nil))) (by first | rfl | with_unfolding_all rfl | kernel_rfl) rfl)) (sss_cons (ss_while 1000 ownF (t_ne hr.u64 (sv 3) (se_lst sa_nil)) (sss_cons (ss_set nd_rows_of rfl (by first | exact .inl rfl | exact .inr rfl) (se_pop (sv 3))) (sss_cons (ss_set nd_rows_of rfl (by first | exact .inl rfl | exact .inr rfl) (s_call (ok_row_behind u) (psF tkF) hr u.g_row_behind u.kp_row_behind (sa_cons (se_dget hr.u1 (sv 2) (sv 4)) (sa_cons (se_ix (sv 0) (sv 4)) sa_nil)))) (sss_cons (ss_if (t_is (sv 5) cn) (sss_one (ss_ret cn)) sss_nil) (sss_one (ss_for ownF rfl (si_seq (se_ix (sv 1) (sv 4))) (pg_name nd_rows_of rfl (.inl rfl)) ok_gN (sss_one (ss_if (t_dnotin hr.u1 (sv 6) (sv 2)) (sss_cons (ss_put hr.u1 (sv 2) (sv 6) (sv 5)) (sss_one (ss_expr (se_append (sv 3) (sa_cons (sv 6) sa_nil))))) (sss_one (ss_if (t_ne hr.u64 (se_dget hr.u1 (sv 2) (sv 6)) (sv 5)) (sss_one (ss_ret cn)) sss_nil)))))))))) (sss_one (ss_ret (sv 2)))))
def N_is_own_behind : List Str := ["line", "is_own"]
theorem nd_is_own_behind : N_is_own_behind.Nodup := by decide +kernel
theorem sc_is_own_behind : FnScope N_is_own_behind ["line", "is_own"] (defScope (top 46)) := ⟨rfl, rfl, rfl, nd_is_own_behind, rfl, by decide +kernel, by decide +kernel⟩
theorem ok_is_own_behind (u : U w K mg) : FnS P0 w K mg base (gm K) 2 (He.ga K "is_own_behind") ["line", "is_own"] 2 f_is_own_behind := by
  obtain ⟨fd, F⟩ := u.d_is_own_behind
  exact  s_def (k := 1) F sc_is_own_behind rfl rfl (F.bindsN fun _ _ _ _ _ _ us hl => match us, hl with | [_, _], _ => rfl) fun E B cdv A outer s H hr =>
    (sss_cons (ss_if (SW.st (sw_and (t_eq hr.u64 (se_ix (sv 0) ci) cs) (sw_and1 (t_eq hr.u64 (se_ix (sv 0) ci) (cgs u.s_LINK))))) (sss_one (ss_ret cb)) sss_nil) (sss_one (ss_ret (se_and (sv 1) (se_one (se_not (s_call (ok_is_call u) (psF tkF) hr u.g_is_call u.kp_is_call (sa_cons (sv 0) sa_nil))))))))
def N_own_of : List Str := ["lines", "ways", "indexes", "found", "is_changed", "index", "later"]
theorem nd_own_of : N_own_of.Nodup := by decide +kernel
theorem sc_own_of : FnScope N_own_of ["lines"] (defScope (top 47)) := ⟨rfl, rfl, rfl, nd_own_of, rfl, by decide +kernel, by decide +kernel⟩
theorem ok_own_of (u : U w K mg) : FnS P0 w K mg base (gm K) 4 (He.ga K "own_of") ["lines"] 1 f_own_of := by
  obtain ⟨fd, F⟩ := u.d_own_of
  exact  s_def (k := 3) F sc_own_of rfl rfl (F.bindsN fun _ _ _ _ _ _ us hl => match us, hl with | [_], _ => rfl) fun E B cdv A outer s H hr =>
    (sss_cons (ss_par2 (ps_par rfl nd_own_of rfl rfl (by decide) rfl rfl (sa_cons (s_call (ok_ways_of u) (psF tkF) hr u.g_ways_of u.kp_ways_of (sa_cons (sv 0) sa_nil)) (sa_cons (s_call (ok_reached_of u) (psF tkF) hr u.g_reached_of u.kp_reached_of (sa_cons (sv 0) sa_nil)) sa_nil)) (by first | rfl | with_unfolding_all rfl | kernel_rfl) rfl)) (sss_cons (ss_unpack (is := [3, 4]) (sa_cons (se_dc (own := [("index", 5)]) rfl nd_own_of (si_seq (sv 2)) (show BlkOk N_own_of (defScope (top 47)) _ [("index", 5)] from ⟨rfl, by decide +kernel, by decide +kernel, by decide +kernel, by decide +kernel⟩) (ok_gNV (by decide)) (fun _ _ _ _ _ => pg_name nd_own_of rfl (.inl rfl)) (fun _ _ _ _ _ => sts_nil) (fun _ _ _ _ _ => (sv 5)) (fun _ _ _ _ _ => cb)) (sa_cons cb sa_nil)) (pg_tup rfl (pgs_cons (pg_name nd_own_of rfl (by first | exact .inl rfl | exact .inr rfl)) (pgs_cons (pg_name nd_own_of rfl (by first | exact .inl rfl | exact .inr rfl)) pgs_nil))) (by first | rfl | kernel_rfl) (by first | rfl | kernel_rfl)) (sss_cons (ss_while 1000 ownF (st_val (sv 4)) (sss_cons (ss_set nd_own_of rfl (by first | exact .inl rfl | exact .inr rfl) cb) (sss_one (ss_for ownF rfl (si_seq (sv 2)) (pg_name nd_own_of rfl (.inl rfl)) ok_gN (sss_one (ss_if (st_not (st_val (s_call (ok_is_own_behind u) (psF tkF) hr u.g_is_own_behind u.kp_is_own_behind (sa_cons (se_ix (sv 0) (sv 5)) (sa_cons (se_dget hr.u1 (sv 3) (sv 5)) sa_nil))))) (sss_one (ss_for ownF rfl (si_seq (se_ix (sv 1) (sv 5))) (pg_name nd_own_of rfl (.inl rfl)) ok_gN (sss_cons (ss_set nd_own_of rfl (by first | exact .inl rfl | exact .inr rfl) (se_or (sv 4) (se_one (se_dget hr.u1 (sv 3) (sv 6))))) (sss_one (ss_put hr.u1 (sv 3) (sv 6) cb))))) sss_nil)))))) (sss_one (ss_ret (se_lc (own := [("index", 5)]) rfl nd_own_of (si_seq (sv 2)) (show BlkOk N_own_of (defScope (top 47)) _ [("index", 5)] from ⟨rfl, by decide +kernel, by decide +kernel, by decide +kernel, by decide +kernel⟩) (ok_gNV (by decide)) (fun _ _ _ _ _ => pg_name nd_own_of rfl (.inl rfl)) (fun _ _ _ _ _ => sts_one (st_val (se_dget hr.u1 (sv 3) (sv 5)))) (fun _ _ _ _ _ => (sv 5))))))))
def N_needs_own : List Str := ["line"]
theorem nd_needs_own : N_needs_own.Nodup := by decide +kernel
theorem sc_needs_own : FnScope N_needs_own ["line"] (defScope (top 48)) := ⟨rfl, rfl, rfl, nd_needs_own, rfl, by decide +kernel, by decide +kernel⟩
theorem ok_needs_own (u : U w K mg) : FnS P0 w K mg base (gm K) 1 (He.ga K "needs_own") ["line"] 1 f_needs_own := by
  obtain ⟨fd, F⟩ := u.d_needs_own
  exact  s_def (k := 0) F sc_needs_own rfl rfl (F.bindsN fun _ _ _ _ _ _ us hl => match us, hl with | [_], _ => rfl) fun E B cdv A outer s H hr =>
    (sss_one (ss_ret (se_or (s_in (se_ix (sv 0) ci) (se_tup (sa_cons cs (sa_cons cs sa_nil)))) (se_one (se_and (s_eq hr.u64 (se_ix (sv 0) ci) cs) (se_one (s_eq hr.u64 (se_ix (sv 0) ci) (cgs u.s_LINK))))))))
def N_ends_well : List Str := ["lines"]
theorem nd_ends_well : N_ends_well.Nodup := by decide +kernel
theorem sc_ends_well : FnScope N_ends_well ["lines"] (defScope (top 49)) := ⟨rfl, rfl, rfl, nd_ends_well, rfl, by decide +kernel, by decide +kernel⟩
theorem ok_ends_well (u : U w K mg) : FnS P0 w K mg base (gm K) 4 (He.ga K "ends_well") ["lines"] 1 f_ends_well := by
  obtain ⟨fd, F⟩ := u.d_ends_well
  exact  s_def (k := 3) F sc_ends_well rfl rfl (F.bindsN fun _ _ _ _ _ _ us hl => match us, hl with | [_], _ => rfl) fun E B cdv A outer s H hr =>
    (sss_one (ss_ret (se_or (s_in (se_ix (se_ix (sv 0) (se_neg ci)) ci) (cgt u.g_ENDS u.t_ENDS (fun _ _ => by simp [RVs, RV]))) (se_one (s_notin (se_sub (sb call_lenX ok_len u.f_len Boot.«len» (sa_cons (sv 0) sa_nil)) ci) (s_call (ok_reached_of u) (psF tkF) hr u.g_reached_of u.kp_reached_of (sa_cons (sv 0) sa_nil)))))))
def N_is_tidy : List Str := ["lines", "own", "index"]
theorem nd_is_tidy : N_is_tidy.Nodup := by decide +kernel
theorem sc_is_tidy : FnScope N_is_tidy ["lines"] (defScope (top 50)) := ⟨rfl, rfl, rfl, nd_is_tidy, rfl, by decide +kernel, by decide +kernel⟩
theorem ok_is_tidy (u : U w K mg) : FnS P0 w K mg base (gm K) 5 (He.ga K "is_tidy") ["lines"] 1 f_is_tidy := by
  obtain ⟨fd, F⟩ := u.d_is_tidy
  exact .gc <| .fr <| s_def (k := 4) F sc_is_tidy rfl rfl (F.bindsN fun _ _ _ _ _ _ us hl => match us, hl with | [_], _ => rfl) fun E B cdv A outer s H hr =>
    (sss_cons (ss_if (SW.st (sw_or (st_not (st_val (s_call (ok_ends_well u) (psF tkF) hr u.g_ends_well u.kp_ends_well (sa_cons (sv 0) sa_nil)))) (sw_or1 (t_is (s_call (ok_rows_of u) (psF tkF) hr u.g_rows_of u.kp_rows_of (sa_cons (sv 0) sa_nil)) cn)))) (sss_one (ss_ret cb)) sss_nil) (sss_cons (ss_set nd_is_tidy rfl (by first | exact .inl rfl | exact .inr rfl) (s_call (ok_own_of u) (psF tkF) hr u.g_own_of u.kp_own_of (sa_cons (sv 0) sa_nil))) (sss_one (ss_ret (sb (cr_all rfl) ok_all u.f_all Boot.«all» (sa_cons (se_lc (own := [("index", 2)]) rfl nd_is_tidy (si_seq (s_call (ok_reached_of u) (psF tkF) hr u.g_reached_of u.kp_reached_of (sa_cons (sv 0) sa_nil))) (show BlkOk N_is_tidy (defScope (top 50)) _ [("index", 2)] from ⟨rfl, by decide +kernel, by decide +kernel, by decide +kernel, by decide +kernel⟩) (ok_gNV (by decide)) (fun _ _ _ _ _ => pg_name nd_is_tidy rfl (.inl rfl)) (fun _ _ _ _ _ => sts_nil) (fun _ _ _ _ _ => (se_or (s_in (sv 2) (sv 1)) (se_one (se_not (s_call (ok_needs_own u) pass0 hr u.g_needs_own u.kp_needs_own (sa_cons (se_ix (sv 0) (sv 2)) sa_nil))))))) sa_nil))))))
def N_need_functions : List Str := ["value", "name"]
theorem nd_need_functions : N_need_functions.Nodup := by decide +kernel
theorem sc_need_functions : FnScope N_need_functions ["value"] (defScope (top 63)) := ⟨rfl, rfl, rfl, nd_need_functions, rfl, by decide +kernel, by decide +kernel⟩
theorem ok_need_functions (u : U w K mg) : FnS P0 w K mg base (gm K) 2 (He.ga K "need_functions") ["value"] 1 f_need_functions := by
  obtain ⟨fd, F⟩ := u.d_need_functions
  exact .gc <| s_def (k := 1) F sc_need_functions rfl rfl (F.bindsN fun _ _ _ _ _ _ us hl => match us, hl with | [_], _ => rfl) fun E B cdv A outer s H hr =>
    (sss_cons (ss_if (SW.st (sw_or (st_not (st_val (sb call_isi ok_isi u.f_isinstance Boot.«isinstance» (sa_cons (sv 0) (sa_cons (cty u.f_dict Boot.«dict») sa_nil))))) (sw_or (st_not (t_lele ci (sb call_lenX ok_len u.f_len Boot.«len» (sa_cons (sv 0) sa_nil)) (cgi u.i_MAX_FUNCTIONS))) (sw_or1 (t_dnotin hr.u1 (cgs u.s_MAIN) (sv 0)))))) sss_bad sss_nil) (sss_one (ss_if (st_not (st_val (sb (cr_all rfl) ok_all u.f_all Boot.«all» (sa_cons (se_lc (own := [("name", 1)]) rfl nd_need_functions (si_keysN (sv 0)) (show BlkOk N_need_functions (defScope (top 63)) _ [("name", 1)] from ⟨rfl, by decide +kernel, by decide +kernel, by decide +kernel, by decide +kernel⟩) (ok_gNV (by decide)) (fun _ _ _ _ _ => pg_name nd_need_functions rfl (.inl rfl)) (fun _ _ _ _ _ => sts_nil) (fun _ _ _ _ _ => (se_and (s_call (ok_is_word u) pass0 hr u.g_is_word u.kp_is_word (sa_cons (sv 1) sa_nil)) (se_and (s_call (ok_is_list u) pass0 hr u.g_is_list u.kp_is_list (sa_cons (se_dget hr.u1 (sv 0) (sv 1)) sa_nil)) (se_one (s_gt (sb call_lenX ok_len u.f_len Boot.«len» (sa_cons (se_dget hr.u1 (sv 0) (sv 1)) sa_nil)) ci)))))) sa_nil)))) sss_bad sss_nil)))
def N_need_lines : List Str := ["functions", "barred", "name", "labels", "lines", "marked", "index", "line"]
theorem nd_need_lines : N_need_lines.Nodup := by decide +kernel
theorem sc_need_lines : FnScope N_need_lines ["functions", "barred"] (defScope (top 64)) := ⟨rfl, rfl, rfl, nd_need_lines, rfl, by decide +kernel, by decide +kernel⟩
theorem ok_need_lines (u : U w K mg) : FnS P0 w K mg base (gm K) 6 (He.ga K "need_lines") ["functions", "barred"] 2 f_need_lines := by
  obtain ⟨fd, F⟩ := u.d_need_lines
  exact .gc <| s_def (k := 5) F sc_need_lines rfl rfl (F.bindsN fun _ _ _ _ _ _ us hl => match us, hl with | [_, _], _ => rfl) fun E B cdv A outer s H hr =>
    (sss_one (ss_for ownF rfl (si_keysN (sv 0)) (pg_name nd_need_lines rfl (.inl rfl)) ok_gN (sss_cons (ss_par2 (ps_par rfl nd_need_lines rfl rfl (by decide) rfl rfl (sa_cons (se_dget hr.u1 (sv 0) (sv 2)) (sa_cons se_dic0 sa_nil)) (by first | rfl | with_unfolding_all rfl | kernel_rfl) rfl)) (sss_cons (ss_setLc (own := [("line", 7)]) rfl nd_need_lines rfl rfl rfl (si_seq (sv 4)) (show BlkOk N_need_lines (defScope (top 64)) _ [("line", 7)] from ⟨rfl, by decide +kernel, by decide +kernel, by decide +kernel, by decide +kernel⟩) (ok_gNV (by decide)) (fun _ _ _ _ _ => pg_name nd_need_lines rfl (.inl rfl)) (fun _ _ _ _ _ => sts_one (SW.st (sw_and (st_val (s_call (ok_is_line u) pass0 hr u.g_is_line u.kp_is_line (sa_cons (sv 7) sa_nil))) (sw_and1 (t_eq hr.u64 (se_ix (sv 7) ci) cs))))) (fun _ _ _ _ _ => (se_ix (sv 7) ci))) (sss_one (ss_for ownF rfl (si_enum rfl u.f_enumerate (sa_cons (sv 4) sa_nil)) (pg_tup rfl (pgs_cons (pg_name nd_need_lines rfl (.inl rfl)) (pgs_cons (pg_name nd_need_lines rfl (.inl rfl)) pgs_nil))) (ok_gT (is := [6, 7])) (sss_cons (ss_if (SW.st (sw_or (st_not (st_val (s_call (ok_is_line u) (psF tkF) hr u.g_is_line u.kp_is_line (sa_cons (sv 7) sa_nil)))) (sw_or (t_in (se_ix (sv 7) ci) (sv 1)) (sw_or1 (SW.st (sw_and (t_isnot (s_call (ok_named u) (psF tkF) hr u.g_named u.kp_named (sa_cons (sv 7) sa_nil)) cn) (sw_and1 (t_dnotin hr.u1 (s_call (ok_named u) (psF tkF) hr u.g_named u.kp_named (sa_cons (sv 7) sa_nil)) (sv 0))))))))) (sss_one (s_raise (ok_InvalidLine_init u) hr rfl u.oex_InvalidLine u.g_InvalidLine (sa_cons (sv 2) (sa_cons (sv 6) sa_nil)))) sss_nil) (sss_cons (ss_if (SW.st (sw_or (SW.st (sw_and (t_eq hr.u64 (se_ix (sv 7) ci) cs) (sw_and1 (t_din hr.u1 (se_ix (sv 7) ci) (sv 5))))) (sw_or1 (SW.st (sw_and (t_isnot (s_call (ok_label_of u) (psF tkF) hr u.g_label_of u.kp_label_of (sa_cons (sv 7) sa_nil)) cn) (sw_and1 (t_notin (se_ix (sv 7) ci) (sv 3)))))))) (sss_one (s_raise (ok_InvalidLine_init u) hr rfl u.oex_InvalidLine u.g_InvalidLine (sa_cons (sv 2) (sa_cons (sv 6) sa_nil)))) sss_nil) (sss_one (ss_if (t_eq hr.u64 (se_ix (sv 7) ci) cs) (sss_one (ss_put hr.u1 (sv 5) (se_ix (sv 7) ci) cb)) sss_nil))))))))))
def N_need_few : List Str := ["functions", "lines"]
theorem nd_need_few : N_need_few.Nodup := by decide +kernel
theorem sc_need_few : FnScope N_need_few ["functions"] (defScope (top 65)) := ⟨rfl, rfl, rfl, nd_need_few, rfl, by decide +kernel, by decide +kernel⟩
theorem ok_need_few (u : U w K mg) : FnS P0 w K mg base (gm K) 1 (He.ga K "need_few") ["functions"] 1 f_need_few := by
  obtain ⟨fd, F⟩ := u.d_need_few
  exact .gc <| s_def (k := 0) F sc_need_few rfl rfl (F.bindsN fun _ _ _ _ _ _ us hl => match us, hl with | [_], _ => rfl) fun E B cdv A outer s H hr =>
    (sss_cons (ss_if (t_gt (sb (cr_max rfl) ok_max u.f_max Boot.«max» (sa_cons (se_lc (own := [("lines", 1)]) rfl nd_need_few (si_valsN (sv 0)) (show BlkOk N_need_few (defScope (top 65)) _ [("lines", 1)] from ⟨rfl, by decide +kernel, by decide +kernel, by decide +kernel, by decide +kernel⟩) (ok_gNV (by decide)) (fun _ _ _ _ _ => pg_name nd_need_few rfl (.inl rfl)) (fun _ _ _ _ _ => sts_nil) (fun _ _ _ _ _ => (sb call_lenX ok_len u.f_len Boot.«len» (sa_cons (sv 1) sa_nil)))) sa_nil)) (cgi u.i_MAX_LINES)) sss_bad sss_nil) (sss_one (ss_if (t_gt (sb (cr_sum rfl) ok_sum u.f_sum Boot.«sum» (sa_cons (se_lc (own := [("lines", 1)]) rfl nd_need_few (si_valsN (sv 0)) (show BlkOk N_need_few (defScope (top 65)) _ [("lines", 1)] from ⟨rfl, by decide +kernel, by decide +kernel, by decide +kernel, by decide +kernel⟩) (ok_gNV (by decide)) (fun _ _ _ _ _ => pg_name nd_need_few rfl (.inl rfl)) (fun _ _ _ _ _ => sts_nil) (fun _ _ _ _ _ => (sb call_lenX ok_len u.f_len Boot.«len» (sa_cons (sv 1) sa_nil)))) sa_nil)) (cgi u.i_MAX_ALL)) sss_bad sss_nil)))
def N_Program_barred : List Str := ["self"]
theorem nd_Program_barred : N_Program_barred.Nodup := by decide +kernel
theorem sc_Program_barred : FnScope N_Program_barred ["self"] (defScope (meth 67 4)) := ⟨rfl, rfl, rfl, nd_Program_barred, rfl, by decide +kernel, by decide +kernel⟩
theorem ok_Program_barred (u : U w K mg) : FnS P0 w K mg base (gm K) 1 (He.ma K (He.ga K "Program") "barred") ["self"] 1 f_Program_barred := by
  obtain ⟨fd, F⟩ := u.d_Program_barred
  exact .gc <| s_def (k := 0) F sc_Program_barred rfl rfl (F.bindsN fun _ _ _ _ _ _ us hl => match us, hl with | [_], _ => rfl) fun E B cdv A outer s H hr =>
    (sss_one (ss_ret (se_tup sa_nil)))
def N_Program_is_fine : List Str := ["self", "lines"]
theorem nd_Program_is_fine : N_Program_is_fine.Nodup := by decide +kernel
theorem sc_Program_is_fine : FnScope N_Program_is_fine ["self", "lines"] (defScope (meth 67 5)) := ⟨rfl, rfl, rfl, nd_Program_is_fine, rfl, by decide +kernel, by decide +kernel⟩
theorem ok_Program_is_fine (u : U w K mg) : FnS P0 w K mg base (gm K) 6 (He.ma K (He.ga K "Program") "is_fine") ["self", "lines"] 2 f_Program_is_fine := by
  obtain ⟨fd, F⟩ := u.d_Program_is_fine
  exact .gc <| s_def (k := 5) F sc_Program_is_fine rfl rfl (F.bindsN fun _ _ _ _ _ _ us hl => match us, hl with | [_, _], _ => rfl) fun E B cdv A outer s H hr =>
    (sss_one (ss_ret (s_call (ok_is_tidy u) (psF tkF) hr u.g_is_tidy u.kp_is_tidy (sa_cons (sv 1) sa_nil))))
def N_Program_need_fine : List Str := ["self", "name"]
theorem nd_Program_need_fine : N_Program_need_fine.Nodup := by decide +kernel
theorem sc_Program_need_fine : FnScope N_Program_need_fine ["self"] (defScope (meth 67 3)) := ⟨rfl, rfl, rfl, nd_Program_need_fine, rfl, by decide +kernel, by decide +kernel⟩
theorem ok_Program_need_fine (u : U w K mg) : FnS P0 w K mg base (gm K) 7 (He.ma K (He.ga K "Program") "need_fine") ["self"] 1 f_Program_need_fine := by
  obtain ⟨fd, F⟩ := u.d_Program_need_fine
  exact .gc <| s_def (k := 6) F sc_Program_need_fine rfl rfl (F.bindsN fun _ _ _ _ _ _ us hl => match us, hl with | [_], _ => rfl) fun E B cdv A outer s H hr =>
    (sss_cons (ss_expr (s_call (ok_need_lines u) (psF tkF) hr u.g_need_lines u.kp_need_lines (sa_cons (se_fld [7] (sv 0) (clsG_one rfl u.cl_Program u.na_Program_own_functions)) (sa_cons (s_meth0 (ok_Program_barred u) (psF tkF) hr rfl u.cl_Program u.me_Program_barred (sv 0)) sa_nil)))) (sss_cons (ss_expr (s_call (ok_need_few u) (psF tkF) hr u.g_need_few u.kp_need_few (sa_cons (se_fld [7] (sv 0) (clsG_one rfl u.cl_Program u.na_Program_own_functions)) sa_nil))) (sss_one (ss_for ownF rfl (si_keysN (se_fld [7] (sv 0) (clsG_one rfl u.cl_Program u.na_Program_own_functions))) (pg_name nd_Program_need_fine rfl (.inl rfl)) ok_gN (sss_one (ss_if (st_not (st_val (s_meth (ok_Program_is_fine u) (psF tkF) hr rfl u.cl_Program u.me_Program_is_fine (sv 0) (sa_cons (se_dget hr.u1 (se_fld [7] (sv 0) (clsG_one rfl u.cl_Program u.na_Program_own_functions)) (sv 1)) sa_nil)))) sss_bad sss_nil))))))
def N_Program___init__ : List Str := ["self", "functions", "given", "name"]
theorem nd_Program___init__ : N_Program___init__.Nodup := by decide +kernel
theorem sc_Program___init__ : FnScope N_Program___init__ ["self", "functions"] (defScope (meth 67 2)) := ⟨rfl, rfl, rfl, nd_Program___init__, rfl, by decide +kernel, by decide +kernel⟩
theorem ok_Program___init__ (u : U w K mg) : FnS P0 w K mg base (gm K) 8 (He.ma K (He.ga K "Program") "__init__") ["self", "functions"] 2 f_Program___init__ := by
  obtain ⟨fd, F⟩ := u.d_Program___init__
  exact  s_def (k := 7) F sc_Program___init__ rfl rfl (F.bindsN fun _ _ _ _ _ _ us hl => match us, hl with | [_, _], _ => rfl) fun E B cdv A outer s H hr =>
    (sss_cons (ss_if (st_val (sb call_isi (ok_isiO ⟨_, rfl⟩ u.own_Parts) u.f_isinstance Boot.«isinstance» (sa_cons (sv 1) (sa_cons (cgl u.g_Parts rfl) sa_nil)))) sss_bad (sss_cons (ss_expr (s_call (ok_need_functions u) (psF tkF) hr u.g_need_functions u.kp_need_functions (sa_cons (sv 1) sa_nil))) (sss_one (ss_set nd_Program___init__ rfl (by first | exact .inl rfl | exact .inr rfl) (sv 1))))) (sss_cons (ss_fld [7] (sv 0) (se_dc (own := [("name", 3)]) rfl nd_Program___init__ (si_seq (sb (cr_sortX rfl) ok_sorted u.f_sorted Boot.«sorted» (sa_cons (sv 2) sa_nil))) (show BlkOk N_Program___init__ (defScope (meth 67 2)) _ [("name", 3)] from ⟨rfl, by decide +kernel, by decide +kernel, by decide +kernel, by decide +kernel⟩) (ok_gNV (by decide)) (fun _ _ _ _ _ => pg_name nd_Program___init__ rfl (.inl rfl)) (fun _ _ _ _ _ => sts_nil) (fun _ _ _ _ _ => (sv 3)) (fun _ _ _ _ _ => (sbt call_tuple_of ok_tupOf u.f_tuple Boot.«tuple» (sa_cons (se_dget hr.u1 (sv 2) (sv 3)) sa_nil)))) (clsG_one rfl u.cl_Program u.na_Program_own_functions)) (sss_one (ss_if (st_not (st_val (sb call_isi (ok_isiO ⟨_, rfl⟩ u.own_Parts) u.f_isinstance Boot.«isinstance» (sa_cons (sv 1) (sa_cons (cgl u.g_Parts rfl) sa_nil))))) (sss_one (ss_expr (s_meth0 (ok_Program_need_fine u) (psF tkF) hr rfl u.cl_Program u.me_Program_need_fine (sv 0)))) sss_nil))))
def N_Program_of : List Str := ["cls", "lines", "functions"]
theorem nd_Program_of : N_Program_of.Nodup := by decide +kernel
theorem sc_Program_of : FnScope N_Program_of ((["cls"] : List Str) ++ (["lines"] : List Str)) (defScope (meth 67 7)) := ⟨rfl, rfl, rfl, nd_Program_of, rfl, by decide +kernel, by decide +kernel⟩
theorem ok_Program_of (u : U w K mg) : FnR P0 w K mg base (CX P0 w) 10 (smF K "Program" "of") (spStar K (gm K) f_Program_of) := by
  obtain ⟨fd, F⟩ := u.d_Program_of
  exact fn_doesStar (k := 9) (p1 := "cls") (pv := "lines") F sc_Program_of rfl (by obtain ⟨⟨_, _, _, _, _, _, _, _, _, _, rfl, _, _, hd, _⟩, _⟩ := F; exact (hd.elim (fun ⟨h1, h2⟩ => by cases h1; cases h2; exact StX.bind_star1 (B := fun us => bindArgs (PySem.W.fnOf _ _ _ _ _ _ _ _ _ _ _ _) ⟨us, []⟩) (fun _ => rfl) (fun _ _ _ => rfl)) (fun ⟨h, _⟩ => absurd rfl h))) fun c cdv A outer s H hγ hr => by
    obtain ⟨γ', E, B⟩ := c
    have hγ' : γ' = gm K := hγ
    subst hγ'
    exact (sss_cons (ss_set nd_Program_of rfl (by first | exact .inl rfl | exact .inr rfl) (se_disp (prs := [((mCon (.str "main")), (mVar 1))]) (pps_cons (cgs u.s_MAIN) (sv 1) pps_nil))) (sss_one (ss_ret (s_makeL (ok_Program___init__ u) (psF tkF) hr rfl u.mk_Program 0 (sa_cons (sv 2) sa_nil)))))
def N_Program_size_of_line : List Str := ["line"]
theorem nd_Program_size_of_line : N_Program_size_of_line.Nodup := by decide +kernel
theorem sc_Program_size_of_line : FnScope N_Program_size_of_line ["line"] (defScope (meth 67 9)) := ⟨rfl, rfl, rfl, nd_Program_size_of_line, rfl, by decide +kernel, by decide +kernel⟩
theorem ok_Program_size_of_line (u : U w K mg) : FnS P0 w K mg base (gm K) 2 (smF K "Program" "size_of_line") ["line"] 1 f_Program_size_of_line := by
  obtain ⟨fd, F⟩ := u.d_Program_size_of_line
  exact .gc <| s_def (k := 1) F sc_Program_size_of_line rfl rfl (F.bindsN fun _ _ _ _ _ _ us hl => match us, hl with | [_], _ => rfl) fun E B cdv A outer s H hr =>
    (sss_one (ss_ret (s_call (ok_size_of_line u) (psF tkF) hr u.g_size_of_line_lines u.kp_size_of_line (sa_cons (sv 0) sa_nil))))
def N_Program_functions : List Str := ["self"]
theorem nd_Program_functions : N_Program_functions.Nodup := by decide +kernel
theorem sc_Program_functions : FnScope N_Program_functions ["self"] (defScope (meth 67 10)) := ⟨rfl, rfl, rfl, nd_Program_functions, rfl, by decide +kernel, by decide +kernel⟩
theorem ok_Program_functions (u : U w K mg) : FnS P0 w K mg base (gm K) 1 (prF K "Program" "functions") ["self"] 1 f_Program_functions := by
  obtain ⟨fd, F⟩ := u.d_Program_functions
  exact .gc <| s_def (k := 0) F sc_Program_functions rfl rfl (F.bindsN fun _ _ _ _ _ _ us hl => match us, hl with | [_], _ => rfl) fun E B cdv A outer s H hr =>
    (sss_one (ss_ret (sbt call_dictD ok_dicOf u.f_dict Boot.«dict» (sa_cons (se_fld [7] (sv 0) (clsG_one rfl u.cl_Program u.na_Program_own_functions)) sa_nil))))
def N_Program_size : List Str := ["self", "lines"]
theorem nd_Program_size : N_Program_size.Nodup := by decide +kernel
theorem sc_Program_size : FnScope N_Program_size ["self"] (defScope (meth 67 12)) := ⟨rfl, rfl, rfl, nd_Program_size, rfl, by decide +kernel, by decide +kernel⟩
theorem ok_Program_size (u : U w K mg) : FnS P0 w K mg base (gm K) 3 (prF K "Program" "size") ["self"] 1 f_Program_size := by
  obtain ⟨fd, F⟩ := u.d_Program_size
  exact .gc <| s_def (k := 2) F sc_Program_size rfl rfl (F.bindsN fun _ _ _ _ _ _ us hl => match us, hl with | [_], _ => rfl) fun E B cdv A outer s H hr =>
    (sss_one (ss_ret (sb (cr_sum rfl) ok_sum u.f_sum Boot.«sum» (sa_cons (se_lc (own := [("lines", 1)]) rfl nd_Program_size (si_valsN (se_fld [7] (sv 0) (clsG_one rfl u.cl_Program u.na_Program_own_functions))) (show BlkOk N_Program_size (defScope (meth 67 12)) _ [("lines", 1)] from ⟨rfl, by decide +kernel, by decide +kernel, by decide +kernel, by decide +kernel⟩) (ok_gNV (by decide)) (fun _ _ _ _ _ => pg_name nd_Program_size rfl (.inl rfl)) (fun _ _ _ _ _ => sts_nil) (fun _ _ _ _ _ => (s_call (ok_size_of_lines u) pass0 hr u.g_size_of_lines u.kp_size_of_lines (sa_cons (sv 1) sa_nil)))) sa_nil))))
def N__law_pen : List Str := ["_law_script"]
theorem nd__law_pen : N__law_pen.Nodup := by decide +kernel
theorem sc__law_pen : FnScope N__law_pen ["_law_script"] (defScope (top 70)) := ⟨rfl, rfl, rfl, nd__law_pen, rfl, by decide +kernel, by decide +kernel⟩
theorem ok__law_pen (u : U w K mg) : FnS P0 w K mg base (gm K) 1 (He.ga K "_law_pen") ["_law_script"] 1 f__law_pen := by
  obtain ⟨fd, F⟩ := u.d__law_pen
  exact .gc <| s_def (k := 0) F sc__law_pen rfl rfl (F.bindsN fun _ _ _ _ _ _ us hl => match us, hl with | [_], _ => rfl) fun E B cdv A outer s H hr =>
    (sss_one (ss_ret (se_disp (prs := [((mCon (.str "cells")), (mCall (fLstOf B) (mCons (mSl B (mVar 0) mO0 (mO1 (mCon (.int 63)))) mNil))), ((mCon (.str "turn")), (mCon (.int 0))), ((mCon (.str "left")), (mCon (.int 0)))]) (pps_cons cs (sbt call_list_of ok_lstOf u.f_list Boot.«list» (sa_cons (se_slice (sv 0) so_none (so_some ci)) sa_nil)) (pps_cons cs ci (pps_cons cs ci pps_nil))))))
def N__law_draw : List Str := ["_law_pen_here", "_law_many", "_law_digit", "_law_turn", "_law_cell", "_law_primes", "_law_prime", "_law_drawn"]
theorem nd__law_draw : N__law_draw.Nodup := by decide +kernel
theorem sc__law_draw : FnScope N__law_draw ["_law_pen_here", "_law_many"] (defScope (top 71)) := ⟨rfl, rfl, rfl, nd__law_draw, rfl, by decide +kernel, by decide +kernel⟩
theorem ok__law_draw (u : U w K mg) : FnS P0 w K mg base (gm K) 1 (He.ga K "_law_draw") ["_law_pen_here", "_law_many"] 2 f__law_draw := by
  obtain ⟨fd, F⟩ := u.d__law_draw
  exact .gc <| s_def (k := 0) F sc__law_draw rfl rfl (F.bindsN fun _ _ _ _ _ _ us hl => match us, hl with | [_, _], _ => rfl) fun E B cdv A outer s H hr =>
    (sss_cons (ss_if (t_gt (se_dget hr.u1 (sv 0) cs) ci) (sss_cons (ss_set nd__law_draw rfl (by first | exact .inl rfl | exact .inr rfl) (se_mod (sbt call_int1 ok_int u.f_int Boot.«int» (sa_cons (se_dget hr.u1 (sv 0) cs) sa_nil)) (sv 1))) (sss_cons (ss_put hr.u1 (sv 0) cs (se_div (se_dget hr.u1 (sv 0) cs) (sv 1))) (sss_one (ss_ret (sv 2))))) sss_nil) (sss_cons (ss_set nd__law_draw rfl (by first | exact .inl rfl | exact .inr rfl) (se_dget hr.u1 (sv 0) cs)) (sss_cons (ss_put hr.u1 (sv 0) cs (se_add (sv 3) ci)) (sss_cons (ss_set nd__law_draw rfl (by first | exact .inl rfl | exact .inr rfl) (se_add (se_mul ci (sv 3)) ci)) (sss_cons (ss_if (t_ne hr.u64 (se_dget hr.u1 (sv 0) cs) (se_lst sa_nil)) (sss_one (ss_set nd__law_draw rfl (by first | exact .inl rfl | exact .inr rfl) (se_ix (se_dget hr.u1 (sv 0) cs) (se_mod (sbt call_int1 ok_int u.f_int Boot.«int» (sa_cons (sv 3) sa_nil)) (sb call_lenX ok_len u.f_len Boot.«len» (sa_cons (se_dget hr.u1 (sv 0) cs) sa_nil)))))) sss_nil) (sss_cons (ss_if (SW.st (sw_and (t_lt (sv 3) (sb call_lenX ok_len u.f_len Boot.«len» (sa_cons (se_dget hr.u1 (sv 0) cs) sa_nil))) (sw_and1 (t_ge (sb call_abs ok_abs u.f_abs Boot.«abs» (sa_cons (sv 4) sa_nil)) (se_pow ci ci))))) (sss_cons (ss_put hr.u1 (sv 0) cs (se_div (se_sub (sb call_abs ok_abs u.f_abs Boot.«abs» (sa_cons (sv 4) sa_nil)) (se_pow ci ci)) (sv 1))) (sss_one (ss_ret (se_mod (se_sub (sb call_abs ok_abs u.f_abs Boot.«abs» (sa_cons (sv 4) sa_nil)) (se_pow ci ci)) (sv 1))))) sss_nil) (sss_cons (ss_set nd__law_draw rfl (by first | exact .inl rfl | exact .inr rfl) (se_lst (sa_cons ci (sa_cons ci (sa_cons ci (sa_cons ci (sa_cons ci sa_nil))))))) (sss_cons (ss_set nd__law_draw rfl (by first | exact .inl rfl | exact .inr rfl) (se_ix (sv 5) (se_mod (sbt call_int1 ok_int u.f_int Boot.«int» (sa_cons (sv 3) sa_nil)) ci))) (sss_cons (ss_set nd__law_draw rfl (by first | exact .inl rfl | exact .inr rfl) (se_mod (sbt call_int1 ok_int u.f_int Boot.«int» (sa_cons (se_add (se_add (se_mul (se_mod (sbt call_int1 ok_int u.f_int Boot.«int» (sa_cons (sv 4) sa_nil)) (sv 6)) ci) (se_mul (sv 3) (se_add (se_mul ci (sv 3)) ci))) ci) sa_nil)) (sv 6))) (sss_cons (ss_set nd__law_draw rfl (by first | exact .inl rfl | exact .inr rfl) (se_mod (sbt call_int1 ok_int u.f_int Boot.«int» (sa_cons (se_mul (sv 7) (se_add (sv 7) ci)) sa_nil)) (se_ix (sv 5) (se_mod (sbt call_int1 ok_int u.f_int Boot.«int» (sa_cons (se_add (sv 3) ci) sa_nil)) ci)))) (sss_one (ss_ret (se_mod (sbt call_int1 ok_int u.f_int Boot.«int» (sa_cons (se_div (se_mod (sbt call_int1 ok_int u.f_int Boot.«int» (sa_cons (se_add (se_add (se_mul (sv 7) (sv 7)) (se_mul ci (sv 7))) (sv 3)) sa_nil)) ci) ci) sa_nil)) (sv 1))))))))))))))
def N__law_pick : List Str := ["_law_pen_here", "_law_options"]
theorem nd__law_pick : N__law_pick.Nodup := by decide +kernel
theorem sc__law_pick : FnScope N__law_pick ["_law_pen_here", "_law_options"] (defScope (top 72)) := ⟨rfl, rfl, rfl, nd__law_pick, rfl, by decide +kernel, by decide +kernel⟩
theorem ok__law_pick (u : U w K mg) : FnS P0 w K mg base (gm K) 2 (He.ga K "_law_pick") ["_law_pen_here", "_law_options"] 2 f__law_pick := by
  obtain ⟨fd, F⟩ := u.d__law_pick
  exact .gc <| s_def (k := 1) F sc__law_pick rfl rfl (F.bindsN fun _ _ _ _ _ _ us hl => match us, hl with | [_, _], _ => rfl) fun E B cdv A outer s H hr =>
    (sss_one (ss_ret (se_ix (sv 1) (s_call (ok__law_draw u) (psF tkF) hr u.g__law_draw u.kp__law_draw (sa_cons (sv 0) (sa_cons (sb call_lenX ok_len u.f_len Boot.«len» (sa_cons (sv 1) sa_nil)) sa_nil))))))
def N__law_number : List Str := ["_law_pen_here", "_law_small"]
theorem nd__law_number : N__law_number.Nodup := by decide +kernel
theorem sc__law_number : FnScope N__law_number ["_law_pen_here"] (defScope (top 73)) := ⟨rfl, rfl, rfl, nd__law_number, rfl, by decide +kernel, by decide +kernel⟩
theorem ok__law_number (u : U w K mg) : FnS P0 w K mg base (gm K) 3 (He.ga K "_law_number") ["_law_pen_here"] 1 f__law_number := by
  obtain ⟨fd, F⟩ := u.d__law_number
  exact .gc <| s_def (k := 2) F sc__law_number rfl rfl (F.bindsN fun _ _ _ _ _ _ us hl => match us, hl with | [_], _ => rfl) fun E B cdv A outer s H hr =>
    (sss_cons (ss_set nd__law_number rfl (by first | exact .inl rfl | exact .inr rfl) (se_sub (s_call (ok__law_draw u) (psF tkF) hr u.g__law_draw u.kp__law_draw (sa_cons (sv 0) (sa_cons ci sa_nil))) ci)) (sss_one (ss_ret (s_call (ok__law_pick u) (psF tkF) hr u.g__law_pick u.kp__law_pick (sa_cons (sv 0) (sa_cons (se_lst (sa_cons (sv 1) (sa_cons (sv 1) (sa_cons (sv 1) (sa_cons (sv 1) (sa_cons ci (sa_cons (se_neg ci) (sa_cons (se_add ci (sv 1)) (sa_cons (se_sub (se_pow ci ci) ci) (sa_cons (se_sub ci (se_pow ci ci)) sa_nil)))))))))) sa_nil))))))
def N__law_forms : List Str := ["_law_found"]
theorem nd__law_forms : N__law_forms.Nodup := by decide +kernel
theorem sc__law_forms : FnScope N__law_forms [] (defScope (top 74)) := ⟨rfl, rfl, rfl, nd__law_forms, rfl, by decide +kernel, by decide +kernel⟩
theorem ok__law_forms (u : U w K mg) : FnS P0 w K mg base (gm K) 1 (He.ga K "_law_forms") [] 0 f__law_forms := by
  obtain ⟨fd, F⟩ := u.d__law_forms
  exact .gc <| .fr <| s_def (k := 0) F sc__law_forms rfl rfl (F.bindsN fun _ _ _ _ _ _ us hl => match us, hl with | [], _ => rfl) fun E B cdv A outer s H hr =>
    (sss_cons (ss_set nd__law_forms rfl (by first | exact .inl rfl | exact .inr rfl) (se_disp (prs := [((mCon (.str "num")), (mCon (.str "rn"))), ((mCon (.str "copy")), (mCon (.str "rr"))), ((mCon (.str "add")), (mCon (.str "rrr"))), ((mCon (.str "sub")), (mCon (.str "rrr"))), ((mCon (.str "mul")), (mCon (.str "rrr"))), ((mCon (.str "addr")), (mCon (.str "rf"))), ((mCon (.str "same")), (mCon (.str "rr")))]) (pps_cons cs cs (pps_cons cs cs (pps_cons cs cs (pps_cons cs cs (pps_cons cs cs (pps_cons cs cs (pps_cons cs cs pps_nil))))))))) (sss_cons (ss_expr (se_update (sv 0) (sa_cons (se_disp (prs := [((mCon (.str "less")), (mCon (.str "rr"))), ((mCon (.str "in")), (mCon (.str "r"))), ((mCon (.str "out")), (mCon (.str "r"))), ((mCon (.str "push")), (mCon (.str "x"))), ((mCon (.str "pop")), (mCon (.str "x"))), ((mCon (.str "read")), (mCon (.str "rk"))), ((mCon (.str "write")), (mCon (.str "kr")))]) (pps_cons cs cs (pps_cons cs cs (pps_cons cs cs (pps_cons cs cs (pps_cons cs cs (pps_cons cs cs (pps_cons cs cs pps_nil)))))))) sa_nil))) (sss_cons (ss_expr (se_update (sv 0) (sa_cons (se_disp (prs := [((mCon (.str "mark")), (mCon (.str "l"))), ((mCon (.str "jump")), (mCon (.str "l"))), ((mCon (.str "if")), (mCon (.str "l"))), ((mCon (.str "unless")), (mCon (.str "l"))), ((mCon (.str "call")), (mCon (.str "f"))), ((mCon (.str "callr")), (mCon (.str "r"))), ((mCon (.str "tail")), (mCon (.str "f")))]) (pps_cons cs cs (pps_cons cs cs (pps_cons cs cs (pps_cons cs cs (pps_cons cs cs (pps_cons cs cs (pps_cons cs cs pps_nil)))))))) sa_nil))) (sss_cons (ss_expr (se_update (sv 0) (sa_cons (se_disp (prs := [((mCon (.str "back")), (mCon (.str ""))), ((mCon (.str "stop")), (mCon (.str "")))]) (pps_cons cs cs (pps_cons cs cs pps_nil))) sa_nil))) (sss_one (ss_ret (sv 0)))))))
def N__law_any_part : List Str := ["_law_pen_here", "_law_some"]
theorem nd__law_any_part : N__law_any_part.Nodup := by decide +kernel
theorem sc__law_any_part : FnScope N__law_any_part ["_law_pen_here"] (defScope (top 75)) := ⟨rfl, rfl, rfl, nd__law_any_part, rfl, by decide +kernel, by decide +kernel⟩
theorem ok__law_any_part (u : U w K mg) : FnS P0 w K mg base (gm K) 3 (He.ga K "_law_any_part") ["_law_pen_here"] 1 f__law_any_part := by
  obtain ⟨fd, F⟩ := u.d__law_any_part
  exact .gc <| s_def (k := 2) F sc__law_any_part rfl rfl (F.bindsN fun _ _ _ _ _ _ us hl => match us, hl with | [_], _ => rfl) fun E B cdv A outer s H hr =>
    (sss_cons (ss_set nd__law_any_part rfl (by first | exact .inl rfl | exact .inr rfl) (se_lst (sa_cons cn (sa_cons cb (sa_cons cb (sa_cons (se_neg ci) (sa_cons ci (sa_cons ci (sa_cons (se_pow ci ci) (sa_cons (se_sub (se_sub ci (se_pow ci ci)) ci) (sa_cons (se_pow ci ci) (sa_cons cs (sa_cons cs (sa_cons cs (sa_cons cs (sa_cons cs sa_nil)))))))))))))))) (sss_one (ss_ret (s_call (ok__law_pick u) (psF tkF) hr u.g__law_pick u.kp__law_pick (sa_cons (sv 0) (sa_cons (se_add (sv 1) (se_lst (sa_cons (se_tup (sa_cons ci sa_nil)) (sa_cons (se_lst (sa_cons ci sa_nil)) (sa_cons se_dic0 (sa_cons ci (sa_cons ci (sa_cons ci (sa_cons cs (sa_cons cs (sa_cons cs (sa_cons (se_sub (se_pow ci ci) ci) sa_nil)))))))))))) sa_nil))))))
def N__law_part : List Str := ["_law_pen_here", "_law_kind"]
theorem nd__law_part : N__law_part.Nodup := by decide +kernel
theorem sc__law_part : FnScope N__law_part ["_law_pen_here", "_law_kind"] (defScope (top 76)) := ⟨rfl, rfl, rfl, nd__law_part, rfl, by decide +kernel, by decide +kernel⟩
theorem ok__law_part (u : U w K mg) : FnS P0 w K mg base (gm K) 4 (He.ga K "_law_part") ["_law_pen_here", "_law_kind"] 2 f__law_part := by
  obtain ⟨fd, F⟩ := u.d__law_part
  exact .gc <| s_def (k := 3) F sc__law_part rfl rfl (F.bindsN fun _ _ _ _ _ _ us hl => match us, hl with | [_, _], _ => rfl) fun E B cdv A outer s H hr =>
    (sss_cons (ss_if (SW.st (sw_or (t_eq hr.u64 (sv 1) cs) (sw_or1 (SW.st (sw_and (t_eq hr.u64 (sv 1) cs) (sw_and1 (t_eq hr.u64 (s_call (ok__law_draw u) (psF tkF) hr u.g__law_draw u.kp__law_draw (sa_cons (sv 0) (sa_cons ci sa_nil))) ci))))))) (sss_one (ss_ret (s_call (ok__law_draw u) (psF tkF) hr u.g__law_draw u.kp__law_draw (sa_cons (sv 0) (sa_cons ci sa_nil))))) sss_nil) (sss_cons (ss_if (t_eq hr.u64 (sv 1) cs) (sss_one (ss_ret cs)) sss_nil) (sss_cons (ss_if (t_eq hr.u64 (sv 1) cs) (sss_one (ss_ret (s_call (ok__law_number u) (psF tkF) hr u.g__law_number u.kp__law_number (sa_cons (sv 0) sa_nil)))) sss_nil) (sss_one (ss_ret (se_ite (t_eq hr.u64 (sv 1) cs) (s_call (ok__law_pick u) (psF tkF) hr u.g__law_pick u.kp__law_pick (sa_cons (sv 0) (sa_cons (se_lst (sa_cons ci (sa_cons ci (sa_cons ci sa_nil)))) sa_nil))) (se_ix (se_lst (sa_cons cs (sa_cons cs sa_nil))) (sbt call_int1 ok_int u.f_int Boot.«int» (sa_cons (s_eq hr.u64 (sv 1) cs) sa_nil)))))))))
def N__law_is_part : List Str := ["_law_kind", "_law_thing", "_law_is_int"]
theorem nd__law_is_part : N__law_is_part.Nodup := by decide +kernel
theorem sc__law_is_part : FnScope N__law_is_part ["_law_kind", "_law_thing"] (defScope (top 77)) := ⟨rfl, rfl, rfl, nd__law_is_part, rfl, by decide +kernel, by decide +kernel⟩
theorem ok__law_is_part (u : U w K mg) : FnS P0 w K mg base (gm K) 1 (He.ga K "_law_is_part") ["_law_kind", "_law_thing"] 2 f__law_is_part := by
  obtain ⟨fd, F⟩ := u.d__law_is_part
  exact .gc <| s_def (k := 0) F sc__law_is_part rfl rfl (F.bindsN fun _ _ _ _ _ _ us hl => match us, hl with | [_, _], _ => rfl) fun E B cdv A outer s H hr =>
    (sss_cons (ss_set nd__law_is_part rfl (by first | exact .inl rfl | exact .inr rfl) (se_and (sb call_isi ok_isi u.f_isinstance Boot.«isinstance» (sa_cons (sv 1) (sa_cons (cty u.f_int Boot.«int») sa_nil))) (se_one (se_not (sb call_isi ok_isi u.f_isinstance Boot.«isinstance» (sa_cons (sv 1) (sa_cons (cty u.f_bool Boot.«bool») sa_nil))))))) (sss_cons (ss_if (t_eq hr.u64 (sv 0) cs) (sss_one (ss_ret (se_and (sv 2) (se_one (s_lelt (se_sub ci (se_pow ci ci)) (sv 1) (se_pow ci ci)))))) sss_nil) (sss_cons (ss_if (t_eq hr.u64 (sv 0) cs) (sss_one (ss_ret (se_and (sv 2) (se_one (s_lele ci (sv 1) ci))))) sss_nil) (sss_cons (ss_if (t_eq hr.u64 (sv 0) cs) (sss_one (ss_ret (se_and (sb call_isi ok_isi u.f_isinstance Boot.«isinstance» (sa_cons (sv 1) (sa_cons (cty u.f_str Boot.«str») sa_nil))) (se_one (s_eq hr.u64 (sv 1) cs))))) sss_nil) (sss_cons (ss_if (t_eq hr.u64 (sv 0) cs) (sss_one (ss_ret (se_and (sb call_isi ok_isi u.f_isinstance Boot.«isinstance» (sa_cons (sv 1) (sa_cons (cty u.f_str Boot.«str») sa_nil))) (se_one (s_eq hr.u64 (sv 1) cs))))) sss_nil) (sss_one (ss_ret (se_or (se_and (sv 2) (se_one (s_lele ci (sv 1) ci))) (se_one (se_and (s_eq hr.u64 (sv 0) cs) (se_and (sb call_isi ok_isi u.f_isinstance Boot.«isinstance» (sa_cons (sv 1) (sa_cons (cty u.f_str Boot.«str») sa_nil))) (se_one (s_eq hr.u64 (sv 1) cs)))))))))))))
def N__law_is_line : List Str := ["_law_thing", "_law_form", "_law_k"]
theorem nd__law_is_line : N__law_is_line.Nodup := by decide +kernel
theorem sc__law_is_line : FnScope N__law_is_line ["_law_thing"] (defScope (top 78)) := ⟨rfl, rfl, rfl, nd__law_is_line, rfl, by decide +kernel, by decide +kernel⟩
theorem ok__law_is_line (u : U w K mg) : FnS P0 w K mg base (gm K) 2 (He.ga K "_law_is_line") ["_law_thing"] 1 f__law_is_line := by
  obtain ⟨fd, F⟩ := u.d__law_is_line
  exact .gc <| s_def (k := 1) F sc__law_is_line rfl rfl (F.bindsN fun _ _ _ _ _ _ us hl => match us, hl with | [_], _ => rfl) fun E B cdv A outer s H hr =>
    (sss_cons (ss_if (SW.st (sw_or (st_not (st_val (sb call_isi ok_isi u.f_isinstance Boot.«isinstance» (sa_cons (sv 0) (sa_cons (cty u.f_tuple Boot.«tuple») sa_nil))))) (sw_or (t_eq0 hr.u64 (sv 0) (se_tup sa_nil)) (sw_or (st_not (st_val (sb call_isi ok_isi u.f_isinstance Boot.«isinstance» (sa_cons (se_ix (sv 0) ci) (sa_cons (cty u.f_str Boot.«str») sa_nil))))) (sw_or1 (t_dnotin hr.u1 (se_ix (sv 0) ci) (s_call0 (ok__law_forms u) (psF tkF) hr u.g__law_forms u.kp__law_forms))))))) (sss_one (ss_ret cb)) sss_nil) (sss_cons (ss_set nd__law_is_line rfl (by first | exact .inl rfl | exact .inr rfl) (se_dget hr.u1 (s_call0 (ok__law_forms u) (psF tkF) hr u.g__law_forms u.kp__law_forms) (se_ix (sv 0) ci))) (sss_cons (ss_if (t_ne hr.u64 (sb call_lenX ok_len u.f_len Boot.«len» (sa_cons (sv 0) sa_nil)) (se_add (sb call_lenX ok_len u.f_len Boot.«len» (sa_cons (sv 1) sa_nil)) ci)) (sss_one (ss_ret cb)) sss_nil) (sss_one (ss_ret (s_eq hr.u64 (se_lc (own := [("_law_k", 2)]) rfl nd__law_is_line (si_range1 rfl u.f_range (sa_cons (sb call_lenX ok_len u.f_len Boot.«len» (sa_cons (sv 1) sa_nil)) sa_nil)) (show BlkOk N__law_is_line (defScope (top 78)) _ [("_law_k", 2)] from ⟨rfl, by decide +kernel, by decide +kernel, by decide +kernel, by decide +kernel⟩) (ok_gNV (by decide)) (fun _ _ _ _ _ => pg_name nd__law_is_line rfl (.inl rfl)) (fun _ _ _ _ _ => sts_one (st_not (st_val (s_call (ok__law_is_part u) pass0 hr u.g__law_is_part u.kp__law_is_part (sa_cons (se_ix (sv 1) (sv 2)) (sa_cons (se_ix (sv 0) (se_add (sv 2) ci)) sa_nil)))))) (fun _ _ _ _ _ => (sv 2))) (se_lst sa_nil)))))))
def N__law_size : List Str := ["_law_line"]
theorem nd__law_size : N__law_size.Nodup := by decide +kernel
theorem sc__law_size : FnScope N__law_size ["_law_line"] (defScope (top 79)) := ⟨rfl, rfl, rfl, nd__law_size, rfl, by decide +kernel, by decide +kernel⟩
theorem ok__law_size (u : U w K mg) : FnS P0 w K mg base (gm K) 1 (He.ga K "_law_size") ["_law_line"] 1 f__law_size := by
  obtain ⟨fd, F⟩ := u.d__law_size
  exact .gc <| .fr <| s_def (k := 0) F sc__law_size rfl rfl (F.bindsN fun _ _ _ _ _ _ us hl => match us, hl with | [_], _ => rfl) fun E B cdv A outer s H hr =>
    (sss_cons (ss_if (t_eq hr.u64 (se_ix (sv 0) ci) cs) (sss_one (ss_ret (se_ite (t_lele (se_neg ci) (se_ix (sv 0) ci) ci) ci ci))) sss_nil) (sss_one (ss_ret (se_dget2 hr.u1 (se_disp (prs := [((mCon (.str "addr")), (mCon (.int 3))), ((mCon (.str "mark")), (mCon (.int 0))), ((mCon (.str "jump")), (mCon (.int 2))), ((mCon (.str "if")), (mCon (.int 2))), ((mCon (.str "unless")), (mCon (.int 2))), ((mCon (.str "call")), (mCon (.int 2))), ((mCon (.str "tail")), (mCon (.int 2)))]) (pps_cons cs ci (pps_cons cs ci (pps_cons cs ci (pps_cons cs ci (pps_cons cs ci (pps_cons cs ci (pps_cons cs ci pps_nil)))))))) (se_ix (sv 0) ci) ci))))
def N__law_candidate : List Str := ["_law_pen_here", "_law_word", "_law_line", "_law_kind", "_law_way"]
theorem nd__law_candidate : N__law_candidate.Nodup := by decide +kernel
theorem sc__law_candidate : FnScope N__law_candidate ["_law_pen_here"] (defScope (top 80)) := ⟨rfl, rfl, rfl, nd__law_candidate, rfl, by decide +kernel, by decide +kernel⟩
theorem ok__law_candidate (u : U w K mg) : FnS P0 w K mg base (gm K) 5 (He.ga K "_law_candidate") ["_law_pen_here"] 1 f__law_candidate := by
  obtain ⟨fd, F⟩ := u.d__law_candidate
  exact .gc <| s_def (k := 4) F sc__law_candidate rfl rfl (F.bindsN fun _ _ _ _ _ _ us hl => match us, hl with | [_], _ => rfl) fun E B cdv A outer s H hr =>
    (sss_cons (ss_set nd__law_candidate rfl (by first | exact .inl rfl | exact .inr rfl) (s_call (ok__law_pick u) (psF tkF) hr u.g__law_pick u.kp__law_pick (sa_cons (sv 0) (sa_cons (se_lc (own := [("_law_word", 1)]) rfl nd__law_candidate (si_keysN (s_call0 (ok__law_forms u) (psF tkF) hr u.g__law_forms u.kp__law_forms)) (show BlkOk N__law_candidate (defScope (top 80)) _ [("_law_word", 1)] from ⟨rfl, by decide +kernel, by decide +kernel, by decide +kernel, by decide +kernel⟩) (ok_gNV (by decide)) (fun _ _ _ _ _ => pg_name nd__law_candidate rfl (.inl rfl)) (fun _ _ _ _ _ => sts_one (t_ne hr.u64 (sv 1) cs)) (fun _ _ _ _ _ => (sv 1))) sa_nil)))) (sss_cons (ss_set nd__law_candidate rfl (by first | exact .inl rfl | exact .inr rfl) (se_add (se_lst (sa_cons (sv 1) sa_nil)) (se_lc (own := [("_law_kind", 3)]) rfl nd__law_candidate (si_str (se_dget hr.u1 (s_call0 (ok__law_forms u) (psF tkF) hr u.g__law_forms u.kp__law_forms) (sv 1))) (show BlkOk N__law_candidate (defScope (top 80)) _ [("_law_kind", 3)] from ⟨rfl, by decide +kernel, by decide +kernel, by decide +kernel, by decide +kernel⟩) (ok_gNV (by decide)) (fun _ _ _ _ _ => pg_name nd__law_candidate rfl (.inl rfl)) (fun _ _ _ _ _ => sts_nil) (fun _ _ _ _ _ => (s_call (ok__law_part u) pass0 hr u.g__law_part u.kp__law_part (sa_cons (sv 0) (sa_cons (sv 3) sa_nil))))))) (sss_cons (ss_set nd__law_candidate rfl (by first | exact .inl rfl | exact .inr rfl) (s_call (ok__law_draw u) (psF tkF) hr u.g__law_draw u.kp__law_draw (sa_cons (sv 0) (sa_cons ci sa_nil)))) (sss_cons (ss_if (t_eq hr.u64 (sv 4) ci) (sss_one (ss_put hr.u1 (sv 2) (s_call (ok__law_draw u) (psF tkF) hr u.g__law_draw u.kp__law_draw (sa_cons (sv 0) (sa_cons (sb call_lenX ok_len u.f_len Boot.«len» (sa_cons (sv 2) sa_nil)) sa_nil))) (s_call (ok__law_any_part u) (psF tkF) hr u.g__law_any_part u.kp__law_any_part (sa_cons (sv 0) sa_nil)))) sss_nil) (sss_cons (ss_if (t_eq hr.u64 (sv 4) ci) (sss_one (ss_expr (se_insert (sv 2) (sa_cons (s_call (ok__law_draw u) (psF tkF) hr u.g__law_draw u.kp__law_draw (sa_cons (sv 0) (sa_cons (se_add (sb call_lenX ok_len u.f_len Boot.«len» (sa_cons (sv 2) sa_nil)) ci) sa_nil))) (sa_cons (s_call (ok__law_any_part u) (psF tkF) hr u.g__law_any_part u.kp__law_any_part (sa_cons (sv 0) sa_nil)) sa_nil))))) sss_nil) (sss_cons (ss_if (t_eq hr.u64 (sv 4) ci) (sss_one (ss_expr (se_popAt (sv 2) (sa_cons (s_call (ok__law_draw u) (psF tkF) hr u.g__law_draw u.kp__law_draw (sa_cons (sv 0) (sa_cons (sb call_lenX ok_len u.f_len Boot.«len» (sa_cons (sv 2) sa_nil)) sa_nil))) sa_nil)))) sss_nil) (sss_cons (ss_if (t_eq hr.u64 (sv 4) ci) (sss_one (ss_ret (s_call (ok__law_pick u) (psF tkF) hr u.g__law_pick u.kp__law_pick (sa_cons (sv 0) (sa_cons (se_lst (sa_cons (sv 2) (sa_cons (s_call (ok__law_any_part u) (psF tkF) hr u.g__law_any_part u.kp__law_any_part (sa_cons (sv 0) sa_nil)) (sa_cons (se_tup (sa_cons (sbt call_tuple_of ok_tupOf u.f_tuple Boot.«tuple» (sa_cons (sv 2) sa_nil)) sa_nil)) (sa_cons (se_tup (sa_cons cs (sa_cons ci sa_nil))) (sa_cons (se_tup (sa_cons cs (sa_cons ci (sa_cons ci (sa_cons ci sa_nil))))) (sa_cons (se_disp (prs := [((mCon (.str "num")), (mCon (.int 0)))]) (pps_cons cs ci pps_nil)) sa_nil))))))) sa_nil))))) sss_nil) (sss_one (ss_ret (sbt call_tuple_of ok_tupOf u.f_tuple Boot.«tuple» (sa_cons (sv 2) sa_nil)))))))))))
def N__law_index : List Str := ["_law_call", "e"]
theorem nd__law_index : N__law_index.Nodup := by decide +kernel
theorem sc__law_index : FnScope N__law_index ["_law_call"] (defScope (top 81)) := ⟨rfl, rfl, rfl, nd__law_index, rfl, by decide +kernel, by decide +kernel⟩
def N_law : List Str := ["_law_script", "_law_pen_here", "_law_turn", "_law_lines", "_law_kept", "_law_line", "_law_at", "_law_made", "_law_again"]
theorem nd_law : N_law.Nodup := by decide +kernel
theorem sc_law : FnScope N_law ["_law_script"] (defScope (top 82)) := ⟨rfl, rfl, rfl, nd_law, rfl, by decide +kernel, by decide +kernel⟩
theorem law_ok (u : U w K mg) {s : Shared} {H : Hp} {E : XK} {B : List O} (hTB : LamX.TabB base mg (He.cT K ("law", none)).1 (He.cT K ("law", none)).2) (hr : Room 12 (callerA.deeper (envOfC "law" (defScope (top 82)) s.heap.objs.size (He.ga K "law") (.ref (He.cT K ("law", none)).1)))) :
    SSs ⟨gm K, E, B⟩ (cxOf (CX P0 w) P0 w K mg base N_law "law" (defScope (top 82)) (He.ga K "law") (.ref (He.cT K ("law", none)).1) callerA [] s H E) (defBody (top 82)) (m_law B) := by
  obtain ⟨fd__law_index, F__law_index⟩ := u.d__law_index
  exact (sss_cons (ss_set nd_law rfl (by first | exact .inl rfl | exact .inr rfl) (s_call (ok__law_pen u) (psF tkF) hr u.g__law_pen u.kp__law_pen (sa_cons (sv 0) sa_nil))) (sss_cons (ss_for ownF rfl (si_range1 rfl u.f_range (sa_cons (se_add ci (sb (call_min2 rfl) ok_I2 u.f_min Boot.«min» (sa_cons ci (sa_cons (sb call_lenX ok_len u.f_len Boot.«len» (sa_cons (sv 0) sa_nil)) sa_nil)))) sa_nil)) (pg_name nd_law rfl (.inl rfl)) ok_gN (ss_scope [5, 6, 3, 4, 7] (sss_cons (ss_par2 (ps_par rfl nd_law rfl rfl (by decide) rfl rfl (sa_cons (s_call (ok__law_candidate u) (psF tkF) hr u.g__law_candidate u.kp__law_candidate (sa_cons (sv 1) sa_nil)) (sa_cons (s_call (ok__law_draw u) (psF tkF) hr u.g__law_draw u.kp__law_draw (sa_cons (sv 1) (sa_cons ci sa_nil))) sa_nil)) (by first | rfl | with_unfolding_all rfl | kernel_rfl) rfl)) (sss_cons (ss_set nd_law rfl (by first | exact .inl rfl | exact .inr rfl) (se_add (se_rep (se_lst (sa_cons (se_tup (sa_cons cs (sa_cons ci sa_nil))) sa_nil)) (sv 6)) (se_lst (sa_cons (se_tup (sa_cons cs (sa_cons cs sa_nil))) (sa_cons (sv 5) (sa_cons (se_tup (sa_cons cs (sa_cons cs sa_nil))) (sa_cons (se_tup (sa_cons cs (sa_cons cs sa_nil))) (sa_cons (se_tup (sa_cons cs sa_nil)) sa_nil)))))))) (sss_cons (ss_set nd_law rfl (by first | exact .inl rfl | exact .inr rfl) (sb (call_reprD rfl hr.u62 u.sys) ok_repr u.f_repr Boot.«repr» (sa_cons (sv 3) sa_nil))) (sss_one (ss_if (st_not (st_val (s_call (ok__law_is_line u) (psF tkF) hr u.g__law_is_line u.kp__law_is_line (sa_cons (sv 5) sa_nil)))) (sss_one (ss_if (SW.st (sw_or (t_ne hr.u64 (se_gc (se_lamN (gi := 1) (i := 1) (k := 9) F__law_index rfl rfl u.g__law_index (F__law_index.bindsN fun _ _ _ _ _ _ us hl => match us, hl with | [_], _ => rfl) sc__law_index rfl (.inl rfl) nd__law_index rfl rfl rfl u.g_InvalidLine (fun cdv s H a oe cls d pn hz hf => pR_ix2 hz hf u.try_InvalidLine.kc u.try_InvalidLine.xf u.try_InvalidLine.n1 u.try_InvalidLine.n2 rfl (.inl rfl) rfl u.f_isinstance rfl u.f_ValueError Boot.«ValueError» (by decide) (by decide)) ok_ix2 u.try_InvalidLine.ex rfl hTB rfl (by simp only [gm, List.mem_singleton]; rfl) (fun p hp _ => by simp only [gm, List.mem_singleton] at hp; rw [hp]; rfl) (hr.mono (by decide)) (LamX.lamS_by (sc := defScope (top 82)) (by decide +kernel)) rfl (fun _ _ _ _ _ => rfl) (fun A outer s H E f c' hr => (s_make (ok_Program___init__ u) (psF tkL) hr rfl u.mk_Program u.g_Program (sa_cons (se_disp (prs := [((mCon (.str "main")), (mVar 3))]) (pps_cons cs (sv 3) pps_nil)) sa_nil))))) (se_tup (sa_cons cs (sa_cons (se_add (sv 6) ci) sa_nil)))) (sw_or1 (t_ne hr.u64 (sb (call_reprD rfl hr.u62 u.sys) ok_repr u.f_repr Boot.«repr» (sa_cons (sv 3) sa_nil)) (sv 4))))) (sss_one (ss_ret cb)) sss_nil)) (sss_cons (ss_set nd_law rfl (by first | exact .inl rfl | exact .inr rfl) (s_make (ok_Program___init__ u) (psF tkF) hr rfl u.mk_Program u.g_Program (sa_cons (se_disp (prs := [((mCon (.str "main")), (mCall (fTupOf B) (mCons (mVar 3) mNil)))]) (pps_cons cs (sbt call_tuple_of ok_tupOf u.f_tuple Boot.«tuple» (sa_cons (sv 3) sa_nil)) pps_nil)) sa_nil))) (sss_cons (ss_if (SW.st (sw_or (t_ne hr.u64 (sb (call_reprD rfl hr.u62 u.sys) ok_repr u.f_repr Boot.«repr» (sa_cons (s_prop (ok_Program_functions u) hr rfl u.cl_Program u.pr_Program_functions (sv 7)) sa_nil)) (sb (call_reprD rfl hr.u62 u.sys) ok_repr u.f_repr Boot.«repr» (sa_cons (se_disp (prs := [((mCon (.str "main")), (mCall (fTupOf B) (mCons (mVar 3) mNil)))]) (pps_cons cs (sbt call_tuple_of ok_tupOf u.f_tuple Boot.«tuple» (sa_cons (sv 3) sa_nil)) pps_nil)) sa_nil))) (sw_or1 (t_ne hr.u64 (sb (call_reprD rfl hr.u62 u.sys) ok_repr u.f_repr Boot.«repr» (sa_cons (sv 3) sa_nil)) (sv 4))))) (sss_one (ss_ret cb)) sss_nil) (sss_one (ss_if (SW.st (sw_or (t_ne hr.u64 (sb (call_reprD rfl hr.u62 u.sys) ok_repr u.f_repr Boot.«repr» (sa_cons (s_prop (ok_Program_size u) hr rfl u.cl_Program u.pr_Program_size (sv 7)) sa_nil)) (sb (call_reprD rfl hr.u62 u.sys) ok_repr u.f_repr Boot.«repr» (sa_cons (se_add (se_add (se_add (sv 6) ci) (s_call (ok__law_size u) (psF tkF) hr u.g__law_size u.kp__law_size (sa_cons (sv 5) sa_nil))) ci) sa_nil))) (sw_or1 (t_ne hr.u64 (s_smeth (ok_Program_size_of_line u) (psF tkF) hr rfl u.rd_Program u.sm_Program_size_of_line (cgl u.g_Program rfl) (sa_cons (sv 5) sa_nil)) (s_call (ok__law_size u) (psF tkF) hr u.g__law_size u.kp__law_size (sa_cons (sv 5) sa_nil)))))) (sss_one (ss_ret cb)) sss_nil))))))))))) (sss_cons (ss_set nd_law rfl (by first | exact .inl rfl | exact .inr rfl) (se_lst (sa_cons (se_tup (sa_cons cs (sa_cons cs sa_nil))) (sa_cons (se_tup (sa_cons cs (sa_cons ci sa_nil))) (sa_cons (se_tup (sa_cons cs (sa_cons cs sa_nil))) (sa_cons (se_tup (sa_cons cs sa_nil)) sa_nil)))))) (sss_one (ss_ret (s_eq hr.u64 (se_gc (se_lamN (gi := 1) (i := 1) (k := 10) F__law_index rfl rfl u.g__law_index (F__law_index.bindsN fun _ _ _ _ _ _ us hl => match us, hl with | [_], _ => rfl) sc__law_index rfl (.inl rfl) nd__law_index rfl rfl rfl u.g_InvalidLine (fun cdv s H a oe cls d pn hz hf => pR_ix2 hz hf u.try_InvalidLine.kc u.try_InvalidLine.xf u.try_InvalidLine.n1 u.try_InvalidLine.n2 rfl (.inl rfl) rfl u.f_isinstance rfl u.f_ValueError Boot.«ValueError» (by decide) (by decide)) ok_ix2 u.try_InvalidLine.ex rfl hTB rfl (by simp only [gm, List.mem_singleton]; rfl) (fun p hp _ => by simp only [gm, List.mem_singleton] at hp; rw [hp]; rfl) (hr.mono (by decide)) (LamX.lamS_by (sc := defScope (top 82)) (by decide +kernel)) rfl (fun _ _ _ _ _ => rfl) (fun A outer s H E f c' hr => (se_cmeth (cgl u.g_Program rfl) rfl u.rd_Program u.cm_Program_of (ok_Program_of u) (hr.mono (by decide)) (psF tkL) (sa_cons (se_ix (sv 8) ci) (sa_cons (se_ix (sv 8) ci) (sa_cons (se_ix (sv 8) ci) (sa_cons (se_ix (sv 8) ci) sa_nil)))))))) (se_tup (sa_cons cs (sa_cons ci sa_nil)))))))))
end
end K01
end
section
set_option Elab.async false
set_option linter.all false
set_option maxRecDepth 100000
set_option maxHeartbeats 4000000
namespace K01
open PySem PySem.Spec PyProof.Rows L2 Ev
section
variable {w : World} {h : Heap} {K : PySem.W.Frag} {mg : Str → Option Value}
theorem ex_at (c : SaysU fa fn ts tf ex w h K) (i : Nat) {f : PySem.W.Frag → Bool} (hf : exs[i]? = some f) : f K = true := List.all_eq_true.mp c.ex f (List.mem_of_getElem? hf)
theorem u_of (X : K.In h) (G : h.Ns mainGlobals mg) (c : SaysU fa fn ts tf ex w h K) : U w K mg :=
  { f_int := He.free_ok X G (c.fa _ (List.mem_of_getElem? (l := fa) (i := 0) rfl)),
    f_isinstance := He.free_ok X G (c.fa _ (List.mem_of_getElem? (l := fa) (i := 1) rfl)),
    f_bool := He.free_ok X G (c.fa _ (List.mem_of_getElem? (l := fa) (i := 2) rfl)),
    d_is_integer := FD.funD (c.fn _ (List.mem_of_getElem? (l := fn) (i := 0) rfl)) (c.ok _ (List.mem_of_getElem? (l := fn) (i := 0) rfl)) rfl,
    g_is_integer := He.glo_ok X G (c.fa _ (List.mem_of_getElem? (l := fa) (i := 3) rfl)),
    kp_is_integer := He.keep_ok (c.fa _ (List.mem_of_getElem? (l := fa) (i := 4) rfl)),
    d_is_between := FD.funD (c.fn _ (List.mem_of_getElem? (l := fn) (i := 1) rfl)) (c.ok _ (List.mem_of_getElem? (l := fn) (i := 1) rfl)) rfl,
    g_is_between := He.glo_ok X G (c.fa _ (List.mem_of_getElem? (l := fa) (i := 5) rfl)),
    i_HALF := He.int_ok X G (c.fa _ (List.mem_of_getElem? (l := fa) (i := 6) rfl)),
    kp_is_between := He.keep_ok (c.fa _ (List.mem_of_getElem? (l := fa) (i := 7) rfl)),
    d_is_number := FD.funD (c.fn _ (List.mem_of_getElem? (l := fn) (i := 2) rfl)) (c.ok _ (List.mem_of_getElem? (l := fn) (i := 2) rfl)) rfl,
    f_str := He.free_ok X G (c.fa _ (List.mem_of_getElem? (l := fa) (i := 8) rfl)),
    f_len := He.free_ok X G (c.fa _ (List.mem_of_getElem? (l := fa) (i := 9) rfl)),
    i_MOST_LETTERS := He.int_ok X G (c.fa _ (List.mem_of_getElem? (l := fa) (i := 10) rfl)),
    s_LETTERS := He.str_ok X G (c.fa _ (List.mem_of_getElem? (l := fa) (i := 11) rfl)),
    f_all := He.free_ok X G (c.fa _ (List.mem_of_getElem? (l := fa) (i := 12) rfl)),
    d_is_word := FD.funD (c.fn _ (List.mem_of_getElem? (l := fn) (i := 3) rfl)) (c.ok _ (List.mem_of_getElem? (l := fn) (i := 3) rfl)) rfl,
    f_tuple := He.free_ok X G (c.fa _ (List.mem_of_getElem? (l := fa) (i := 13) rfl)),
    f_list := He.free_ok X G (c.fa _ (List.mem_of_getElem? (l := fa) (i := 14) rfl)),
    d_is_list := FD.funD (c.fn _ (List.mem_of_getElem? (l := fn) (i := 4) rfl)) (c.ok _ (List.mem_of_getElem? (l := fn) (i := 4) rfl)) rfl,
    f_dict := He.free_ok X G (c.fa _ (List.mem_of_getElem? (l := fa) (i := 15) rfl)),
    d_own_copy := FD.funD (c.fn _ (List.mem_of_getElem? (l := fn) (i := 5) rfl)) (c.ok _ (List.mem_of_getElem? (l := fn) (i := 5) rfl)) rfl,
    oex_InvalidLine := oexB_ok (ex_at c 1 rfl),
    try_InvalidLine := tryB_ok (ex_at c 2 rfl),
    d_InvalidLine_init := supB_ok (ex_at c 3 rfl) (He.free_ok X G (c.fa _ (List.mem_of_getElem? (l := fa) (i := 16) rfl))) (c.fn _ (List.mem_of_getElem? (l := fn) (i := 6) rfl)) (c.ok _ (List.mem_of_getElem? (l := fn) (i := 6) rfl)) rfl rfl rfl ⟨_, rfl, rfl⟩,
    g_own_copy := He.glo_ok X G (c.fa _ (List.mem_of_getElem? (l := fa) (i := 17) rfl)),
    kp_own_copy := He.keep_ok (c.fa _ (List.mem_of_getElem? (l := fa) (i := 18) rfl)),
    i_REGISTERS := He.int_ok X G (c.fa _ (List.mem_of_getElem? (l := fa) (i := 19) rfl)),
    s_LINK := He.str_ok X G (c.fa _ (List.mem_of_getElem? (l := fa) (i := 20) rfl)),
    g_is_number := He.glo_ok X G (c.fa _ (List.mem_of_getElem? (l := fa) (i := 21) rfl)),
    kp_is_number := He.keep_ok (c.fa _ (List.mem_of_getElem? (l := fa) (i := 22) rfl)),
    i_MOST_DEEP := He.int_ok X G (c.fa _ (List.mem_of_getElem? (l := fa) (i := 23) rfl)),
    g_is_word := He.glo_ok X G (c.fa _ (List.mem_of_getElem? (l := fa) (i := 24) rfl)),
    kp_is_word := He.keep_ok (c.fa _ (List.mem_of_getElem? (l := fa) (i := 25) rfl)),
    d_is_part := FD.funD (c.fn _ (List.mem_of_getElem? (l := fn) (i := 7) rfl)) (c.ok _ (List.mem_of_getElem? (l := fn) (i := 7) rfl)) rfl,
    g_FORMS := He.glo_ok X G (c.fa _ (List.mem_of_getElem? (l := fa) (i := 26) rfl)),
    k_FORMS := ktab_by kvs_FORMS rfl (c.ts _ (List.mem_of_getElem? (l := ts) (i := 0) rfl)) (ex_at c 4 rfl) rfl rfl,
    f_zip := He.free_ok X G (c.fa _ (List.mem_of_getElem? (l := fa) (i := 27) rfl)),
    g_is_part := He.glo_ok X G (c.fa _ (List.mem_of_getElem? (l := fa) (i := 28) rfl)),
    kp_is_part := He.keep_ok (c.fa _ (List.mem_of_getElem? (l := fa) (i := 29) rfl)),
    d_is_line := FD.funD (c.fn _ (List.mem_of_getElem? (l := fn) (i := 8) rfl)) (c.ok _ (List.mem_of_getElem? (l := fn) (i := 8) rfl)) rfl,
    i_LEAST_SHORT := He.int_ok X G (c.fa _ (List.mem_of_getElem? (l := fa) (i := 30) rfl)),
    i_MOST_SHORT := He.int_ok X G (c.fa _ (List.mem_of_getElem? (l := fa) (i := 31) rfl)),
    g_SIZES := He.glo_ok X G (c.fa _ (List.mem_of_getElem? (l := fa) (i := 32) rfl)),
    k_SIZES := ktab_by kvs_SIZES rfl (c.ts _ (List.mem_of_getElem? (l := ts) (i := 1) rfl)) (ex_at c 5 rfl) rfl rfl,
    d_size_of_line := FD.funD (c.fn _ (List.mem_of_getElem? (l := fn) (i := 9) rfl)) (c.ok _ (List.mem_of_getElem? (l := fn) (i := 9) rfl)) rfl,
    g_size_of_line_lines := aliB_ok X G (ex_at c 6 rfl),
    kp_size_of_line := He.keep_ok (c.fa _ (List.mem_of_getElem? (l := fa) (i := 33) rfl)),
    f_sum := He.free_ok X G (c.fa _ (List.mem_of_getElem? (l := fa) (i := 34) rfl)),
    d_size_of_lines := FD.funD (c.fn _ (List.mem_of_getElem? (l := fn) (i := 10) rfl)) (c.ok _ (List.mem_of_getElem? (l := fn) (i := 10) rfl)) rfl,
    d_named := FD.funD (c.fn _ (List.mem_of_getElem? (l := fn) (i := 11) rfl)) (c.ok _ (List.mem_of_getElem? (l := fn) (i := 11) rfl)) rfl,
    d_label_of := FD.funD (c.fn _ (List.mem_of_getElem? (l := fn) (i := 12) rfl)) (c.ok _ (List.mem_of_getElem? (l := fn) (i := 12) rfl)) rfl,
    d_is_call := FD.funD (c.fn _ (List.mem_of_getElem? (l := fn) (i := 13) rfl)) (c.ok _ (List.mem_of_getElem? (l := fn) (i := 13) rfl)) rfl,
    f_enumerate := He.free_ok X G (c.fa _ (List.mem_of_getElem? (l := fa) (i := 35) rfl)),
    d_marks_of := FD.funD (c.fn _ (List.mem_of_getElem? (l := fn) (i := 14) rfl)) (c.ok _ (List.mem_of_getElem? (l := fn) (i := 14) rfl)) rfl,
    g_marks_of := He.glo_ok X G (c.fa _ (List.mem_of_getElem? (l := fa) (i := 36) rfl)),
    kp_marks_of := He.keep_ok (c.fa _ (List.mem_of_getElem? (l := fa) (i := 37) rfl)),
    g_ENDS := He.glo_ok X G (c.fa _ (List.mem_of_getElem? (l := fa) (i := 38) rfl)),
    t_ENDS := tup_by (vs := [(.str "jump"), (.str "back"), (.str "tail"), (.str "stop")]) (ex_at c 7 rfl),
    g_BRANCHES := He.glo_ok X G (c.fa _ (List.mem_of_getElem? (l := fa) (i := 39) rfl)),
    t_BRANCHES := tup_by (vs := [(.str "if"), (.str "unless")]) (ex_at c 8 rfl),
    f_sorted := He.free_ok X G (c.fa _ (List.mem_of_getElem? (l := fa) (i := 40) rfl)),
    d_ways_of := FD.funD (c.fn _ (List.mem_of_getElem? (l := fn) (i := 15) rfl)) (c.ok _ (List.mem_of_getElem? (l := fn) (i := 15) rfl)) rfl,
    g_ways_of := He.glo_ok X G (c.fa _ (List.mem_of_getElem? (l := fa) (i := 41) rfl)),
    kp_ways_of := He.keep_ok (c.fa _ (List.mem_of_getElem? (l := fa) (i := 42) rfl)),
    d_reached_of := FD.funD (c.fn _ (List.mem_of_getElem? (l := fn) (i := 16) rfl)) (c.ok _ (List.mem_of_getElem? (l := fn) (i := 16) rfl)) rfl,
    d_row_behind := FD.funD (c.fn _ (List.mem_of_getElem? (l := fn) (i := 17) rfl)) (c.ok _ (List.mem_of_getElem? (l := fn) (i := 17) rfl)) rfl,
    g_row_behind := He.glo_ok X G (c.fa _ (List.mem_of_getElem? (l := fa) (i := 43) rfl)),
    kp_row_behind := He.keep_ok (c.fa _ (List.mem_of_getElem? (l := fa) (i := 44) rfl)),
    d_rows_of := FD.funD (c.fn _ (List.mem_of_getElem? (l := fn) (i := 18) rfl)) (c.ok _ (List.mem_of_getElem? (l := fn) (i := 18) rfl)) rfl,
    g_is_call := He.glo_ok X G (c.fa _ (List.mem_of_getElem? (l := fa) (i := 45) rfl)),
    kp_is_call := He.keep_ok (c.fa _ (List.mem_of_getElem? (l := fa) (i := 46) rfl)),
    d_is_own_behind := FD.funD (c.fn _ (List.mem_of_getElem? (l := fn) (i := 19) rfl)) (c.ok _ (List.mem_of_getElem? (l := fn) (i := 19) rfl)) rfl,
    g_reached_of := He.glo_ok X G (c.fa _ (List.mem_of_getElem? (l := fa) (i := 47) rfl)),
    kp_reached_of := He.keep_ok (c.fa _ (List.mem_of_getElem? (l := fa) (i := 48) rfl)),
    g_is_own_behind := He.glo_ok X G (c.fa _ (List.mem_of_getElem? (l := fa) (i := 49) rfl)),
    kp_is_own_behind := He.keep_ok (c.fa _ (List.mem_of_getElem? (l := fa) (i := 50) rfl)),
    d_own_of := FD.funD (c.fn _ (List.mem_of_getElem? (l := fn) (i := 20) rfl)) (c.ok _ (List.mem_of_getElem? (l := fn) (i := 20) rfl)) rfl,
    d_needs_own := FD.funD (c.fn _ (List.mem_of_getElem? (l := fn) (i := 21) rfl)) (c.ok _ (List.mem_of_getElem? (l := fn) (i := 21) rfl)) rfl,
    d_ends_well := FD.funD (c.fn _ (List.mem_of_getElem? (l := fn) (i := 22) rfl)) (c.ok _ (List.mem_of_getElem? (l := fn) (i := 22) rfl)) rfl,
    g_ends_well := He.glo_ok X G (c.fa _ (List.mem_of_getElem? (l := fa) (i := 51) rfl)),
    kp_ends_well := He.keep_ok (c.fa _ (List.mem_of_getElem? (l := fa) (i := 52) rfl)),
    g_rows_of := He.glo_ok X G (c.fa _ (List.mem_of_getElem? (l := fa) (i := 53) rfl)),
    kp_rows_of := He.keep_ok (c.fa _ (List.mem_of_getElem? (l := fa) (i := 54) rfl)),
    g_own_of := He.glo_ok X G (c.fa _ (List.mem_of_getElem? (l := fa) (i := 55) rfl)),
    kp_own_of := He.keep_ok (c.fa _ (List.mem_of_getElem? (l := fa) (i := 56) rfl)),
    g_needs_own := He.glo_ok X G (c.fa _ (List.mem_of_getElem? (l := fa) (i := 57) rfl)),
    kp_needs_own := He.keep_ok (c.fa _ (List.mem_of_getElem? (l := fa) (i := 58) rfl)),
    d_is_tidy := FD.funD (c.fn _ (List.mem_of_getElem? (l := fn) (i := 23) rfl)) (c.ok _ (List.mem_of_getElem? (l := fn) (i := 23) rfl)) rfl,
    i_MAX_FUNCTIONS := He.int_ok X G (c.fa _ (List.mem_of_getElem? (l := fa) (i := 59) rfl)),
    s_MAIN := He.str_ok X G (c.fa _ (List.mem_of_getElem? (l := fa) (i := 60) rfl)),
    g_is_list := He.glo_ok X G (c.fa _ (List.mem_of_getElem? (l := fa) (i := 61) rfl)),
    kp_is_list := He.keep_ok (c.fa _ (List.mem_of_getElem? (l := fa) (i := 62) rfl)),
    d_need_functions := FD.funD (c.fn _ (List.mem_of_getElem? (l := fn) (i := 24) rfl)) (c.ok _ (List.mem_of_getElem? (l := fn) (i := 24) rfl)) rfl,
    g_is_line := He.glo_ok X G (c.fa _ (List.mem_of_getElem? (l := fa) (i := 63) rfl)),
    kp_is_line := He.keep_ok (c.fa _ (List.mem_of_getElem? (l := fa) (i := 64) rfl)),
    g_named := He.glo_ok X G (c.fa _ (List.mem_of_getElem? (l := fa) (i := 65) rfl)),
    kp_named := He.keep_ok (c.fa _ (List.mem_of_getElem? (l := fa) (i := 66) rfl)),
    g_InvalidLine := He.glo_ok X G (c.fa _ (List.mem_of_getElem? (l := fa) (i := 67) rfl)),
    g_label_of := He.glo_ok X G (c.fa _ (List.mem_of_getElem? (l := fa) (i := 68) rfl)),
    kp_label_of := He.keep_ok (c.fa _ (List.mem_of_getElem? (l := fa) (i := 69) rfl)),
    d_need_lines := FD.funD (c.fn _ (List.mem_of_getElem? (l := fn) (i := 25) rfl)) (c.ok _ (List.mem_of_getElem? (l := fn) (i := 25) rfl)) rfl,
    f_max := He.free_ok X G (c.fa _ (List.mem_of_getElem? (l := fa) (i := 70) rfl)),
    i_MAX_LINES := He.int_ok X G (c.fa _ (List.mem_of_getElem? (l := fa) (i := 71) rfl)),
    i_MAX_ALL := He.int_ok X G (c.fa _ (List.mem_of_getElem? (l := fa) (i := 72) rfl)),
    d_need_few := FD.funD (c.fn _ (List.mem_of_getElem? (l := fn) (i := 26) rfl)) (c.ok _ (List.mem_of_getElem? (l := fn) (i := 26) rfl)) rfl,
    d_Program_barred := FD.funD (c.fn _ (List.mem_of_getElem? (l := fn) (i := 27) rfl)) (c.ok _ (List.mem_of_getElem? (l := fn) (i := 27) rfl)) rfl,
    g_is_tidy := He.glo_ok X G (c.fa _ (List.mem_of_getElem? (l := fa) (i := 73) rfl)),
    kp_is_tidy := He.keep_ok (c.fa _ (List.mem_of_getElem? (l := fa) (i := 74) rfl)),
    d_Program_is_fine := FD.funD (c.fn _ (List.mem_of_getElem? (l := fn) (i := 28) rfl)) (c.ok _ (List.mem_of_getElem? (l := fn) (i := 28) rfl)) rfl,
    g_need_lines := He.glo_ok X G (c.fa _ (List.mem_of_getElem? (l := fa) (i := 75) rfl)),
    cl_Program := He.cls_ok (c.fa _ (List.mem_of_getElem? (l := fa) (i := 76) rfl)),
    me_Program_barred := He.meth_ok (c.fa _ (List.mem_of_getElem? (l := fa) (i := 77) rfl)),
    na_Program_own_functions := He.noat_ok (c.fa _ (List.mem_of_getElem? (l := fa) (i := 78) rfl)),
    kp_need_lines := He.keep_ok (c.fa _ (List.mem_of_getElem? (l := fa) (i := 79) rfl)),
    g_need_few := He.glo_ok X G (c.fa _ (List.mem_of_getElem? (l := fa) (i := 80) rfl)),
    kp_need_few := He.keep_ok (c.fa _ (List.mem_of_getElem? (l := fa) (i := 81) rfl)),
    me_Program_is_fine := He.meth_ok (c.fa _ (List.mem_of_getElem? (l := fa) (i := 82) rfl)),
    d_Program_need_fine := FD.funD (c.fn _ (List.mem_of_getElem? (l := fn) (i := 29) rfl)) (c.ok _ (List.mem_of_getElem? (l := fn) (i := 29) rfl)) rfl,
    g_Parts := He.glo_ok X G (c.fa _ (List.mem_of_getElem? (l := fa) (i := 83) rfl)),
    own_Parts := isoB_ok (g := 6) (ex_at c 9 rfl) rfl,
    g_need_functions := He.glo_ok X G (c.fa _ (List.mem_of_getElem? (l := fa) (i := 84) rfl)),
    kp_need_functions := He.keep_ok (c.fa _ (List.mem_of_getElem? (l := fa) (i := 85) rfl)),
    me_Program_need_fine := He.meth_ok (c.fa _ (List.mem_of_getElem? (l := fa) (i := 86) rfl)),
    d_Program___init__ := FD.funD (c.fn _ (List.mem_of_getElem? (l := fn) (i := 30) rfl)) (c.ok _ (List.mem_of_getElem? (l := fn) (i := 30) rfl)) rfl,
    mk_Program := He.mkr_ok (c.fa _ (List.mem_of_getElem? (l := fa) (i := 87) rfl)),
    d_Program_of := FD.funD (c.fn _ (List.mem_of_getElem? (l := fn) (i := 31) rfl)) (c.ok _ (List.mem_of_getElem? (l := fn) (i := 31) rfl)) rfl,
    d_Program_size_of_line := FD.funD (c.fn _ (List.mem_of_getElem? (l := fn) (i := 32) rfl)) (c.ok _ (List.mem_of_getElem? (l := fn) (i := 32) rfl)) rfl,
    d_Program_functions := FD.funD (c.fn _ (List.mem_of_getElem? (l := fn) (i := 33) rfl)) (c.ok _ (List.mem_of_getElem? (l := fn) (i := 33) rfl)) rfl,
    g_size_of_lines := He.glo_ok X G (c.fa _ (List.mem_of_getElem? (l := fa) (i := 88) rfl)),
    kp_size_of_lines := He.keep_ok (c.fa _ (List.mem_of_getElem? (l := fa) (i := 89) rfl)),
    d_Program_size := FD.funD (c.fn _ (List.mem_of_getElem? (l := fn) (i := 34) rfl)) (c.ok _ (List.mem_of_getElem? (l := fn) (i := 34) rfl)) rfl,
    d__law_pen := FD.funD (c.fn _ (List.mem_of_getElem? (l := fn) (i := 35) rfl)) (c.ok _ (List.mem_of_getElem? (l := fn) (i := 35) rfl)) rfl,
    f_abs := He.free_ok X G (c.fa _ (List.mem_of_getElem? (l := fa) (i := 90) rfl)),
    d__law_draw := FD.funD (c.fn _ (List.mem_of_getElem? (l := fn) (i := 36) rfl)) (c.ok _ (List.mem_of_getElem? (l := fn) (i := 36) rfl)) rfl,
    g__law_draw := He.glo_ok X G (c.fa _ (List.mem_of_getElem? (l := fa) (i := 91) rfl)),
    kp__law_draw := He.keep_ok (c.fa _ (List.mem_of_getElem? (l := fa) (i := 92) rfl)),
    d__law_pick := FD.funD (c.fn _ (List.mem_of_getElem? (l := fn) (i := 37) rfl)) (c.ok _ (List.mem_of_getElem? (l := fn) (i := 37) rfl)) rfl,
    g__law_pick := He.glo_ok X G (c.fa _ (List.mem_of_getElem? (l := fa) (i := 93) rfl)),
    kp__law_pick := He.keep_ok (c.fa _ (List.mem_of_getElem? (l := fa) (i := 94) rfl)),
    d__law_number := FD.funD (c.fn _ (List.mem_of_getElem? (l := fn) (i := 38) rfl)) (c.ok _ (List.mem_of_getElem? (l := fn) (i := 38) rfl)) rfl,
    d__law_forms := FD.funD (c.fn _ (List.mem_of_getElem? (l := fn) (i := 39) rfl)) (c.ok _ (List.mem_of_getElem? (l := fn) (i := 39) rfl)) rfl,
    d__law_any_part := FD.funD (c.fn _ (List.mem_of_getElem? (l := fn) (i := 40) rfl)) (c.ok _ (List.mem_of_getElem? (l := fn) (i := 40) rfl)) rfl,
    g__law_number := He.glo_ok X G (c.fa _ (List.mem_of_getElem? (l := fa) (i := 95) rfl)),
    kp__law_number := He.keep_ok (c.fa _ (List.mem_of_getElem? (l := fa) (i := 96) rfl)),
    d__law_part := FD.funD (c.fn _ (List.mem_of_getElem? (l := fn) (i := 41) rfl)) (c.ok _ (List.mem_of_getElem? (l := fn) (i := 41) rfl)) rfl,
    d__law_is_part := FD.funD (c.fn _ (List.mem_of_getElem? (l := fn) (i := 42) rfl)) (c.ok _ (List.mem_of_getElem? (l := fn) (i := 42) rfl)) rfl,
    g__law_forms := He.glo_ok X G (c.fa _ (List.mem_of_getElem? (l := fa) (i := 97) rfl)),
    kp__law_forms := He.keep_ok (c.fa _ (List.mem_of_getElem? (l := fa) (i := 98) rfl)),
    f_range := He.free_ok X G (c.fa _ (List.mem_of_getElem? (l := fa) (i := 99) rfl)),
    g__law_is_part := He.glo_ok X G (c.fa _ (List.mem_of_getElem? (l := fa) (i := 100) rfl)),
    kp__law_is_part := He.keep_ok (c.fa _ (List.mem_of_getElem? (l := fa) (i := 101) rfl)),
    d__law_is_line := FD.funD (c.fn _ (List.mem_of_getElem? (l := fn) (i := 43) rfl)) (c.ok _ (List.mem_of_getElem? (l := fn) (i := 43) rfl)) rfl,
    d__law_size := FD.funD (c.fn _ (List.mem_of_getElem? (l := fn) (i := 44) rfl)) (c.ok _ (List.mem_of_getElem? (l := fn) (i := 44) rfl)) rfl,
    g__law_part := He.glo_ok X G (c.fa _ (List.mem_of_getElem? (l := fa) (i := 102) rfl)),
    kp__law_part := He.keep_ok (c.fa _ (List.mem_of_getElem? (l := fa) (i := 103) rfl)),
    g__law_any_part := He.glo_ok X G (c.fa _ (List.mem_of_getElem? (l := fa) (i := 104) rfl)),
    kp__law_any_part := He.keep_ok (c.fa _ (List.mem_of_getElem? (l := fa) (i := 105) rfl)),
    d__law_candidate := FD.funD (c.fn _ (List.mem_of_getElem? (l := fn) (i := 45) rfl)) (c.ok _ (List.mem_of_getElem? (l := fn) (i := 45) rfl)) rfl,
    g__law_pen := He.glo_ok X G (c.fa _ (List.mem_of_getElem? (l := fa) (i := 106) rfl)),
    kp__law_pen := He.keep_ok (c.fa _ (List.mem_of_getElem? (l := fa) (i := 107) rfl)),
    f_min := He.free_ok X G (c.fa _ (List.mem_of_getElem? (l := fa) (i := 108) rfl)),
    g__law_candidate := He.glo_ok X G (c.fa _ (List.mem_of_getElem? (l := fa) (i := 109) rfl)),
    kp__law_candidate := He.keep_ok (c.fa _ (List.mem_of_getElem? (l := fa) (i := 110) rfl)),
    sys := sysB_ok (ex_at c 10 rfl) (ex_at c 0 rfl),
    f_repr := He.free_ok X G (c.fa _ (List.mem_of_getElem? (l := fa) (i := 111) rfl)),
    g__law_is_line := He.glo_ok X G (c.fa _ (List.mem_of_getElem? (l := fa) (i := 112) rfl)),
    kp__law_is_line := He.keep_ok (c.fa _ (List.mem_of_getElem? (l := fa) (i := 113) rfl)),
    g_Program := He.glo_ok X G (c.fa _ (List.mem_of_getElem? (l := fa) (i := 114) rfl)),
    g__law_index := He.glo_ok X G (c.fa _ (List.mem_of_getElem? (l := fa) (i := 115) rfl)),
    f_ValueError := He.free_ok X G (c.fa _ (List.mem_of_getElem? (l := fa) (i := 116) rfl)),
    pr_Program_functions := prB_ok (ex_at c 11 rfl),
    pr_Program_size := prB_ok (ex_at c 12 rfl),
    g__law_size := He.glo_ok X G (c.fa _ (List.mem_of_getElem? (l := fa) (i := 117) rfl)),
    kp__law_size := He.keep_ok (c.fa _ (List.mem_of_getElem? (l := fa) (i := 118) rfl)),
    rd_Program := rdB_ok (ex_at c 13 rfl),
    sm_Program_size_of_line := smB_ok (ex_at c 14 rfl),
    cm_Program_of := cmB_ok (ex_at c 15 rfl),
    d__law_index := FD.funD (c.fn _ (List.mem_of_getElem? (l := fn) (i := 46) rfl)) (c.ok _ (List.mem_of_getElem? (l := fn) (i := 46) rfl)) rfl,
    d_law := FD.funD (c.fn _ (List.mem_of_getElem? (l := fn) (i := 47) rfl)) (c.ok _ (List.mem_of_getElem? (l := fn) (i := 47) rfl)) rfl,
    g_law := He.glo_ok X G (c.fa _ (List.mem_of_getElem? (l := fa) (i := 119) rfl)) }
end
end K01
end
section
set_option Elab.async false
set_option linter.all false
set_option maxRecDepth 100000
set_option maxHeartbeats 4000000
namespace K01
open PySem PySem.Spec PyProof.Rows L2 Ev
theorem law_call {w : World} {s₁ : Shared} {mg mb : Str → Option Value} {fa a : Addr} {vs : List Value} {ns : List Int} {q : PySem.Program} {loose : List Str} {XP : (Str → Option Value) → Heap → Prop} {s₀ : Shared}
    (plain : ∃ t, runF 9 m_law [.ro (ns.map .int)] [.ref 0] [] = .ok (.bl true) t)
    (G : PySem.W.Ground q loose [] XP w s₀ mg mb s₁.heap) (Y : hk.says w s₁.heap) (hmg : mg "law" = some (.ref fa)) (ha : s₁.heap.get? a = some { cls := .type "list", data := .seq vs.toArray }) (hi : IntsAre vs ns) (hl : ns.length ≤ 63) (hg : s₁.gens = #[]) :
    codeAny (model P0 w) callerA (.call (.ref fa) ⟨[.ref a], []⟩) (fun r s' => r = .ok (.ret (.bool true)) ∧ OldK s₁.heap s'.heap ∧ s'.os = s₁.os ∧ AllBare s'.gens) s₁ := by
  obtain ⟨K, KX, c⟩ := Y
  have u := u_of KX G.T.g c
  have e := hmg.symm.trans u.g_law
  have e := Value.ref.inj (Option.some.inj e)
  subst e
  have nK : K.lookup a = none := by
    cases q : K.lookup a with
    | none => rfl
    | some o =>
      have h1 := noLst_ok (ex_at c 0 rfl) q
      have h2 := KX _ _ q
      rw [ha] at h2
      cases h2
      exact absurd rfl h1
  have ht := c.empty ("law", none) (List.mem_singleton.mpr rfl)
  refine law_end (cs := [He.cT K ("law", none)]) KX G.T.g G.T.b G.T.builtins G.T.nolimit hg (fun p hp => ?_) G.T.bmain ha nK hi (Nat.le_trans hl (by decide)) (fun base e0 hTB => ?_) (CX := CX P0 w) (fun H e s' z => ?_)
  · rw [List.mem_singleton.mp hp]
    exact ⟨ht, c.out ("law", none) (List.mem_singleton.mpr rfl), PySem.W.codeHd_of_K KX (c.hd ("law", none) (List.mem_singleton.mpr rfl))⟩
  · obtain ⟨fd, F⟩ := u.d_law
    have TB := hTB _ (List.mem_singleton.mpr rfl)
    refine law_run (k := 12) (p1 := "_law_script") (N := N_law) (γ := gm K) F (F.bindsA fun _ _ _ _ _ _ us hl => match us, hl with | [_], _ => rfl) sc_law rfl ⟨rfl, by decide, by decide⟩ e0 (fun cdv hc hr => ?_) (rep0 fun p hp => ?_) plain
    · have e : cdv = .ref (He.cT K ("law", none)).1 := by
        obtain ⟨⟨oc, od, dV, kV, doc, pm, an, cdv', ct, osl, rfl, lk, hcg, _, _⟩, hk⟩ := F
        subst hc
        obtain ⟨cc, rfl⟩ := He.codeIn_ref hcg
        rw [show (He.cT K ("law", none)).1 = He.codeOf K ("law", none) from rfl, He.codeOf_eq (p := ("law", none)) lk rfl]
      subst e
      exact law_ok u TB hr
    · have e1 : p.1 = (He.cT K ("law", none)).2 := by
        have h : p ∈ [((He.cT K ("law", none)).2, ("law" : Str) ++ ".<locals>." ++ "<lambda>")] := hp
        rw [List.mem_singleton.mp h]
      rw [e1]
      refine ⟨List.mem_singleton.mpr rfl, fun z => ?_⟩
      rw [z, ha] at ht
      cases ht
  · obtain ⟨_, _, _, _, _, _, _, _, _, _, _, _, z⟩ := z
    exact z
end K01
open PySem PySem.W PySem.Calls PyProof.Rows
theorem K01.holds_of (run : ∀ w, HandSHeadRun.RunEq K01.R (PySem.W.view K01.R.prog [82]) K01.hk K01.ob 60000 K01.loose w)
    (plain : ∀ ns : List Int, ns.length ≤ 63 → (∀ k ∈ ns, Builtin.Int.intBits k ≤ 1048576) → ∃ t, Ev.runF 9 K01.m_law [.ro (ns.map .int)] [.ref 0] [] = .ok (.bl true) t) : PySem.Challenge.rw_foldlines_k01_lines_looked_at.Holds := by
  w_on; o_law
  refine HandSHeadRun.head_any (r := K01.R) (q := view K01.R.prog [82]) (H := K01.hk) (ob := K01.ob) (M := 60000) (loose := K01.loose) (d := HandSHeadRun.topDef K01.R.prog 82) (kwd := []) K01.ob_eq
    (by kernel_rfl) (fun s => by kernel_rfl) run (by kernel_rfl) (by kernel_rfl) (by kernel_rfl) (by rfl) (by first | assumption | decide +kernel) (by decide +kernel) ⟨rfl, rfl, rfl, rfl, rfl, by decide +kernel⟩ ?hw ?hc
  case hw => w_witness2
  case hc =>
    refine Att.attach_callB (l := PySem.Challenge.rw_foldlines_k01_lines_looked_at) (n := 63) rfl (by kernel_rfl) fun w s₀ s₁ mg mb fa o pm cd doc a vs ns G Y ho hd hcd hmg0 hobj hints hlen hbits hg => ?_
    have hmg : mg ("law" : PySem.Str) = some (.ref fa) := by
      have e : (HandSHeadRun.topDef K01.R.prog 82).name = ("law" : PySem.Str) := by kernel_rfl
      rw [← e]
      exact hmg0
    exact K01.law_call (plain ns hlen hbits) G Y hmg hobj hints hlen hg
end
section
set_option Elab.async false
set_option linter.all false
set_option maxRecDepth 100000
set_option maxHeartbeats 1000000
namespace K01
open PySem PySem.Spec PyProof.Rows L2 Ev
theorem isi {B t : List O} {x : A} {m n : String} {b : Bool} (h : tyN (B ++ t) x = some m) (hk : kitB m n = some b) : fIsi B [x, .ty n] t = .ok (.bl b) t := by
  simp [fIsi, h, hk]
def isI : A → Bool
  | .int _ => true
  | _ => false
def isB : A → Bool
  | .bl _ => true
  | _ => false
def isS : A → Bool
  | .str _ => true
  | _ => false
def isTup : A → Bool
  | .tup _ => true
  | .ktup _ => true
  | _ => false
/-- what the types of values are -/
theorem ty_cases {hp : List O} {x : A} {m : String} (h : tyN hp x = some m) : (∃ i, x = .int i ∧ m = "int") ∨ (∃ b, x = .bl b ∧ m = "bool") ∨ (∃ z, x = .str z ∧ m = "str") ∨ (x = .non ∧ m = "NoneType") ∨ (isI x = false ∧ isB x = false ∧ isS x = false ∧ isTup x = true ∧ m = "tuple") ∨ (isI x = false ∧ isB x = false ∧ isS x = false ∧ isTup x = false ∧ (m = "list" ∨ m = "dict")) := by
  cases x with
  | int i => cases h; exact .inl ⟨i, rfl, rfl⟩
  | bl b => cases h; exact .inr (.inl ⟨b, rfl, rfl⟩)
  | str z => cases h; exact .inr (.inr (.inl ⟨z, rfl, rfl⟩))
  | non => cases h; exact .inr (.inr (.inr (.inl ⟨rfl, rfl⟩)))
  | tup xs => cases h; exact .inr (.inr (.inr (.inr (.inl ⟨rfl, rfl, rfl, rfl, rfl⟩))))
  | ktup xs => cases h; exact .inr (.inr (.inr (.inr (.inl ⟨rfl, rfl, rfl, rfl, rfl⟩))))
  | ref n =>
    refine .inr (.inr (.inr (.inr (.inr ⟨rfl, rfl, rfl, rfl, ?_⟩))))
    unfold tyN at h
    cases e : hp[n]? with
    | none => simp [e] at h
    | some o =>
      simp only [e] at h
      cases o <;> simp_all
  | ty n => cases h
  | glo n => cases h
theorem is_int {B t : List O} {x : A} {m : String} (h : tyN (B ++ t) x = some m) : fIsi B [x, .ty "int"] t = .ok (.bl (isI x || isB x)) t := by
  rcases ty_cases h with ⟨i, rfl, rfl⟩ | ⟨b, rfl, rfl⟩ | ⟨z, rfl, rfl⟩ | ⟨rfl, rfl⟩ | ⟨h1, h2, h3, h4, rfl⟩ | ⟨h1, h2, h3, h4, rfl | rfl⟩ <;> (try rw [h1, h2]) <;> exact isi h (by kernel_rfl)
theorem is_bool {B t : List O} {x : A} {m : String} (h : tyN (B ++ t) x = some m) : fIsi B [x, .ty "bool"] t = .ok (.bl (isB x)) t := by
  rcases ty_cases h with ⟨i, rfl, rfl⟩ | ⟨b, rfl, rfl⟩ | ⟨z, rfl, rfl⟩ | ⟨rfl, rfl⟩ | ⟨h1, h2, h3, h4, rfl⟩ | ⟨h1, h2, h3, h4, rfl | rfl⟩ <;> (try rw [h2]) <;> exact isi h (by kernel_rfl)
theorem is_str {B t : List O} {x : A} {m : String} (h : tyN (B ++ t) x = some m) : fIsi B [x, .ty "str"] t = .ok (.bl (isS x)) t := by
  rcases ty_cases h with ⟨i, rfl, rfl⟩ | ⟨b, rfl, rfl⟩ | ⟨z, rfl, rfl⟩ | ⟨rfl, rfl⟩ | ⟨h1, h2, h3, h4, rfl⟩ | ⟨h1, h2, h3, h4, rfl | rfl⟩ <;> (try rw [h3]) <;> exact isi h (by kernel_rfl)
theorem is_tup {B t : List O} {x : A} {m : String} (h : tyN (B ++ t) x = some m) : fIsi B [x, .ty "tuple"] t = .ok (.bl (isTup x)) t := by
  rcases ty_cases h with ⟨i, rfl, rfl⟩ | ⟨b, rfl, rfl⟩ | ⟨z, rfl, rfl⟩ | ⟨rfl, rfl⟩ | ⟨h1, h2, h3, h4, rfl⟩ | ⟨h1, h2, h3, h4, rfl | rfl⟩ <;> (try rw [h4]) <;> exact isi h (by kernel_rfl)
theorem is_integer_ok {B t : List O} {x : A} {m : String} (h : tyN (B ++ t) x = some m) : f_is_integer B [x] t = .ok (.bl (isI x)) t := by
  refine gc_ok0 ?_ rfl
  have h1 := is_int h
  have h2 := is_bool h
  simp [m_is_integer, h1, h2]
  cases x <;> simp [isI, isB]
def btw (x : A) (lo hi : Int) : Bool := match x with
  | .int i => decide (lo ≤ i) && decide (i ≤ hi)
  | _ => false
theorem is_between_ok {B t : List O} {x : A} {m : String} {lo hi : Int} (h : tyN (B ++ t) x = some m) : f_is_between B [x, .int lo, .int hi] t = .ok (.bl (btw x lo hi)) t := by
  refine gc_ok0 ?_ rfl
  have h1 := is_integer_ok h
  simp [m_is_between, h1]
  cases x with
  | int i =>
    simp [isI, btw]
    by_cases h2 : lo ≤ i
    · simp [h2]
    · simp [h2]
  | _ => simp [isI, btw]
theorem is_number_ok {B t : List O} {x : A} {m : String} (h : tyN (B ++ t) x = some m) : f_is_number B [x] t = .ok (.bl (btw x (-2147483648) 2147483647)) t := by
  refine gc_ok0 ?_ rfl
  have h1 := is_between_ok (lo := -2147483648) (hi := 2147483647) h
  simp [m_is_number, h1]
def letters : List Nat := ("abcdefghijklmnopqrstuvwxyz" : Str).cps.toList
def wordB (z : Str) : Bool := decide (1 ≤ (z.length : Int)) && (decide ((z.length : Int) ≤ 8) && z.cps.toList.all fun k => decide (k ∈ letters))
def isW : A → Bool
  | .str z => wordB z
  | _ => false
/-- a text of ours -/
def okS : A → Bool
  | .str z => decide (z.length ≤ 100) && PyData.strOk z
  | _ => true
theorem okS_len {z : Str} (h : okS (.str z) = true) : z.length ≤ sizeLine := by
  have h1 := (He.ba h).1
  exact Nat.le_trans (of_decide_eq_true h1) (by decide)
theorem okS_ok {z : Str} (h : okS (.str z) = true) : PyData.strOk z = true := (He.ba h).2
theorem is_word_ok {B t : List O} {x : A} {m : String} (h : tyN (B ++ t) x = some m) (hs : okS x = true) : f_is_word B [x] t = .ok (.bl (isW x)) t := by
  have h1 := is_str h
  cases x with
  | str z =>
    have hsl := okS_len hs
    by_cases hz : (1 ≤ (z.length : Int)) ∧ (z.length : Int) ≤ 8
    · refine gc_ok (j := [.lst (z.cps.toList.map fun k => .bl (decide (k ∈ letters)))]) ?_ rfl
      have e := mLc_map (B := B) (t := t) (vs := [1]) (mi := mIStr (mVar 0)) (g := gN 1) (me := mBin (fTIn false) (mVar 1) (mCon (.str "abcdefghijklmnopqrstuvwxyz"))) (s := [some (.str z), none]) (f := fun y => match y with | .str u => .bl (match sign1 u with | some k => decide (k ∈ letters) | none => false) | _ => .non) (ys := Ev.signs z) rfl (by
          have e1 : (Ev.signs z).length = z.length := by simp [Ev.signs, Str.length]
          rw [e1]; exact hsl) (fun y hy => by
        unfold Ev.signs at hy
        obtain ⟨k, _, rfl⟩ := List.mem_map.mp hy
        exact ⟨_, rfl, rfl⟩)
      have e' : ((Ev.signs z).map fun y => match y with | .str u => A.bl (match sign1 u with | some k => decide (k ∈ letters) | none => false) | _ => .non) = z.cps.toList.map fun k => .bl (decide (k ∈ letters)) := by
        unfold Ev.signs
        rw [List.map_map]
        rfl
      rw [e'] at e
      have e2 := all_newF (B := B) (t := t) (f := fun k => .bl (decide (k ∈ letters))) (p := fun k => decide (k ∈ letters)) (ys := z.cps.toList) (l := []) fun _ _ => rfl
      simp [m_is_word, h1, isS, fLen, lenA, hsl, hz.1, hz.2, e, e2]
      simp [isW, wordB, hz.1, hz.2]
    · refine gc_ok0 ?_ rfl
      simp [m_is_word, h1, isS, fLen, lenA, hsl, isW, wordB]
      by_cases h2 : 1 ≤ (z.length : Int)
      · have h3 : ¬ (z.length : Int) ≤ 8 := fun q => hz ⟨h2, q⟩
        simp [h2, h3]
      · simp [h2]
  | _ =>
    refine gc_ok0 ?_ rfl
    simp [m_is_word, h1, isS, isW]
end K01
end
section
set_option Elab.async false
set_option linter.all false
set_option maxRecDepth 100000
set_option maxHeartbeats 1000000
namespace K01
open PySem PySem.Spec PyProof.Rows L2 Ev

theorem q_rr {B t : List O} : fEq B false (.str "r") (.str "r") t = .ok (.bl true) t := by kernel_rfl
theorem q_rx {B t : List O} : fEq B false (.str "r") (.str "x") t = .ok (.bl false) t := by kernel_rfl
theorem q_rn {B t : List O} : fEq B false (.str "r") (.str "n") t = .ok (.bl false) t := by kernel_rfl
theorem q_rk {B t : List O} : fEq B false (.str "r") (.str "k") t = .ok (.bl false) t := by kernel_rfl
theorem q_rf {B t : List O} : fEq B false (.str "r") (.str "f") t = .ok (.bl false) t := by kernel_rfl
theorem q_rl {B t : List O} : fEq B false (.str "r") (.str "l") t = .ok (.bl false) t := by kernel_rfl
theorem q_nr {B t : List O} : fEq B false (.str "n") (.str "r") t = .ok (.bl false) t := by kernel_rfl
theorem q_nx {B t : List O} : fEq B false (.str "n") (.str "x") t = .ok (.bl false) t := by kernel_rfl
theorem q_nn {B t : List O} : fEq B false (.str "n") (.str "n") t = .ok (.bl true) t := by kernel_rfl
theorem q_nk {B t : List O} : fEq B false (.str "n") (.str "k") t = .ok (.bl false) t := by kernel_rfl
theorem q_nf {B t : List O} : fEq B false (.str "n") (.str "f") t = .ok (.bl false) t := by kernel_rfl
theorem q_nl {B t : List O} : fEq B false (.str "n") (.str "l") t = .ok (.bl false) t := by kernel_rfl
theorem q_fr {B t : List O} : fEq B false (.str "f") (.str "r") t = .ok (.bl false) t := by kernel_rfl
theorem q_fx {B t : List O} : fEq B false (.str "f") (.str "x") t = .ok (.bl false) t := by kernel_rfl
theorem q_fn {B t : List O} : fEq B false (.str "f") (.str "n") t = .ok (.bl false) t := by kernel_rfl
theorem q_fk {B t : List O} : fEq B false (.str "f") (.str "k") t = .ok (.bl false) t := by kernel_rfl
theorem q_ff {B t : List O} : fEq B false (.str "f") (.str "f") t = .ok (.bl true) t := by kernel_rfl
theorem q_fl {B t : List O} : fEq B false (.str "f") (.str "l") t = .ok (.bl false) t := by kernel_rfl
theorem q_xr {B t : List O} : fEq B false (.str "x") (.str "r") t = .ok (.bl false) t := by kernel_rfl
theorem q_xx {B t : List O} : fEq B false (.str "x") (.str "x") t = .ok (.bl true) t := by kernel_rfl
theorem q_xn {B t : List O} : fEq B false (.str "x") (.str "n") t = .ok (.bl false) t := by kernel_rfl
theorem q_xk {B t : List O} : fEq B false (.str "x") (.str "k") t = .ok (.bl false) t := by kernel_rfl
theorem q_xf {B t : List O} : fEq B false (.str "x") (.str "f") t = .ok (.bl false) t := by kernel_rfl
theorem q_xl {B t : List O} : fEq B false (.str "x") (.str "l") t = .ok (.bl false) t := by kernel_rfl
theorem q_kr {B t : List O} : fEq B false (.str "k") (.str "r") t = .ok (.bl false) t := by kernel_rfl
theorem q_kx {B t : List O} : fEq B false (.str "k") (.str "x") t = .ok (.bl false) t := by kernel_rfl
theorem q_kn {B t : List O} : fEq B false (.str "k") (.str "n") t = .ok (.bl false) t := by kernel_rfl
theorem q_kk {B t : List O} : fEq B false (.str "k") (.str "k") t = .ok (.bl true) t := by kernel_rfl
theorem q_kf {B t : List O} : fEq B false (.str "k") (.str "f") t = .ok (.bl false) t := by kernel_rfl
theorem q_kl {B t : List O} : fEq B false (.str "k") (.str "l") t = .ok (.bl false) t := by kernel_rfl
theorem q_lr {B t : List O} : fEq B false (.str "l") (.str "r") t = .ok (.bl false) t := by kernel_rfl
theorem q_lx {B t : List O} : fEq B false (.str "l") (.str "x") t = .ok (.bl false) t := by kernel_rfl
theorem q_ln {B t : List O} : fEq B false (.str "l") (.str "n") t = .ok (.bl false) t := by kernel_rfl
theorem q_lk {B t : List O} : fEq B false (.str "l") (.str "k") t = .ok (.bl false) t := by kernel_rfl
theorem q_lf {B t : List O} : fEq B false (.str "l") (.str "f") t = .ok (.bl false) t := by kernel_rfl
theorem q_ll {B t : List O} : fEq B false (.str "l") (.str "l") t = .ok (.bl true) t := by kernel_rfl

theorem strOk_link : PyData.strOk "link" = true := by kernel_rfl
theorem strOk_main : PyData.strOk "main" = true := by kernel_rfl
theorem strOk_a : PyData.strOk "a" = true := by kernel_rfl
def isTx (y : Str) : A → Bool
  | .str z => decide (z = y)
  | _ => false
def partB (f : Str) (x : A) : Bool := if f = "r" then btw x 0 5 else if f = "x" then (if isS x then isTx "link" x else btw x 0 5) else if f = "n" then btw x (-2147483648) 2147483647 else if f = "k" then btw x 0 59 else isW x
/-- the letters of the forms -/
def isF (f : Str) : Prop := f = "r" ∨ f = "n" ∨ f = "f" ∨ f = "x" ∨ f = "k" ∨ f = "l"
theorem is_part_ok {B t : List O} {f : Str} {x : A} {m : String} (hf : isF f) (h : tyN (B ++ t) x = some m) (hs : okS x = true) : f_is_part B [.str f, x] t = .ok (.bl (partB f x)) t := by
  refine gc_ok0 ?_ rfl
  have h1 := is_between_ok (lo := 0) (hi := 5) h
  have h2 := is_between_ok (lo := 0) (hi := 59) h
  have h3 := is_number_ok h
  have h4 := is_word_ok h hs
  have h5 := is_str h
  rcases hf with rfl | rfl | rfl | rfl | rfl | rfl
  · simp [m_is_part, q_rr, q_rx, q_rn, q_rk, q_rf, q_rl, h1, h2, h3, h4, h5]
    first | done | (unfold partB; simp (decide := true))
  · simp [m_is_part, q_nr, q_nx, q_nn, q_nk, q_nf, q_nl, h1, h2, h3, h4, h5]
    first | done | (unfold partB; simp (decide := true))
  · simp [m_is_part, q_fr, q_fx, q_fn, q_fk, q_ff, q_fl, h1, h2, h3, h4, h5]
    first | done | (unfold partB; simp (decide := true))
  · cases x with
    | str z =>
      have e := eq_str (B := B) (t := t) (neg := false) (okS_ok hs) strOk_link
      simp [m_is_part, q_xr, q_xx, q_xn, q_xk, q_xf, q_xl, h5, isS, e]
      unfold partB
      simp (decide := true) [isS, isTx]
    | _ =>
      simp [m_is_part, q_xr, q_xx, q_xn, q_xk, q_xf, q_xl, h1, h5, isS]
      unfold partB
      simp (decide := true) [isS]
  · simp [m_is_part, q_kr, q_kx, q_kn, q_kk, q_kf, q_kl, h1, h2, h3, h4, h5]
    first | done | (unfold partB; simp (decide := true))
  · simp [m_is_part, q_lr, q_lx, q_ln, q_lk, q_lf, q_ll, h1, h2, h3, h4, h5]
    first | done | (unfold partB; simp (decide := true))

def lawPart (f : Str) (x : A) : Bool := if f = "n" then btw x (-2147483648) 2147483647 else if f = "k" then btw x 0 59 else if f = "f" then isTx "main" x else if f = "l" then isTx "a" x else btw x 0 5 || (decide (f = "x") && isTx "link" x)
theorem law_is_part_ok {B t : List O} {f : Str} {x : A} {m : String} (hf : isF f) (h : tyN (B ++ t) x = some m) (hs : okS x = true) : f__law_is_part B [.str f, x] t = .ok (.bl (lawPart f x)) t := by
  refine gc_ok0 ?_ rfl
  have h1 := is_int h
  have h2 := is_bool h
  have h5 := is_str h
  have p1 : ∀ {t : List O}, fPow (.int 2) (.int 31) t = .ok (.int 2147483648) t := by intro t; kernel_rfl
  rcases hf with rfl | rfl | rfl | rfl | rfl | rfl
  · cases x with
    | int i =>
      unfold lawPart
      simp (decide := true) [isTx, btw]
      have h11 : (i ≤ 2147483647) = (i < 2147483648) := propext (by omega)
      by_cases h6 : 0 ≤ i <;> by_cases h7 : i ≤ 5 <;> simp [m__law_is_part, q_rr, q_rx, q_rn, q_rk, q_rf, q_rl, h1, h2, h5, isI, isB, isS, p1, h6, h7, h11]
    | str z =>
      have e := eq_str (B := B) (t := t) (neg := false) (okS_ok hs) strOk_link
      simp [m__law_is_part, q_rr, q_rx, q_rn, q_rk, q_rf, q_rl, h1, h2, h5, isI, isB, isS, e]
      unfold lawPart
      simp (decide := true) [isTx, btw]
    | _ =>
      simp [m__law_is_part, q_rr, q_rx, q_rn, q_rk, q_rf, q_rl, h1, h2, h5, isI, isB, isS]
      unfold lawPart
      simp (decide := true) [isTx, btw]
  · cases x with
    | int i =>
      unfold lawPart
      simp (decide := true) [isTx, btw]
      have h11 : (i ≤ 2147483647) = (i < 2147483648) := propext (by omega)
      by_cases h6 : -2147483648 ≤ i <;> by_cases h7 : i < 2147483648 <;> simp [m__law_is_part, q_nr, q_nx, q_nn, q_nk, q_nf, q_nl, h1, h2, h5, isI, isB, isS, p1, h6, h7, h11]
    | str z =>
      have e := eq_str (B := B) (t := t) (neg := false) (okS_ok hs) strOk_link
      simp [m__law_is_part, q_nr, q_nx, q_nn, q_nk, q_nf, q_nl, h1, h2, h5, isI, isB, isS, e]
      unfold lawPart
      simp (decide := true) [isTx, btw]
    | _ =>
      simp [m__law_is_part, q_nr, q_nx, q_nn, q_nk, q_nf, q_nl, h1, h2, h5, isI, isB, isS]
      unfold lawPart
      simp (decide := true) [isTx, btw]
  · cases x with
    | int i =>
      unfold lawPart
      simp (decide := true) [isTx, btw]
      have h11 : (i ≤ 2147483647) = (i < 2147483648) := propext (by omega)
      by_cases h6 : 0 ≤ i <;> by_cases h7 : i ≤ 5 <;> simp [m__law_is_part, q_fr, q_fx, q_fn, q_fk, q_ff, q_fl, h1, h2, h5, isI, isB, isS, p1, h6, h7, h11]
    | str z =>
      have e := eq_str (B := B) (t := t) (neg := false) (okS_ok hs) strOk_main
      simp [m__law_is_part, q_fr, q_fx, q_fn, q_fk, q_ff, q_fl, h1, h2, h5, isI, isB, isS, e]
      unfold lawPart
      simp (decide := true) [isTx, btw]
    | _ =>
      simp [m__law_is_part, q_fr, q_fx, q_fn, q_fk, q_ff, q_fl, h1, h2, h5, isI, isB, isS]
      unfold lawPart
      simp (decide := true) [isTx, btw]
  · cases x with
    | int i =>
      unfold lawPart
      simp (decide := true) [isTx, btw]
      have h11 : (i ≤ 2147483647) = (i < 2147483648) := propext (by omega)
      by_cases h6 : 0 ≤ i <;> by_cases h7 : i ≤ 5 <;> simp [m__law_is_part, q_xr, q_xx, q_xn, q_xk, q_xf, q_xl, h1, h2, h5, isI, isB, isS, p1, h6, h7, h11]
    | str z =>
      have e := eq_str (B := B) (t := t) (neg := false) (okS_ok hs) strOk_link
      simp [m__law_is_part, q_xr, q_xx, q_xn, q_xk, q_xf, q_xl, h1, h2, h5, isI, isB, isS, e]
      unfold lawPart
      simp (decide := true) [isTx, btw]
    | _ =>
      simp [m__law_is_part, q_xr, q_xx, q_xn, q_xk, q_xf, q_xl, h1, h2, h5, isI, isB, isS]
      unfold lawPart
      simp (decide := true) [isTx, btw]
  · cases x with
    | int i =>
      unfold lawPart
      simp (decide := true) [isTx, btw]
      have h11 : (i ≤ 2147483647) = (i < 2147483648) := propext (by omega)
      by_cases h6 : 0 ≤ i <;> by_cases h7 : i ≤ 59 <;> simp [m__law_is_part, q_kr, q_kx, q_kn, q_kk, q_kf, q_kl, h1, h2, h5, isI, isB, isS, p1, h6, h7, h11]
    | str z =>
      have e := eq_str (B := B) (t := t) (neg := false) (okS_ok hs) strOk_link
      simp [m__law_is_part, q_kr, q_kx, q_kn, q_kk, q_kf, q_kl, h1, h2, h5, isI, isB, isS, e]
      unfold lawPart
      simp (decide := true) [isTx, btw]
    | _ =>
      simp [m__law_is_part, q_kr, q_kx, q_kn, q_kk, q_kf, q_kl, h1, h2, h5, isI, isB, isS]
      unfold lawPart
      simp (decide := true) [isTx, btw]
  · cases x with
    | int i =>
      unfold lawPart
      simp (decide := true) [isTx, btw]
      have h11 : (i ≤ 2147483647) = (i < 2147483648) := propext (by omega)
      by_cases h6 : 0 ≤ i <;> by_cases h7 : i ≤ 5 <;> simp [m__law_is_part, q_lr, q_lx, q_ln, q_lk, q_lf, q_ll, h1, h2, h5, isI, isB, isS, p1, h6, h7, h11]
    | str z =>
      have e := eq_str (B := B) (t := t) (neg := false) (okS_ok hs) strOk_a
      simp [m__law_is_part, q_lr, q_lx, q_ln, q_lk, q_lf, q_ll, h1, h2, h5, isI, isB, isS, e]
      unfold lawPart
      simp (decide := true) [isTx, btw]
    | _ =>
      simp [m__law_is_part, q_lr, q_lx, q_ln, q_lk, q_lf, q_ll, h1, h2, h5, isI, isB, isS]
      unfold lawPart
      simp (decide := true) [isTx, btw]
end K01
end
section
set_option Elab.async false
set_option linter.all false
set_option maxRecDepth 100000
set_option maxHeartbeats 1000000
namespace K01
open PySem PySem.Spec PyProof.Rows L2 Ev
instance decF {f : Str} : Decidable (isF f) := by unfold isF; infer_instance
/-- a part that may stand in a line -/
def Pt (hp : List O) (x : A) : Prop := (∃ m, tyN hp x = some m) ∧ okS x = true
theorem Pt.old {B t l : List O} {x : A} (h : Pt (B ++ t) x) : Pt (B ++ (t ++ l)) x := by
  obtain ⟨⟨m, h1⟩, h2⟩ := h
  exact ⟨⟨m, tyN_old h1⟩, h2⟩
def zipL : List Nat → List A → List (Nat × A)
  | k :: ks, a :: as => (k, a) :: zipL ks as
  | _, _ => []
theorem zipSA_eq : ∀ (ks : List Nat) (as : List A), zipSA ks as = (zipL ks as).map fun p => .tup [.str ⟨#[p.1]⟩, p.2]
  | [], _ => rfl
  | _ :: _, [] => rfl
  | k :: ks, a :: as => by
    unfold zipSA zipL
    rw [zipSA_eq ks as]
    rfl
theorem zipL_mem : ∀ {ks : List Nat} {as : List A} {p : Nat × A}, p ∈ zipL ks as → p.1 ∈ ks ∧ p.2 ∈ as
  | [], _, p, h => by simp [zipL] at h
  | _ :: _, [], p, h => by simp [zipL] at h
  | k :: ks, a :: as, p, h => by
    unfold zipL at h
    rcases List.mem_cons.mp h with rfl | q
    · exact ⟨List.mem_cons_self, List.mem_cons_self⟩
    · have := zipL_mem q
      exact ⟨List.mem_cons_of_mem _ this.1, List.mem_cons_of_mem _ this.2⟩
theorem zipL_len : ∀ {ks : List Nat} {as : List A}, (zipL ks as).length ≤ ks.length
  | [], _ => by simp [zipL]
  | _ :: _, [] => by simp [zipL]
  | k :: ks, a :: as => by
    unfold zipL
    have := zipL_len (ks := ks) (as := as)
    simp; omega
def forms (w : Str) : Option Str := match tab_FORMS.lookup w with
  | some (.str f) => some f
  | _ => none
def formsB : Bool := tab_FORMS.all fun q => match q.2 with
  | .str f => f.cps.toList.all (fun k => decide (isF ⟨#[k]⟩)) && decide (f.length ≤ 3)
  | _ => false
theorem formsB_ok : formsB = true := by kernel_rfl
theorem look_mem {β : Type} {k : Str} {v : β} : ∀ {l : List (Str × β)}, l.lookup k = some v → (k, v) ∈ l
  | [], h => by cases h
  | (k', v') :: l, h => by
    rw [List.lookup_cons] at h
    cases hb : k == k' with
    | true =>
      rw [hb] at h
      cases h
      rw [beq_iff_eq.mp hb]
      exact List.mem_cons_self
    | false =>
      rw [hb] at h
      exact List.mem_cons_of_mem _ (look_mem h)
theorem look_forms {w : Str} {a : A} (h : tab_FORMS.lookup w = some a) : ∃ f, a = .str f ∧ forms w = some f ∧ (∀ k ∈ f.cps.toList, isF ⟨#[k]⟩) ∧ f.length ≤ 3 := by
  have h1 := List.all_eq_true.mp formsB_ok _ (look_mem h)
  cases a with
  | str f =>
    obtain ⟨h2, h3⟩ := He.ba h1
    exact ⟨f, rfl, by unfold forms; rw [h], fun k hk => of_decide_eq_true (List.all_eq_true.mp h2 k hk), of_decide_eq_true h3⟩
  | _ => cases h1
theorem look_none {w : Str} (h : tab_FORMS.lookup w = none) : forms w = none := by unfold forms; rw [h]
def lineB : A → Bool
  | .tup (.str w :: xs) => match forms w with
    | some f => decide (xs.length = f.length) && (zipL f.cps.toList xs).all fun p => partB ⟨#[p.1]⟩ p.2
    | none => false
  | _ => false
/-- what may be looked at as a line -/
structure Cand (hp : List O) (v : A) : Prop where
  ty : ∃ m, tyN hp v = some m
  nk : ∀ xs, v ≠ .ktup xs
  pt : ∀ xs, v = .tup xs → ∀ x ∈ xs, Pt hp x
theorem Cand.old {B t l : List O} {x : A} (h : Cand (B ++ t) x) : Cand (B ++ (t ++ l)) x := by
  obtain ⟨⟨m, h1⟩, h2, h3⟩ := h
  exact ⟨⟨m, tyN_old h1⟩, h2, fun xs e x hx => (h3 xs e x hx).old⟩
theorem cut1 {x : A} {xs : List A} : cutA (x :: xs) (some 1) none = xs := by
  unfold cutA
  have e : HT.sIx (x :: xs).length 0 (some 1) = 1 := by
    show (if (1 : Int) < 0 then ((1 : Int) + ((x :: xs).length : Int)).toNat else min (1 : Int).toNat (x :: xs).length) = 1
    simp
  rw [e, HT.sIx_none]
  simp
theorem at0 {x : A} {xs : List A} : atI (x :: xs) 0 = some x := by
  unfold atI ixN
  simp
theorem is_line_ok {B t : List O} {v : A} (c : Cand (B ++ t) v) : f_is_line B [v] t = .ok (.bl (lineB v)) t := by
  obtain ⟨m, h⟩ := c.ty
  have h1 := is_tup h
  by_cases hv : isTup v = true
  · cases v with
    | ktup xs => exact absurd rfl (c.nk xs)
    | tup xs =>
      cases xs with
      | nil =>
        refine gc_ok0 ?_ rfl
        simp [m_is_line, h1, isTup, fEq0, tupOf, lineB]
      | cons x xs =>
        obtain ⟨⟨mx, hx⟩, hsx⟩ := c.pt _ rfl x List.mem_cons_self
        have h2 := is_str hx
        have i0 : fIx B (.tup (x :: xs)) (.int 0) t = .ok x t := by
          simp [fIx, seqOf, at0]
        cases hs : isS x with
        | false =>
          rw [hs] at h2
          refine gc_ok0 ?_ rfl
          simp [m_is_line, h1, isTup, fEq0, tupOf, i0, h2]
          cases x <;> simp_all [lineB, isS]
        | true =>
          cases x with
          | str w =>
            cases hw : tab_FORMS.lookup w with
            | none =>
              refine gc_ok0 ?_ rfl
              simp [m_is_line, h1, isTup, fEq0, tupOf, i0, h2, isS, fKIn, hw]
              simp [lineB, look_none hw]
            | some a =>
              obtain ⟨f, rfl, hf, hF, hl⟩ := look_forms hw
              have hl' : f.length ≤ sizeLine := Nat.le_trans hl (by decide)
              by_cases hlen : xs.length = f.length
              · refine gc_ok (j := [.lst ((zipL f.cps.toList xs).map fun p => .bl (partB ⟨#[p.1]⟩ p.2))]) ?_ rfl
                have e := mLc_map (B := B) (t := t) (vs := [2, 3]) (mi := mIZipS (mCons (mVar 1) (mCons (mSl B (mVar 0) (mO1 (mCon (.int 1))) mO0) mNil))) (g := gT [2, 3]) (me := mCallF B 2 f_is_part (mCons (mVar 2) (mCons (mVar 3) mNil))) (s := [some (.tup (.str w :: xs)), some (.str f), none, none]) (f := fun y => match y with | .tup [.str k, x] => .bl (partB k x) | _ => .non) (ys := zipSA f.cps.toList xs) (by
                    simp [mIZipS, mSl, mO1, mO0, fSl, cut1, onZipS]) (by
                    rw [zipSA_eq, List.length_map]
                    exact Nat.le_trans zipL_len (by simpa [Str.length] using hl')) (fun y hy => by
                  rw [zipSA_eq] at hy
                  obtain ⟨p, hp, rfl⟩ := List.mem_map.mp hy
                  obtain ⟨k, x⟩ := p
                  have hm := zipL_mem hp
                  obtain ⟨⟨mm, q1⟩, q2⟩ := c.pt _ rfl x (List.mem_cons_of_mem _ hm.2)
                  exact ⟨_, rfl, is_part_ok (hF k hm.1) q1 q2⟩)
                rw [zipSA_eq, List.map_map] at e
                have ee : (zipL f.cps.toList xs).map ((fun y : A => match y with | .tup [.str k, x] => A.bl (partB k x) | _ => .non) ∘ fun p => .tup [.str ⟨#[p.1]⟩, p.2]) = (zipL f.cps.toList xs).map fun p => .bl (partB ⟨#[p.1]⟩ p.2) := rfl
                rw [ee] at e
                have e2 := all_newF (B := B) (t := t) (f := fun p : Nat × A => .bl (partB ⟨#[p.1]⟩ p.2)) (p := fun p => partB ⟨#[p.1]⟩ p.2) (ys := zipL f.cps.toList xs) (l := []) fun _ _ => rfl
                simp [m_is_line, h1, isTup, fEq0, tupOf, i0, h2, isS, fKIn, fKIx, hw, fLen, lenA, hl', Ev.eq_int, hlen, e, e2]
                simp [lineB, hf, hlen]
              · refine gc_ok0 ?_ rfl
                have hlen' : ¬ ((xs.length : Int) = (f.length : Int)) := by omega
                simp [m_is_line, h1, isTup, fEq0, tupOf, i0, h2, isS, fKIn, fKIx, hw, fLen, lenA, hl', Ev.eq_int, hlen']
                simp [lineB, hf, hlen]
          | _ => cases hs
    | _ => cases hv
  · have hv' : isTup v = false := by simpa using hv
    rw [hv'] at h1
    refine gc_ok0 ?_ rfl
    simp [m_is_line, h1]
    cases v <;> simp_all [lineB, isTup]
end K01
end
section
set_option Elab.async false
set_option linter.all false
set_option maxRecDepth 100000
set_option maxHeartbeats 1000000
namespace K01
open PySem PySem.Spec PyProof.Rows L2 Ev
theorem mapO_toD {hp : List O} {n : Nat} : ∀ (ns : List Int), mapO (toD hp (n + 1)) (ns.map A.int) = some (ns.map PyData.int)
  | [] => rfl
  | i :: ns => by
    rw [List.map_cons]
    unfold mapO
    rw [show toD hp (n + 1) (.int i) = some (.int i) from rfl, mapO_toD ns]
    rfl
theorem toD_ref {hp : List O} {n d : Nat} {xs : List A} (h : rdL hp n = some xs) : toD hp (d + 1) (.ref n) = (mapO (toD hp d) xs).map PyData.list := by
  unfold toD
  simp only [h]
theorem can_ints : ∀ (ns : List Int), PyData.canLayAll0 (ns.map PyData.int) = true
  | [] => by simp [PyData.canLayAll0]
  | i :: ns => by simp [PyData.canLayAll0, PyData.canLay0, can_ints ns]
theorem deep_ints : ∀ (ns : List Int), PyData.depthAll (ns.map PyData.int) = 0
  | [] => by simp [PyData.depthAll]
  | i :: ns => by simp [PyData.depthAll, PyData.depth, deep_ints ns]
/-- a list of ints against the empty list -/
theorem eq_nil {B t : List O} {n k : Nat} {ns : List Int} {neg : Bool} (h1 : rdL (B ++ t) n = some (ns.map A.int)) (h2 : rdL (B ++ t) k = some []) : fEq B neg (.ref n) (.ref k) t = .ok (.bl (if neg then !ns.isEmpty else ns.isEmpty)) t := by
  unfold fEq
  have e1 : toD (B ++ t) deep (.ref n) = some (.list (ns.map PyData.int)) := by
    rw [show deep = (deep - 2) + 1 + 1 from rfl, toD_ref h1, mapO_toD]
    rfl
  have e2 : toD (B ++ t) deep (.ref k) = some (.list []) := by
    rw [show deep = (deep - 2) + 1 + 1 from rfl, toD_ref h2]
    rfl
  have e3 : SeqAt.shaped (.list (ns.map PyData.int)) = true := by
    simp [SeqAt.shaped, PyData.canLay0, PyData.depth, can_ints, deep_ints]
  have e4 : SeqAt.shaped (.list []) = true := by
    simp [SeqAt.shaped, PyData.canLay0, PyData.depth, PyData.canLayAll0, PyData.depthAll]
  have e5 : PyData.eqv (.list (ns.map PyData.int)) (.list []) = ns.isEmpty := by
    cases ns <;> simp [PyData.eqv, PyData.eqvAll]
  rw [e1, e2]
  simp only [e3, e4, e5, and_self, if_true]
def formsD : List (Key × A) := tab_FORMS.map fun q => (Sum.inr q.1, q.2)
def junkD : List O := [.dic [(Sum.inr "less", .str "rr"), (Sum.inr "in", .str "r"), (Sum.inr "out", .str "r"), (Sum.inr "push", .str "x"), (Sum.inr "pop", .str "x"), (Sum.inr "read", .str "rk"), (Sum.inr "write", .str "kr")],
  .dic [(Sum.inr "mark", .str "l"), (Sum.inr "jump", .str "l"), (Sum.inr "if", .str "l"), (Sum.inr "unless", .str "l"), (Sum.inr "call", .str "f"), (Sum.inr "callr", .str "r"), (Sum.inr "tail", .str "f")],
  .dic [(Sum.inr "back", .str ""), (Sum.inr "stop", .str "")]]
theorem forms_run : runF 1 m__law_forms [] [] [] = .ok (.ref 0) (.dic formsD :: junkD) := by kernel_rfl
theorem law_forms_ok {B t : List O} : f__law_forms B [] t = .ok (.ref (B.length + t.length)) (t ++ .dic formsD :: junkD) := by
  have e : frF (runF 1 m__law_forms) B [] t = .ok (.ref (B.length + t.length)) (t ++ .dic formsD :: junkD) := by
    unfold frF
    have e : reach (B ++ t) 6 (refsAs []).eraseDups = [] := reach0 6
    rw [e, if_pos (by kernel_rfl)]
    have ep : pack (B ++ t) [] = [] := rfl
    rw [ep, rens_free _ rfl, forms_run]
    rfl
  unfold f__law_forms gcF
  rw [e]
  unfold cutR
  have hb : below (B.length + t.length) (.ref (B.length + t.length)) = false := by simp [below, refsA]
  simp only [hb, Bool.false_and, Bool.false_eq_true, if_false, false_and]
theorem valA_map {w : Str} : ∀ (l : List (Str × A)), valA (l.map fun q => ((Sum.inr q.1 : Key), q.2)) (Sum.inr w) = l.lookup w
  | [] => rfl
  | (k, v) :: l => by
    rw [List.map_cons, List.lookup_cons]
    unfold valA
    rw [List.find?_cons]
    by_cases h : k = w
    · subst h; simp
    · have h1 : (w == k) = false := by simpa using fun q => h q.symm
      have h2 : decide (((Sum.inr k : Key)) = Sum.inr w) = false := by simpa using h
      simp only [h1, h2]
      exact valA_map l
theorem dget_forms {hp : List O} {n : Nat} {w : Str} (h : hp[n]? = some (.dic formsD)) : dget hp n (.str w) = some (tab_FORMS.lookup w) := by
  unfold dget
  rw [h]
  show some (valA formsD (Sum.inr w)) = _
  unfold formsD
  rw [valA_map]
def lawLine : A → Bool
  | .tup (.str w :: xs) => match forms w with
    | some f => decide (xs.length = f.length) && (zipL f.cps.toList xs).all fun p => lawPart ⟨#[p.1]⟩ p.2
    | none => false
  | _ => false
end K01
end
section
set_option Elab.async false
set_option linter.all false
set_option maxRecDepth 100000
set_option maxHeartbeats 1000000
namespace K01
open PySem PySem.Spec PyProof.Rows L2 Ev
theorem law_forms_at {B t : List O} : ∃ n l, f__law_forms B [] t = .ok (.ref n) (t ++ l) ∧ (B ++ (t ++ l))[n]? = some (.dic formsD) :=
  ⟨B.length + t.length, .dic formsD :: junkD, law_forms_ok, by rw [get_new]; rfl⟩
theorem din_forms {B T : List O} {n : Nat} {w : Str} (g : (B ++ T)[n]? = some (.dic formsD)) : fDIn B true (.str w) (.ref n) T = .ok (.bl (!(tab_FORMS.lookup w).isSome)) T := by
  unfold fDIn
  simp only [dget_forms g]
  rfl
theorem dget_forms1 {B T : List O} {n : Nat} {w : Str} {a : A} (g : (B ++ T)[n]? = some (.dic formsD)) (h : tab_FORMS.lookup w = some a) : fDGet B (.ref n) (.str w) T = .ok a T := by
  unfold fDGet
  simp only [dget_forms g, h]
/-- the comprehension over the parts -/
theorem law_parts {B T : List O} {v : A} {w : Str} {ks : List Nat} {xs : List A} (hF : ∀ k ∈ ks, isF ⟨#[k]⟩) (hl : ks.length ≤ 3) (hlen : xs.length = ks.length) (pt : ∀ x ∈ xs, Pt (B ++ T) x) :
    ∃ ns : List Int, mLc B [2] (mIRng1 (mCons (mCall (fLen B) (mCons (mVar 1) mNil)) mNil)) (gN 2) (mNot (mTest (mCallF B 2 f__law_is_part (mCons (mBin (fIx B) (mVar 1) (mVar 2)) (mCons (mBin (fIx B) (mVar 0) (mBin (fAdd B) (mVar 2) (mCon (.int 1)))) mNil))))) (mVar 2) [some (.tup (.str w :: xs)), some (.str ⟨⟨ks⟩⟩), none] T = .ok (.ref (B.length + T.length)) (T ++ [.lst (ns.map A.int)]) ∧ ns.isEmpty = (zipL ks xs).all fun p => lawPart ⟨#[p.1]⟩ p.2 := by
  have key : ∀ k ∈ ks, ∀ x ∈ xs, f__law_is_part B [.str ⟨#[k]⟩, x] T = .ok (.bl (lawPart ⟨#[k]⟩ x)) T := fun k hk x hx => by
    obtain ⟨⟨m, q1⟩, q2⟩ := pt x hx
    exact law_is_part_ok (hF k hk) q1 q2
  have z1 : 1 ≤ sizeLine := by decide
  have z2 : 2 ≤ sizeLine := by decide
  have z3 : 3 ≤ sizeLine := by decide
  have r2 : List.range 2 = [0, 1] := rfl
  have r3 : List.range 3 = [0, 1, 2] := rfl
  rcases ks with _ | ⟨a, _ | ⟨b, _ | ⟨c, _ | ⟨d, ks⟩⟩⟩⟩
  · obtain rfl : xs = [] := by simpa using hlen
    refine ⟨[], ?_, rfl⟩
    simp [mLc, mIRng1, fLen, lenA, rng1, smallI, rgA, itL, lcGo, Str.length, wipeA]
  · obtain ⟨x, rfl⟩ : ∃ x, xs = [x] := by simpa using List.length_eq_one_iff.mp hlen
    have k1 := key a (by simp) x (by simp)
    refine ⟨if lawPart ⟨#[a]⟩ x then [] else [0], ?_, ?_⟩
    · cases h1 : lawPart ⟨#[a]⟩ x <;> rw [h1] at k1 <;> simp [mLc, mIRng1, fLen, lenA, rng1, smallI, rgA, itL, lcGo, Str.length, wipeA, fIx, seqOf, atI, ixN, k1, z1]
    · cases h1 : lawPart ⟨#[a]⟩ x <;> simp [zipL, h1]
  · obtain ⟨x, y, rfl⟩ : ∃ x y, xs = [x, y] := by
      match xs, hlen with
      | [x, y], _ => exact ⟨x, y, rfl⟩
    have k1 := key a (by simp) x (by simp)
    have k2 := key b (by simp) y (by simp)
    refine ⟨(if lawPart ⟨#[a]⟩ x then [] else [0]) ++ if lawPart ⟨#[b]⟩ y then [] else [1], ?_, ?_⟩
    · cases h1 : lawPart ⟨#[a]⟩ x <;> cases h2 : lawPart ⟨#[b]⟩ y <;> rw [h1] at k1 <;> rw [h2] at k2 <;> simp [mLc, mIRng1, fLen, lenA, rng1, smallI, rgA, itL, lcGo, Str.length, wipeA, fIx, seqOf, atI, ixN, k1, k2, z2, r2]
    · cases h1 : lawPart ⟨#[a]⟩ x <;> cases h2 : lawPart ⟨#[b]⟩ y <;> simp [zipL, h1, h2]
  · obtain ⟨x, y, z, rfl⟩ : ∃ x y z, xs = [x, y, z] := by
      match xs, hlen with
      | [x, y, z], _ => exact ⟨x, y, z, rfl⟩
    have k1 := key a (by simp) x (by simp)
    have k2 := key b (by simp) y (by simp)
    have k3 := key c (by simp) z (by simp)
    refine ⟨(if lawPart ⟨#[a]⟩ x then [] else [0]) ++ ((if lawPart ⟨#[b]⟩ y then [] else [1]) ++ if lawPart ⟨#[c]⟩ z then [] else [2]), ?_, ?_⟩
    · cases h1 : lawPart ⟨#[a]⟩ x <;> cases h2 : lawPart ⟨#[b]⟩ y <;> cases h3 : lawPart ⟨#[c]⟩ z <;> rw [h1] at k1 <;> rw [h2] at k2 <;> rw [h3] at k3 <;> simp [mLc, mIRng1, fLen, lenA, rng1, smallI, rgA, itL, lcGo, Str.length, wipeA, fIx, seqOf, atI, ixN, k1, k2, k3, z3, r3]
    · cases h1 : lawPart ⟨#[a]⟩ x <;> cases h2 : lawPart ⟨#[b]⟩ y <;> cases h3 : lawPart ⟨#[c]⟩ z <;> simp [zipL, h1, h2, h3]
  · simp at hl
end K01
end
section
set_option Elab.async false
set_option linter.all false
set_option maxRecDepth 100000
set_option maxHeartbeats 1000000
namespace K01
open PySem PySem.Spec PyProof.Rows L2 Ev
theorem law_is_line_ok {B t : List O} {v : A} (c : Cand (B ++ t) v) : f__law_is_line B [v] t = .ok (.bl (lawLine v)) t := by
  obtain ⟨m, h⟩ := c.ty
  have h1 := is_tup h
  by_cases hv : isTup v = true
  · cases v with
    | ktup xs => exact absurd rfl (c.nk xs)
    | tup xs =>
      cases xs with
      | nil =>
        refine gc_ok0 ?_ rfl
        simp [m__law_is_line, h1, isTup, fEq0, tupOf, lawLine]
      | cons x xs =>
        obtain ⟨⟨mx, hx⟩, hsx⟩ := c.pt _ rfl x List.mem_cons_self
        have h2 := is_str hx
        have i0 : ∀ T, fIx B (.tup (x :: xs)) (.int 0) T = .ok x T := by
          intro T
          simp [fIx, seqOf, at0]
        cases hs : isS x with
        | false =>
          rw [hs] at h2
          refine gc_ok0 ?_ rfl
          simp [m__law_is_line, h1, isTup, fEq0, tupOf, i0, h2]
          cases x <;> simp_all [lawLine, isS]
        | true =>
          cases x with
          | str w =>
            obtain ⟨n1, l1, e1, g1⟩ := law_forms_at (B := B) (t := t)
            have d1 := din_forms (w := w) g1
            cases hw : tab_FORMS.lookup w with
            | none =>
              refine gc_ok (j := l1) ?_ rfl
              rw [hw] at d1
              simp [m__law_is_line, h1, isTup, fEq0, tupOf, i0, h2, isS, e1, d1]
              simp [lawLine, look_none hw]
            | some a =>
              obtain ⟨f, rfl, hf, hF, hl⟩ := look_forms hw
              have hl' : f.length ≤ sizeLine := Nat.le_trans hl (by decide)
              rw [hw] at d1
              obtain ⟨n2, l2, e2, g2⟩ := law_forms_at (B := B) (t := t ++ l1)
              have d2 := dget_forms1 g2 hw
              have pt : ∀ x ∈ xs, Pt (B ++ ((t ++ l1) ++ l2)) x := fun x hx => (c.pt _ rfl x (List.mem_cons_of_mem _ hx)).old.old
              generalize hT1 : t ++ l1 = T1 at e1 d1 e2 d2 pt
              generalize hT2 : T1 ++ l2 = T2 at e2 d2 pt
              by_cases hlen : xs.length = f.length
              · obtain ⟨ns, e, en⟩ := law_parts (B := B) (T := T2) (v := .non) (w := w) (ks := f.cps.toList) hF (by simpa [Str.length] using hl) (by simpa [Str.length] using hlen) pt
                have ef : (⟨⟨f.cps.toList⟩⟩ : Str) = f := rfl
                rw [ef] at e
                refine gc_ok (j := l1 ++ (l2 ++ [.lst (ns.map A.int), .lst []])) ?_ rfl
                have e3 := eq_nil (B := B) (t := T2 ++ [.lst (ns.map A.int), .lst []]) (n := B.length + T2.length) (k := B.length + (T2.length + 1)) (ns := ns) (neg := false) (by simp [rdL]) (by simp [rdL])
                have hlen' : ((xs.length : Int) = (f.length : Int)) = True := by simp [hlen]
                simp [m__law_is_line, h1, isTup, fEq0, tupOf, i0, h2, isS, e1, d1, e2, d2, fLen, lenA, hl', Ev.eq_int, hlen', e, e3]
                refine ⟨?_, by rw [← hT2, ← hT1]; simp⟩
                rw [en]
                simp [lawLine, hf, hlen]
              · have hlen' : ¬ ((xs.length : Int) = (f.length : Int)) := by omega
                refine gc_ok (j := l1 ++ l2) ?_ rfl
                simp [m__law_is_line, h1, isTup, fEq0, tupOf, i0, h2, isS, e1, d1, e2, d2, fLen, lenA, hl', Ev.eq_int, hlen']
                refine ⟨?_, by rw [← hT2, ← hT1]; simp⟩
                simp [lawLine, hf, hlen]
          | _ => cases hs
    | _ => cases hv
  · have hv' : isTup v = false := by simpa using hv
    rw [hv'] at h1
    refine gc_ok0 ?_ rfl
    simp [m__law_is_line, h1]
    cases v <;> simp_all [lawLine, isTup]
end K01
end
section
set_option Elab.async false
set_option linter.all false
set_option maxRecDepth 100000
set_option maxHeartbeats 1000000
namespace K01
open PySem PySem.Spec PyProof.Rows L2 Ev

theorem c_r : (⟨#[114]⟩ : Str) = "r" := by kernel_rfl
theorem c_n : (⟨#[110]⟩ : Str) = "n" := by kernel_rfl
theorem c_f : (⟨#[102]⟩ : Str) = "f" := by kernel_rfl
theorem c_x : (⟨#[120]⟩ : Str) = "x" := by kernel_rfl
theorem c_k : (⟨#[107]⟩ : Str) = "k" := by kernel_rfl
theorem c_l : (⟨#[108]⟩ : Str) = "l" := by kernel_rfl
theorem ln_o : Str.length "" = 0 := by kernel_rfl
theorem cp_o : ("" : Str).cps.toList = [] := by kernel_rfl
theorem ln_f : Str.length "f" = 1 := by kernel_rfl
theorem cp_f : ("f" : Str).cps.toList = [102] := by kernel_rfl
theorem ln_kr : Str.length "kr" = 2 := by kernel_rfl
theorem cp_kr : ("kr" : Str).cps.toList = [107, 114] := by kernel_rfl
theorem ln_l : Str.length "l" = 1 := by kernel_rfl
theorem cp_l : ("l" : Str).cps.toList = [108] := by kernel_rfl
theorem ln_r : Str.length "r" = 1 := by kernel_rfl
theorem cp_r : ("r" : Str).cps.toList = [114] := by kernel_rfl
theorem ln_rf : Str.length "rf" = 2 := by kernel_rfl
theorem cp_rf : ("rf" : Str).cps.toList = [114, 102] := by kernel_rfl
theorem ln_rk : Str.length "rk" = 2 := by kernel_rfl
theorem cp_rk : ("rk" : Str).cps.toList = [114, 107] := by kernel_rfl
theorem ln_rn : Str.length "rn" = 2 := by kernel_rfl
theorem cp_rn : ("rn" : Str).cps.toList = [114, 110] := by kernel_rfl
theorem ln_rr : Str.length "rr" = 2 := by kernel_rfl
theorem cp_rr : ("rr" : Str).cps.toList = [114, 114] := by kernel_rfl
theorem ln_rrr : Str.length "rrr" = 3 := by kernel_rfl
theorem cp_rrr : ("rrr" : Str).cps.toList = [114, 114, 114] := by kernel_rfl
theorem ln_x : Str.length "x" = 1 := by kernel_rfl
theorem cp_x : ("x" : Str).cps.toList = [120] := by kernel_rfl

section
variable {xs : List A} {p : Nat × A → Bool} {a b c : Nat}
theorem sp0 (h : (decide (xs.length = 0) && (zipL [] xs).all p) = true) : xs = [] := by
  have h1 := of_decide_eq_true (He.ba h).1
  exact List.length_eq_zero_iff.mp h1
theorem sp1 (h : (decide (xs.length = 1) && (zipL [a] xs).all p) = true) : ∃ x, xs = [x] ∧ p (a, x) = true := by
  have h1 := of_decide_eq_true (He.ba h).1
  match xs, h1, (He.ba h).2 with
  | [x], _, h2 => exact ⟨x, rfl, by simpa [zipL] using h2⟩
theorem sp2 (h : (decide (xs.length = 2) && (zipL [a, b] xs).all p) = true) : ∃ x y, xs = [x, y] ∧ p (a, x) = true ∧ p (b, y) = true := by
  have h1 := of_decide_eq_true (He.ba h).1
  match xs, h1, (He.ba h).2 with
  | [x, y], _, h2 => exact ⟨x, y, rfl, by simpa [zipL] using h2⟩
theorem sp3 (h : (decide (xs.length = 3) && (zipL [a, b, c] xs).all p) = true) : ∃ x y z, xs = [x, y, z] ∧ p (a, x) = true ∧ p (b, y) = true ∧ p (c, z) = true := by
  have h1 := of_decide_eq_true (He.ba h).1
  match xs, h1, (He.ba h).2 with
  | [x, y, z], _, h2 => exact ⟨x, y, z, rfl, by simpa [zipL] using h2⟩
end
theorem btw_int {x : A} {lo hi : Int} (h : btw x lo hi = true) : ∃ i, x = .int i := by
  cases x with
  | int i => exact ⟨i, rfl⟩
  | _ => cases h
theorem tx_str {x : A} {z : Str} (h : isTx z x = true) : x = .str z := by
  cases x with
  | str y => rw [of_decide_eq_true h]
  | _ => cases h
theorem lp_r {x : A} (h : lawPart "r" x = true) : ∃ i, x = .int i := by
  have e : lawPart "r" x = (btw x 0 5 || (false && isTx "link" x)) := by kernel_rfl
  rw [e] at h
  exact btw_int (by simpa using h)
theorem lp_n {x : A} (h : lawPart "n" x = true) : ∃ i, x = .int i := btw_int (show btw x (-2147483648) 2147483647 = true from by
  have e : lawPart "n" x = btw x (-2147483648) 2147483647 := by kernel_rfl
  rw [← e]; exact h)
theorem lp_k {x : A} (h : lawPart "k" x = true) : ∃ i, x = .int i := by
  have e : lawPart "k" x = btw x 0 59 := by kernel_rfl
  rw [e] at h
  exact btw_int h
theorem lp_f {x : A} (h : lawPart "f" x = true) : x = .str "main" := by
  have e : lawPart "f" x = isTx "main" x := by kernel_rfl
  rw [e] at h
  exact tx_str h
theorem lp_l {x : A} (h : lawPart "l" x = true) : x = .str "a" := by
  have e : lawPart "l" x = isTx "a" x := by kernel_rfl
  rw [e] at h
  exact tx_str h
theorem lp_x {x : A} (h : lawPart "x" x = true) : (∃ i, x = .int i) ∨ x = .str "link" := by
  have e : lawPart "x" x = (btw x 0 5 || (true && isTx "link" x)) := by kernel_rfl
  rw [e] at h
  rcases (by simpa using h : btw x 0 5 = true ∨ isTx "link" x = true) with h | h
  · exact .inl (btw_int h)
  · exact .inr (tx_str h)
/-- what the program takes as a part, the law takes, but for names and labels -/
theorem part_same {f : Str} {x : A} (hf : f = "r" ∨ f = "n" ∨ f = "x" ∨ f = "k") : partB f x = lawPart f x := by
  rcases hf with rfl | rfl | rfl | rfl
  · have e1 : lawPart "r" x = (btw x 0 5 || (false && isTx "link" x)) := by kernel_rfl
    have e2 : partB "r" x = btw x 0 5 := by kernel_rfl
    rw [e1, e2]; simp
  · have e1 : lawPart "n" x = btw x (-2147483648) 2147483647 := by kernel_rfl
    have e2 : partB "n" x = btw x (-2147483648) 2147483647 := by kernel_rfl
    rw [e1, e2]
  · have e1 : lawPart "x" x = (btw x 0 5 || (true && isTx "link" x)) := by kernel_rfl
    have e2 : partB "x" x = (if isS x then isTx "link" x else btw x 0 5) := by kernel_rfl
    rw [e1, e2]
    cases x <;> simp [isS, isTx, btw]
  · have e1 : lawPart "k" x = btw x 0 59 := by kernel_rfl
    have e2 : partB "k" x = btw x 0 59 := by kernel_rfl
    rw [e1, e2]
theorem part_f {x : A} : partB "f" x = isW x := by kernel_rfl
theorem part_l {x : A} : partB "l" x = isW x := by kernel_rfl
theorem law_f {x : A} : lawPart "f" x = isTx "main" x := by kernel_rfl
theorem law_l {x : A} : lawPart "l" x = isTx "a" x := by kernel_rfl
theorem w_main : isW (.str "main") = true := by kernel_rfl
theorem w_a : isW (.str "a") = true := by kernel_rfl
/-- the lines that the law takes -/
inductive Sh : A → Prop
  | w_num (i0 i1 : Int) : Sh (.tup [.str "num", .int i0, .int i1])
  | w_copy (i0 i1 : Int) : Sh (.tup [.str "copy", .int i0, .int i1])
  | w_add (i0 i1 i2 : Int) : Sh (.tup [.str "add", .int i0, .int i1, .int i2])
  | w_sub (i0 i1 i2 : Int) : Sh (.tup [.str "sub", .int i0, .int i1, .int i2])
  | w_mul (i0 i1 i2 : Int) : Sh (.tup [.str "mul", .int i0, .int i1, .int i2])
  | w_addr (i0 : Int) : Sh (.tup [.str "addr", .int i0, .str "main"])
  | w_same (i0 i1 : Int) : Sh (.tup [.str "same", .int i0, .int i1])
  | w_less (i0 i1 : Int) : Sh (.tup [.str "less", .int i0, .int i1])
  | w_in (i0 : Int) : Sh (.tup [.str "in", .int i0])
  | w_out (i0 : Int) : Sh (.tup [.str "out", .int i0])
  | w_push (i0 : Int) : Sh (.tup [.str "push", .int i0])
  | w_pushL : Sh (.tup [.str "push", .str "link"])
  | w_pop (i0 : Int) : Sh (.tup [.str "pop", .int i0])
  | w_popL : Sh (.tup [.str "pop", .str "link"])
  | w_read (i0 i1 : Int) : Sh (.tup [.str "read", .int i0, .int i1])
  | w_write (i0 i1 : Int) : Sh (.tup [.str "write", .int i0, .int i1])
  | w_jump : Sh (.tup [.str "jump", .str "a"])
  | w_if : Sh (.tup [.str "if", .str "a"])
  | w_unless : Sh (.tup [.str "unless", .str "a"])
  | w_call : Sh (.tup [.str "call", .str "main"])
  | w_callr (i0 : Int) : Sh (.tup [.str "callr", .int i0])
  | w_tail : Sh (.tup [.str "tail", .str "main"])
  | w_back : Sh (.tup [.str "back"])
  | w_stop : Sh (.tup [.str "stop"])
/-- lines whose name or label is wrong -/
inductive Bd : A → Prop
  | addr (i : Int) (z : Str) (h : z ≠ "main") (hz : isW (.str z) = true) (hs : okS (.str z) = true) : Bd (.tup [.str "addr", .int i, .str z])
  | call (w z : Str) (hw : w = "call" ∨ w = "tail") (h : z ≠ "main") (hz : isW (.str z) = true) (hs : okS (.str z) = true) : Bd (.tup [.str w, .str z])
  | jump (w z : Str) (hw : w = "jump" ∨ w = "if" ∨ w = "unless") (h : z ≠ "a") (hb : z ≠ "b") (hz : isW (.str z) = true) (hs : okS (.str z) = true) : Bd (.tup [.str w, .str z])
/-- no mark, no text b -/
def Good (v : A) : Prop := ∀ w xs, v = .tup (.str w :: xs) → w ≠ "mark" ∧ ∀ x ∈ xs, x ≠ .str "b"
theorem isW_str {x : A} (h : isW x = true) : ∃ z, x = .str z := by
  cases x with
  | str z => exact ⟨z, rfl⟩
  | _ => cases h
theorem forms_words {w f : Str} (h : forms w = some f) : (w = "num" ∧ f = "rn") ∨ (w = "copy" ∧ f = "rr") ∨ (w = "add" ∧ f = "rrr") ∨ (w = "sub" ∧ f = "rrr") ∨ (w = "mul" ∧ f = "rrr") ∨ (w = "addr" ∧ f = "rf") ∨ (w = "same" ∧ f = "rr") ∨ (w = "less" ∧ f = "rr") ∨ (w = "in" ∧ f = "r") ∨ (w = "out" ∧ f = "r") ∨ (w = "push" ∧ f = "x") ∨ (w = "pop" ∧ f = "x") ∨ (w = "read" ∧ f = "rk") ∨ (w = "write" ∧ f = "kr") ∨ (w = "mark" ∧ f = "l") ∨ (w = "jump" ∧ f = "l") ∨ (w = "if" ∧ f = "l") ∨ (w = "unless" ∧ f = "l") ∨ (w = "call" ∧ f = "f") ∨ (w = "callr" ∧ f = "r") ∨ (w = "tail" ∧ f = "f") ∨ (w = "back" ∧ f = "") ∨ (w = "stop" ∧ f = "") := by
  have h1 : tab_FORMS.lookup w = some (.str f) := by
    unfold forms at h
    split at h
    · rename_i f' e
      rw [e, Option.some.inj h]
    · cases h
  have h2 := look_mem h1
  unfold tab_FORMS at h2
  simpa using h2
theorem law_sh {v : A} (g : Good v) (h : lawLine v = true) : Sh v ∧ lineB v = true := by
  unfold lawLine at h
  split at h
  · rename_i w xs
    split at h
    · rename_i f hf
      have hb : lineB (.tup (.str w :: xs)) = (decide (xs.length = f.length) && (zipL f.cps.toList xs).all fun p => partB ⟨#[p.1]⟩ p.2) := by
        unfold lineB
        simp only [hf]
      rw [hb]
      rcases forms_words hf with ⟨rfl, rfl⟩ | ⟨rfl, rfl⟩ | ⟨rfl, rfl⟩ | ⟨rfl, rfl⟩ | ⟨rfl, rfl⟩ | ⟨rfl, rfl⟩ | ⟨rfl, rfl⟩ | ⟨rfl, rfl⟩ | ⟨rfl, rfl⟩ | ⟨rfl, rfl⟩ | ⟨rfl, rfl⟩ | ⟨rfl, rfl⟩ | ⟨rfl, rfl⟩ | ⟨rfl, rfl⟩ | ⟨rfl, rfl⟩ | ⟨rfl, rfl⟩ | ⟨rfl, rfl⟩ | ⟨rfl, rfl⟩ | ⟨rfl, rfl⟩ | ⟨rfl, rfl⟩ | ⟨rfl, rfl⟩ | ⟨rfl, rfl⟩ | ⟨rfl, rfl⟩
      · rw [ln_rn, cp_rn] at h ⊢
        obtain ⟨x, y, rfl, h0, h1⟩ := sp2 h
        simp only [c_n, c_r] at h0 h1
        have q0 : partB "r" x = true := (part_same (x := x) (f := "r") (by simp)).trans h0
        have q1 : partB "n" y = true := (part_same (x := y) (f := "n") (by simp)).trans h1
        have q : (decide (([x, y] : List A).length = 2) && (zipL [114, 110] [x, y]).all fun p => partB ⟨#[p.1]⟩ p.2) = true := by simp [zipL, c_n, c_r, q0, q1]
        refine ⟨?_, q⟩
        obtain ⟨i0, rfl⟩ := lp_r h0
        obtain ⟨i1, rfl⟩ := lp_n h1
        exact .w_num i0 i1
      · rw [ln_rr, cp_rr] at h ⊢
        obtain ⟨x, y, rfl, h0, h1⟩ := sp2 h
        simp only [c_r] at h0 h1
        have q0 : partB "r" x = true := (part_same (x := x) (f := "r") (by simp)).trans h0
        have q1 : partB "r" y = true := (part_same (x := y) (f := "r") (by simp)).trans h1
        have q : (decide (([x, y] : List A).length = 2) && (zipL [114, 114] [x, y]).all fun p => partB ⟨#[p.1]⟩ p.2) = true := by simp [zipL, c_r, q0, q1]
        refine ⟨?_, q⟩
        obtain ⟨i0, rfl⟩ := lp_r h0
        obtain ⟨i1, rfl⟩ := lp_r h1
        exact .w_copy i0 i1
      · rw [ln_rrr, cp_rrr] at h ⊢
        obtain ⟨x, y, z, rfl, h0, h1, h2⟩ := sp3 h
        simp only [c_r] at h0 h1 h2
        have q0 : partB "r" x = true := (part_same (x := x) (f := "r") (by simp)).trans h0
        have q1 : partB "r" y = true := (part_same (x := y) (f := "r") (by simp)).trans h1
        have q2 : partB "r" z = true := (part_same (x := z) (f := "r") (by simp)).trans h2
        have q : (decide (([x, y, z] : List A).length = 3) && (zipL [114, 114, 114] [x, y, z]).all fun p => partB ⟨#[p.1]⟩ p.2) = true := by simp [zipL, c_r, q0, q1, q2]
        refine ⟨?_, q⟩
        obtain ⟨i0, rfl⟩ := lp_r h0
        obtain ⟨i1, rfl⟩ := lp_r h1
        obtain ⟨i2, rfl⟩ := lp_r h2
        exact .w_add i0 i1 i2
      · rw [ln_rrr, cp_rrr] at h ⊢
        obtain ⟨x, y, z, rfl, h0, h1, h2⟩ := sp3 h
        simp only [c_r] at h0 h1 h2
        have q0 : partB "r" x = true := (part_same (x := x) (f := "r") (by simp)).trans h0
        have q1 : partB "r" y = true := (part_same (x := y) (f := "r") (by simp)).trans h1
        have q2 : partB "r" z = true := (part_same (x := z) (f := "r") (by simp)).trans h2
        have q : (decide (([x, y, z] : List A).length = 3) && (zipL [114, 114, 114] [x, y, z]).all fun p => partB ⟨#[p.1]⟩ p.2) = true := by simp [zipL, c_r, q0, q1, q2]
        refine ⟨?_, q⟩
        obtain ⟨i0, rfl⟩ := lp_r h0
        obtain ⟨i1, rfl⟩ := lp_r h1
        obtain ⟨i2, rfl⟩ := lp_r h2
        exact .w_sub i0 i1 i2
      · rw [ln_rrr, cp_rrr] at h ⊢
        obtain ⟨x, y, z, rfl, h0, h1, h2⟩ := sp3 h
        simp only [c_r] at h0 h1 h2
        have q0 : partB "r" x = true := (part_same (x := x) (f := "r") (by simp)).trans h0
        have q1 : partB "r" y = true := (part_same (x := y) (f := "r") (by simp)).trans h1
        have q2 : partB "r" z = true := (part_same (x := z) (f := "r") (by simp)).trans h2
        have q : (decide (([x, y, z] : List A).length = 3) && (zipL [114, 114, 114] [x, y, z]).all fun p => partB ⟨#[p.1]⟩ p.2) = true := by simp [zipL, c_r, q0, q1, q2]
        refine ⟨?_, q⟩
        obtain ⟨i0, rfl⟩ := lp_r h0
        obtain ⟨i1, rfl⟩ := lp_r h1
        obtain ⟨i2, rfl⟩ := lp_r h2
        exact .w_mul i0 i1 i2
      · rw [ln_rf, cp_rf] at h ⊢
        obtain ⟨x, y, rfl, h0, h1⟩ := sp2 h
        simp only [c_f, c_r] at h0 h1
        have q0 : partB "r" x = true := (part_same (x := x) (f := "r") (by simp)).trans h0
        have q1 : partB "f" y = true := (by rw [lp_f h1]; kernel_rfl)
        have q : (decide (([x, y] : List A).length = 2) && (zipL [114, 102] [x, y]).all fun p => partB ⟨#[p.1]⟩ p.2) = true := by simp [zipL, c_f, c_r, q0, q1]
        refine ⟨?_, q⟩
        obtain ⟨i0, rfl⟩ := lp_r h0
        obtain rfl := lp_f h1
        exact .w_addr i0
      · rw [ln_rr, cp_rr] at h ⊢
        obtain ⟨x, y, rfl, h0, h1⟩ := sp2 h
        simp only [c_r] at h0 h1
        have q0 : partB "r" x = true := (part_same (x := x) (f := "r") (by simp)).trans h0
        have q1 : partB "r" y = true := (part_same (x := y) (f := "r") (by simp)).trans h1
        have q : (decide (([x, y] : List A).length = 2) && (zipL [114, 114] [x, y]).all fun p => partB ⟨#[p.1]⟩ p.2) = true := by simp [zipL, c_r, q0, q1]
        refine ⟨?_, q⟩
        obtain ⟨i0, rfl⟩ := lp_r h0
        obtain ⟨i1, rfl⟩ := lp_r h1
        exact .w_same i0 i1
      · rw [ln_rr, cp_rr] at h ⊢
        obtain ⟨x, y, rfl, h0, h1⟩ := sp2 h
        simp only [c_r] at h0 h1
        have q0 : partB "r" x = true := (part_same (x := x) (f := "r") (by simp)).trans h0
        have q1 : partB "r" y = true := (part_same (x := y) (f := "r") (by simp)).trans h1
        have q : (decide (([x, y] : List A).length = 2) && (zipL [114, 114] [x, y]).all fun p => partB ⟨#[p.1]⟩ p.2) = true := by simp [zipL, c_r, q0, q1]
        refine ⟨?_, q⟩
        obtain ⟨i0, rfl⟩ := lp_r h0
        obtain ⟨i1, rfl⟩ := lp_r h1
        exact .w_less i0 i1
      · rw [ln_r, cp_r] at h ⊢
        obtain ⟨x, rfl, h0⟩ := sp1 h
        simp only [c_r] at h0
        have q0 : partB "r" x = true := (part_same (x := x) (f := "r") (by simp)).trans h0
        have q : (decide (([x] : List A).length = 1) && (zipL [114] [x]).all fun p => partB ⟨#[p.1]⟩ p.2) = true := by simp [zipL, c_r, q0]
        refine ⟨?_, q⟩
        obtain ⟨i0, rfl⟩ := lp_r h0
        exact .w_in i0
      · rw [ln_r, cp_r] at h ⊢
        obtain ⟨x, rfl, h0⟩ := sp1 h
        simp only [c_r] at h0
        have q0 : partB "r" x = true := (part_same (x := x) (f := "r") (by simp)).trans h0
        have q : (decide (([x] : List A).length = 1) && (zipL [114] [x]).all fun p => partB ⟨#[p.1]⟩ p.2) = true := by simp [zipL, c_r, q0]
        refine ⟨?_, q⟩
        obtain ⟨i0, rfl⟩ := lp_r h0
        exact .w_out i0
      · rw [ln_x, cp_x] at h ⊢
        obtain ⟨x, rfl, h0⟩ := sp1 h
        simp only [c_x] at h0
        have q0 : partB "x" x = true := (part_same (x := x) (f := "x") (by simp)).trans h0
        have q : (decide (([x] : List A).length = 1) && (zipL [120] [x]).all fun p => partB ⟨#[p.1]⟩ p.2) = true := by simp [zipL, c_x, q0]
        refine ⟨?_, q⟩
        rcases lp_x h0 with ⟨i, rfl⟩ | rfl
        · exact .w_push i
        · exact .w_pushL
      · rw [ln_x, cp_x] at h ⊢
        obtain ⟨x, rfl, h0⟩ := sp1 h
        simp only [c_x] at h0
        have q0 : partB "x" x = true := (part_same (x := x) (f := "x") (by simp)).trans h0
        have q : (decide (([x] : List A).length = 1) && (zipL [120] [x]).all fun p => partB ⟨#[p.1]⟩ p.2) = true := by simp [zipL, c_x, q0]
        refine ⟨?_, q⟩
        rcases lp_x h0 with ⟨i, rfl⟩ | rfl
        · exact .w_pop i
        · exact .w_popL
      · rw [ln_rk, cp_rk] at h ⊢
        obtain ⟨x, y, rfl, h0, h1⟩ := sp2 h
        simp only [c_k, c_r] at h0 h1
        have q0 : partB "r" x = true := (part_same (x := x) (f := "r") (by simp)).trans h0
        have q1 : partB "k" y = true := (part_same (x := y) (f := "k") (by simp)).trans h1
        have q : (decide (([x, y] : List A).length = 2) && (zipL [114, 107] [x, y]).all fun p => partB ⟨#[p.1]⟩ p.2) = true := by simp [zipL, c_k, c_r, q0, q1]
        refine ⟨?_, q⟩
        obtain ⟨i0, rfl⟩ := lp_r h0
        obtain ⟨i1, rfl⟩ := lp_k h1
        exact .w_read i0 i1
      · rw [ln_kr, cp_kr] at h ⊢
        obtain ⟨x, y, rfl, h0, h1⟩ := sp2 h
        simp only [c_k, c_r] at h0 h1
        have q0 : partB "k" x = true := (part_same (x := x) (f := "k") (by simp)).trans h0
        have q1 : partB "r" y = true := (part_same (x := y) (f := "r") (by simp)).trans h1
        have q : (decide (([x, y] : List A).length = 2) && (zipL [107, 114] [x, y]).all fun p => partB ⟨#[p.1]⟩ p.2) = true := by simp [zipL, c_k, c_r, q0, q1]
        refine ⟨?_, q⟩
        obtain ⟨i0, rfl⟩ := lp_k h0
        obtain ⟨i1, rfl⟩ := lp_r h1
        exact .w_write i0 i1
      · exact absurd rfl (g _ _ rfl).1
      · rw [ln_l, cp_l] at h ⊢
        obtain ⟨x, rfl, h0⟩ := sp1 h
        simp only [c_l] at h0
        have q0 : partB "l" x = true := (by rw [lp_l h0]; kernel_rfl)
        have q : (decide (([x] : List A).length = 1) && (zipL [108] [x]).all fun p => partB ⟨#[p.1]⟩ p.2) = true := by simp [zipL, c_l, q0]
        refine ⟨?_, q⟩
        obtain rfl := lp_l h0
        exact .w_jump 
      · rw [ln_l, cp_l] at h ⊢
        obtain ⟨x, rfl, h0⟩ := sp1 h
        simp only [c_l] at h0
        have q0 : partB "l" x = true := (by rw [lp_l h0]; kernel_rfl)
        have q : (decide (([x] : List A).length = 1) && (zipL [108] [x]).all fun p => partB ⟨#[p.1]⟩ p.2) = true := by simp [zipL, c_l, q0]
        refine ⟨?_, q⟩
        obtain rfl := lp_l h0
        exact .w_if 
      · rw [ln_l, cp_l] at h ⊢
        obtain ⟨x, rfl, h0⟩ := sp1 h
        simp only [c_l] at h0
        have q0 : partB "l" x = true := (by rw [lp_l h0]; kernel_rfl)
        have q : (decide (([x] : List A).length = 1) && (zipL [108] [x]).all fun p => partB ⟨#[p.1]⟩ p.2) = true := by simp [zipL, c_l, q0]
        refine ⟨?_, q⟩
        obtain rfl := lp_l h0
        exact .w_unless 
      · rw [ln_f, cp_f] at h ⊢
        obtain ⟨x, rfl, h0⟩ := sp1 h
        simp only [c_f] at h0
        have q0 : partB "f" x = true := (by rw [lp_f h0]; kernel_rfl)
        have q : (decide (([x] : List A).length = 1) && (zipL [102] [x]).all fun p => partB ⟨#[p.1]⟩ p.2) = true := by simp [zipL, c_f, q0]
        refine ⟨?_, q⟩
        obtain rfl := lp_f h0
        exact .w_call 
      · rw [ln_r, cp_r] at h ⊢
        obtain ⟨x, rfl, h0⟩ := sp1 h
        simp only [c_r] at h0
        have q0 : partB "r" x = true := (part_same (x := x) (f := "r") (by simp)).trans h0
        have q : (decide (([x] : List A).length = 1) && (zipL [114] [x]).all fun p => partB ⟨#[p.1]⟩ p.2) = true := by simp [zipL, c_r, q0]
        refine ⟨?_, q⟩
        obtain ⟨i0, rfl⟩ := lp_r h0
        exact .w_callr i0
      · rw [ln_f, cp_f] at h ⊢
        obtain ⟨x, rfl, h0⟩ := sp1 h
        simp only [c_f] at h0
        have q0 : partB "f" x = true := (by rw [lp_f h0]; kernel_rfl)
        have q : (decide (([x] : List A).length = 1) && (zipL [102] [x]).all fun p => partB ⟨#[p.1]⟩ p.2) = true := by simp [zipL, c_f, q0]
        refine ⟨?_, q⟩
        obtain rfl := lp_f h0
        exact .w_tail 
      · rw [ln_o, cp_o] at h ⊢
        obtain rfl := sp0 h
        exact ⟨.w_back, rfl⟩
      · rw [ln_o, cp_o] at h ⊢
        obtain rfl := sp0 h
        exact ⟨.w_stop, rfl⟩
    · cases h
  · cases h
end K01
end
section
set_option Elab.async false
set_option linter.all false
set_option maxRecDepth 100000
set_option maxHeartbeats 1000000
namespace K01
open PySem PySem.Spec PyProof.Rows L2 Ev
theorem pb_r {x : A} (h : partB "r" x = true) : ∃ i, x = .int i := lp_r ((part_same (by simp)).symm.trans h)
theorem law_bd {v : A} (g : Good v) (ho : ∀ xs, v = .tup xs → ∀ x ∈ xs, okS x = true) (h : lawLine v = false) : lineB v = false ∨ Bd v := by
  cases hl : lineB v with
  | false => exact .inl rfl
  | true =>
    right
    unfold lineB at hl
    split at hl
    · rename_i w xs
      split at hl
      · rename_i f hf
        have hb : lawLine (.tup (.str w :: xs)) = (decide (xs.length = f.length) && (zipL f.cps.toList xs).all fun p => lawPart ⟨#[p.1]⟩ p.2) := by
          unfold lawLine
          simp only [hf]
        rw [hb] at h
        rcases forms_words hf with ⟨rfl, rfl⟩ | ⟨rfl, rfl⟩ | ⟨rfl, rfl⟩ | ⟨rfl, rfl⟩ | ⟨rfl, rfl⟩ | ⟨rfl, rfl⟩ | ⟨rfl, rfl⟩ | ⟨rfl, rfl⟩ | ⟨rfl, rfl⟩ | ⟨rfl, rfl⟩ | ⟨rfl, rfl⟩ | ⟨rfl, rfl⟩ | ⟨rfl, rfl⟩ | ⟨rfl, rfl⟩ | ⟨rfl, rfl⟩ | ⟨rfl, rfl⟩ | ⟨rfl, rfl⟩ | ⟨rfl, rfl⟩ | ⟨rfl, rfl⟩ | ⟨rfl, rfl⟩ | ⟨rfl, rfl⟩ | ⟨rfl, rfl⟩ | ⟨rfl, rfl⟩
        · rw [ln_rn, cp_rn] at h hl
          obtain ⟨x, y, rfl, h0, h1⟩ := sp2 hl
          simp only [c_n, c_r] at h0 h1
          have q0 : lawPart "r" x = true := (part_same (x := x) (f := "r") (by simp)).symm.trans h0
          have q1 : lawPart "n" y = true := (part_same (x := y) (f := "n") (by simp)).symm.trans h1
          simp [zipL, c_n, c_r, q0, q1] at h
        · rw [ln_rr, cp_rr] at h hl
          obtain ⟨x, y, rfl, h0, h1⟩ := sp2 hl
          simp only [c_r] at h0 h1
          have q0 : lawPart "r" x = true := (part_same (x := x) (f := "r") (by simp)).symm.trans h0
          have q1 : lawPart "r" y = true := (part_same (x := y) (f := "r") (by simp)).symm.trans h1
          simp [zipL, c_r, q0, q1] at h
        · rw [ln_rrr, cp_rrr] at h hl
          obtain ⟨x, y, z, rfl, h0, h1, h2⟩ := sp3 hl
          simp only [c_r] at h0 h1 h2
          have q0 : lawPart "r" x = true := (part_same (x := x) (f := "r") (by simp)).symm.trans h0
          have q1 : lawPart "r" y = true := (part_same (x := y) (f := "r") (by simp)).symm.trans h1
          have q2 : lawPart "r" z = true := (part_same (x := z) (f := "r") (by simp)).symm.trans h2
          simp [zipL, c_r, q0, q1, q2] at h
        · rw [ln_rrr, cp_rrr] at h hl
          obtain ⟨x, y, z, rfl, h0, h1, h2⟩ := sp3 hl
          simp only [c_r] at h0 h1 h2
          have q0 : lawPart "r" x = true := (part_same (x := x) (f := "r") (by simp)).symm.trans h0
          have q1 : lawPart "r" y = true := (part_same (x := y) (f := "r") (by simp)).symm.trans h1
          have q2 : lawPart "r" z = true := (part_same (x := z) (f := "r") (by simp)).symm.trans h2
          simp [zipL, c_r, q0, q1, q2] at h
        · rw [ln_rrr, cp_rrr] at h hl
          obtain ⟨x, y, z, rfl, h0, h1, h2⟩ := sp3 hl
          simp only [c_r] at h0 h1 h2
          have q0 : lawPart "r" x = true := (part_same (x := x) (f := "r") (by simp)).symm.trans h0
          have q1 : lawPart "r" y = true := (part_same (x := y) (f := "r") (by simp)).symm.trans h1
          have q2 : lawPart "r" z = true := (part_same (x := z) (f := "r") (by simp)).symm.trans h2
          simp [zipL, c_r, q0, q1, q2] at h
        · rw [ln_rf, cp_rf] at h hl
          obtain ⟨x, y, rfl, h0, h1⟩ := sp2 hl
          simp only [c_f, c_r] at h0 h1
          have q0 : lawPart "r" x = true := (part_same (x := x) (f := "r") (by simp)).symm.trans h0
          rw [part_f] at h1
          obtain ⟨i, rfl⟩ := pb_r h0
          obtain ⟨z, rfl⟩ := isW_str h1
          simp [zipL, c_f, c_r, q0, law_f, isTx] at h
          exact .addr i z h h1 (ho _ rfl _ (by simp))
        · rw [ln_rr, cp_rr] at h hl
          obtain ⟨x, y, rfl, h0, h1⟩ := sp2 hl
          simp only [c_r] at h0 h1
          have q0 : lawPart "r" x = true := (part_same (x := x) (f := "r") (by simp)).symm.trans h0
          have q1 : lawPart "r" y = true := (part_same (x := y) (f := "r") (by simp)).symm.trans h1
          simp [zipL, c_r, q0, q1] at h
        · rw [ln_rr, cp_rr] at h hl
          obtain ⟨x, y, rfl, h0, h1⟩ := sp2 hl
          simp only [c_r] at h0 h1
          have q0 : lawPart "r" x = true := (part_same (x := x) (f := "r") (by simp)).symm.trans h0
          have q1 : lawPart "r" y = true := (part_same (x := y) (f := "r") (by simp)).symm.trans h1
          simp [zipL, c_r, q0, q1] at h
        · rw [ln_r, cp_r] at h hl
          obtain ⟨x, rfl, h0⟩ := sp1 hl
          simp only [c_r] at h0
          have q0 : lawPart "r" x = true := (part_same (x := x) (f := "r") (by simp)).symm.trans h0
          simp [zipL, c_r, q0] at h
        · rw [ln_r, cp_r] at h hl
          obtain ⟨x, rfl, h0⟩ := sp1 hl
          simp only [c_r] at h0
          have q0 : lawPart "r" x = true := (part_same (x := x) (f := "r") (by simp)).symm.trans h0
          simp [zipL, c_r, q0] at h
        · rw [ln_x, cp_x] at h hl
          obtain ⟨x, rfl, h0⟩ := sp1 hl
          simp only [c_x] at h0
          have q0 : lawPart "x" x = true := (part_same (x := x) (f := "x") (by simp)).symm.trans h0
          simp [zipL, c_x, q0] at h
        · rw [ln_x, cp_x] at h hl
          obtain ⟨x, rfl, h0⟩ := sp1 hl
          simp only [c_x] at h0
          have q0 : lawPart "x" x = true := (part_same (x := x) (f := "x") (by simp)).symm.trans h0
          simp [zipL, c_x, q0] at h
        · rw [ln_rk, cp_rk] at h hl
          obtain ⟨x, y, rfl, h0, h1⟩ := sp2 hl
          simp only [c_k, c_r] at h0 h1
          have q0 : lawPart "r" x = true := (part_same (x := x) (f := "r") (by simp)).symm.trans h0
          have q1 : lawPart "k" y = true := (part_same (x := y) (f := "k") (by simp)).symm.trans h1
          simp [zipL, c_k, c_r, q0, q1] at h
        · rw [ln_kr, cp_kr] at h hl
          obtain ⟨x, y, rfl, h0, h1⟩ := sp2 hl
          simp only [c_k, c_r] at h0 h1
          have q0 : lawPart "k" x = true := (part_same (x := x) (f := "k") (by simp)).symm.trans h0
          have q1 : lawPart "r" y = true := (part_same (x := y) (f := "r") (by simp)).symm.trans h1
          simp [zipL, c_k, c_r, q0, q1] at h
        · exact absurd rfl (g _ _ rfl).1
        · rw [ln_l, cp_l] at h hl
          obtain ⟨x, rfl, h0⟩ := sp1 hl
          simp only [c_l] at h0
          rw [part_l] at h0
          obtain ⟨z, rfl⟩ := isW_str h0
          simp [zipL, c_l, law_l, isTx] at h
          exact .jump _ z (by simp) h (fun e => (g _ _ rfl).2 (.str z) (by simp) (by rw [e])) h0 (ho _ rfl _ (by simp))
        · rw [ln_l, cp_l] at h hl
          obtain ⟨x, rfl, h0⟩ := sp1 hl
          simp only [c_l] at h0
          rw [part_l] at h0
          obtain ⟨z, rfl⟩ := isW_str h0
          simp [zipL, c_l, law_l, isTx] at h
          exact .jump _ z (by simp) h (fun e => (g _ _ rfl).2 (.str z) (by simp) (by rw [e])) h0 (ho _ rfl _ (by simp))
        · rw [ln_l, cp_l] at h hl
          obtain ⟨x, rfl, h0⟩ := sp1 hl
          simp only [c_l] at h0
          rw [part_l] at h0
          obtain ⟨z, rfl⟩ := isW_str h0
          simp [zipL, c_l, law_l, isTx] at h
          exact .jump _ z (by simp) h (fun e => (g _ _ rfl).2 (.str z) (by simp) (by rw [e])) h0 (ho _ rfl _ (by simp))
        · rw [ln_f, cp_f] at h hl
          obtain ⟨x, rfl, h0⟩ := sp1 hl
          simp only [c_f] at h0
          rw [part_f] at h0
          obtain ⟨z, rfl⟩ := isW_str h0
          simp [zipL, c_f, law_f, isTx] at h
          exact .call _ z (by simp) h h0 (ho _ rfl _ (by simp))
        · rw [ln_r, cp_r] at h hl
          obtain ⟨x, rfl, h0⟩ := sp1 hl
          simp only [c_r] at h0
          have q0 : lawPart "r" x = true := (part_same (x := x) (f := "r") (by simp)).symm.trans h0
          simp [zipL, c_r, q0] at h
        · rw [ln_f, cp_f] at h hl
          obtain ⟨x, rfl, h0⟩ := sp1 hl
          simp only [c_f] at h0
          rw [part_f] at h0
          obtain ⟨z, rfl⟩ := isW_str h0
          simp [zipL, c_f, law_f, isTx] at h
          exact .call _ z (by simp) h h0 (ho _ rfl _ (by simp))
        · rw [ln_o, cp_o] at h hl
          obtain rfl := sp0 hl
          simp [zipL] at h
        · rw [ln_o, cp_o] at h hl
          obtain rfl := sp0 hl
          simp [zipL] at h
      · cases hl
    · cases hl
end K01
end
section
set_option Elab.async false
set_option linter.all false
set_option maxRecDepth 100000
set_option maxHeartbeats 1000000
namespace K01
open PySem PySem.Spec PyProof.Rows L2 Ev
def lns (d : Nat) (v : A) : List A := List.replicate d (.tup [.str "out", .int 0]) ++ [.tup [.str "jump", .str "b"], v, .tup [.str "mark", .str "a"], .tup [.str "mark", .str "b"], .tup [.str "stop"]]
def isT : Res A → Bool
  | .ok (.bl b) _ => b
  | _ => false
theorem isT_ok {r : Res A} (h : isT r = true) : ∃ t, r = .ok (.bl true) t := by
  cases r with
  | ok a t =>
    cases a with
    | bl b => cases b with
      | true => exact ⟨t, rfl⟩
      | false => cases h
    | _ => cases h
  | _ => cases h
theorem tidy0 {v : A} (s : Sh v) : isT (runF 3 m_is_tidy [] [.tup (lns 0 v)] []) = true := by
  cases s <;> kernel_rfl
theorem tidy1 {v : A} (s : Sh v) : isT (runF 3 m_is_tidy [] [.tup (lns 1 v)] []) = true := by
  cases s <;> kernel_rfl
theorem tidy2 {v : A} (s : Sh v) : isT (runF 3 m_is_tidy [] [.tup (lns 2 v)] []) = true := by
  cases s <;> kernel_rfl
end K01
end
section
set_option Elab.async false
set_option linter.all false
set_option maxRecDepth 100000
set_option maxHeartbeats 1000000
namespace K01
open PySem PySem.Spec PyProof.Rows L2 Ev
noncomputable def mInner (B : List O) : MS := (mSeq (mIf (mOr (mNot (mTest (mCallF B 1 f_is_line (mCons (mVar 7) mNil)))) (mOr (mTest (mBin (fSIn B false) (mBin (fIx B) (mVar 7) (mCon (.int 0))) (mVar 1))) (mAnd (mTest (mBin (fIs true) (mCallF B 1 f_named (mCons (mVar 7) mNil)) (mCon .non))) (mTest (mBin (fDIn B true) (mCallF B 1 f_named (mCons (mVar 7) mNil)) (mVar 0)))))) (mRaise B 1 ["name", "index"] f_own_copy (mCons (mVar 2) (mCons (mVar 6) mNil))) mNext) (mSeq (mIf (mOr (mAnd (mTest (mBin (fEq B false) (mBin (fIx B) (mVar 7) (mCon (.int 0))) (mCon (.str "mark")))) (mTest (mBin (fDIn B false) (mBin (fIx B) (mVar 7) (mCon (.int 1))) (mVar 5)))) (mAnd (mTest (mBin (fIs true) (mCallF B 1 f_label_of (mCons (mVar 7) mNil)) (mCon .non))) (mTest (mBin (fSIn B true) (mBin (fIx B) (mVar 7) (mCon (.int 1))) (mVar 3))))) (mRaise B 1 ["name", "index"] f_own_copy (mCons (mVar 2) (mCons (mVar 6) mNil))) mNext) (mIf (mTest (mBin (fEq B false) (mBin (fIx B) (mVar 7) (mCon (.int 0))) (mCon (.str "mark")))) (mAsg (gSubA B (mVar 5) (mBin (fIx B) (mVar 7) (mCon (.int 1)))) (mCon (.bl true))) mNext)))
theorem need_lines_eq {B : List O} : m_need_lines B = (mForS B (mIN B ksA (mVar 0)) (gN 2) (mSeq (mPar [4, 5] (mCons (mBin (fDGet B) (mVar 0) (mVar 2)) (mCons (mDic0 B) mNil))) (mSeq (mAsg (gN 3) (mLc B [7] (mISeq B (mVar 4)) (gN 7) (mAnd (mTest (mCallF B 1 f_is_line (mCons (mVar 7) mNil))) (mTest (mBin (fEq B false) (mBin (fIx B) (mVar 7) (mCon (.int 0))) (mCon (.str "mark"))))) (mBin (fIx B) (mVar 7) (mCon (.int 1))))) (mForS B (mIEnum B (mCons (mVar 4) mNil)) (gT [6, 7]) (mInner B))))) := rfl
theorem own_copy_str {B T : List O} {z : Str} : f_own_copy B [.str z] T = .ok (.str z) T := by
  refine gc_ok0 ?_ rfl
  have h1 := isi (B := B) (t := T) (x := .str z) (m := "str") (n := "list") (b := false) rfl (by kernel_rfl)
  have h2 := isi (B := B) (t := T) (x := .str z) (m := "str") (n := "tuple") (b := false) rfl (by kernel_rfl)
  have h3 := isi (B := B) (t := T) (x := .str z) (m := "str") (n := "dict") (b := false) rfl (by kernel_rfl)
  simp [m_own_copy, h1, h2, h3]
theorem own_copy_int {B T : List O} {z : Int} : f_own_copy B [.int z] T = .ok (.int z) T := by
  refine gc_ok0 ?_ rfl
  have h1 := isi (B := B) (t := T) (x := .int z) (m := "int") (n := "list") (b := false) rfl (by kernel_rfl)
  have h2 := isi (B := B) (t := T) (x := .int z) (m := "int") (n := "tuple") (b := false) rfl (by kernel_rfl)
  have h3 := isi (B := B) (t := T) (x := .int z) (m := "int") (n := "dict") (b := false) rfl (by kernel_rfl)
  simp [m_own_copy, h1, h2, h3]
section
variable {B T : List O} {n lb mk : Nat} {L y w : A} {i : Int}
def sI (n lb mk : Nat) (L : A) (i : Int) (y : A) : Sl := [some (.ref n), some (.tup []), some (.str "main"), some (.ref lb), some L, some (.ref mk), some (.int i), some y]
def xI (i : Int) : List (Str × A) := [("index", .int i), ("name", .str "main")]
theorem inner_line (h0 : f_is_line B [y] T = .ok (.bl false) T) : mInner B (sI n lb mk L i y) T = .exc 1 (xI i) T := by
  simp [mInner, sI, h0, mRaise, copies, own_copy_str, own_copy_int, flds, xI]
theorem inner_name {z : Str} (h0 : f_is_line B [y] T = .ok (.bl true) T) (h1 : fIx B y (.int 0) T = .ok w T) (h2 : fSIn B false w (.tup []) T = .ok (.bl false) T) (h3 : f_named B [y] T = .ok (.str z) T) (h4 : fDIn B true (.str z) (.ref n) T = .ok (.bl true) T) : mInner B (sI n lb mk L i y) T = .exc 1 (xI i) T := by
  simp [mInner, sI, h0, h1, h2, h3, h4, isNonA, mRaise, copies, own_copy_str, own_copy_int, flds, xI]
theorem inner_label {z : Str} (h0 : f_is_line B [y] T = .ok (.bl true) T) (h1 : fIx B y (.int 0) T = .ok w T) (h2 : fSIn B false w (.tup []) T = .ok (.bl false) T) (h3 : f_named B [y] T = .ok .non T) (h4 : fEq B false w (.str "mark") T = .ok (.bl false) T) (h5 : f_label_of B [y] T = .ok (.str z) T) (h6 : fIx B y (.int 1) T = .ok (.str z) T) (h7 : fSIn B true (.str z) (.ref lb) T = .ok (.bl true) T) : mInner B (sI n lb mk L i y) T = .exc 1 (xI i) T := by
  simp [mInner, sI, h0, h1, h2, h3, h4, h5, h6, h7, isNonA, mRaise, copies, own_copy_str, own_copy_int, flds, xI]
/-- a line that passes, no mark -/
theorem inner_pass (h0 : f_is_line B [y] T = .ok (.bl true) T) (h1 : fIx B y (.int 0) T = .ok w T) (h2 : fSIn B false w (.tup []) T = .ok (.bl false) T) (h3 : f_named B [y] T = .ok .non T ∨ ∃ z, f_named B [y] T = .ok (.str z) T ∧ fDIn B true (.str z) (.ref n) T = .ok (.bl false) T) (h4 : fEq B false w (.str "mark") T = .ok (.bl false) T)
    (h5 : f_label_of B [y] T = .ok .non T ∨ ∃ z, f_label_of B [y] T = .ok (.str z) T ∧ fIx B y (.int 1) T = .ok (.str z) T ∧ fSIn B true (.str z) (.ref lb) T = .ok (.bl false) T) : mInner B (sI n lb mk L i y) T = .ok (.nx (sI n lb mk L i y)) T := by
  rcases h3 with h3 | ⟨z, h3, h31⟩ <;> rcases h5 with h5 | ⟨u, h5, h51, h52⟩
  · simp [mInner, sI, h0, h1, h2, h3, h4, h5, isNonA]
  · simp [mInner, sI, h0, h1, h2, h3, h4, h5, h51, h52, isNonA]
  · simp [mInner, sI, h0, h1, h2, h3, h31, h4, h5, isNonA]
  · simp [mInner, sI, h0, h1, h2, h3, h31, h4, h5, h51, h52, isNonA]
theorem inner_mark {z : Str} {kvs : List (Key × A)} (hb : B.length ≤ mk) (hm : (B ++ T)[mk]? = some (.dic kvs)) (hz : valA kvs (Sum.inr z) = none) (hk : kvs.length < sizeLine) (h0 : f_is_line B [y] T = .ok (.bl true) T) (h1 : fIx B y (.int 0) T = .ok (.str "mark") T) (h3 : f_named B [y] T = .ok .non T)
    (h5 : f_label_of B [y] T = .ok (.str z) T) (h51 : fIx B y (.int 1) T = .ok (.str z) T) (h52 : fSIn B true (.str z) (.ref lb) T = .ok (.bl false) T) : mInner B (sI n lb mk L i y) T = .ok (.nx (sI n lb mk L i y)) (T.set (mk - B.length) (.dic (putA kvs (Sum.inr z) (.bl true)))) := by
  have h2 : fSIn B false (.str "mark") (.tup []) T = .ok (.bl false) T := by kernel_rfl
  have h4 : fEq B false (.str "mark") (.str "mark") T = .ok (.bl true) T := by kernel_rfl
  have h6 : fDIn B false (.str z) (.ref mk) T = .ok (.bl false) T := by
    simp [fDIn, dget, hm, keyOf, hz]
  simp [mInner, sI, h0, h1, h2, h3, h4, h5, h51, h52, h6, isNonA, gSubA, gPut, hb, hm, putObj, keyOf, hk]
end
end K01
end
section
set_option Elab.async false
set_option linter.all false
set_option maxRecDepth 100000
set_option maxHeartbeats 2000000
namespace K01
open PySem PySem.Spec PyProof.Rows L2 Ev
def yO : A := .tup [.str "out", .int 0]
def yJ : A := .tup [.str "jump", .str "b"]
def yA : A := .tup [.str "mark", .str "a"]
def yB : A := .tup [.str "mark", .str "b"]
def yS : A := .tup [.str "stop"]
theorem pt_str {hp : List O} {z : Str} (h : okS (.str z) = true) : Pt hp (.str z) := ⟨⟨_, rfl⟩, h⟩
theorem pt_int {hp : List O} {z : Int} : Pt hp (.int z) := ⟨⟨_, rfl⟩, rfl⟩
theorem cand_O {hp : List O} : Cand hp yO := ⟨⟨_, rfl⟩, (fun _ h => by cases h), fun xs h x hx => by
  cases h
  rcases List.mem_cons.mp hx with rfl | hx
  · exact pt_str (by kernel_rfl)
  · rw [List.mem_singleton.mp hx]; exact pt_int⟩
theorem cand_J {hp : List O} : Cand hp yJ := ⟨⟨_, rfl⟩, (fun _ h => by cases h), fun xs h x hx => by
  cases h
  rcases List.mem_cons.mp hx with rfl | hx
  · exact pt_str (by kernel_rfl)
  · rw [List.mem_singleton.mp hx]; exact pt_str (by kernel_rfl)⟩
theorem cand_A {hp : List O} : Cand hp yA := ⟨⟨_, rfl⟩, (fun _ h => by cases h), fun xs h x hx => by
  cases h
  rcases List.mem_cons.mp hx with rfl | hx
  · exact pt_str (by kernel_rfl)
  · rw [List.mem_singleton.mp hx]; exact pt_str (by kernel_rfl)⟩
theorem cand_B {hp : List O} : Cand hp yB := ⟨⟨_, rfl⟩, (fun _ h => by cases h), fun xs h x hx => by
  cases h
  rcases List.mem_cons.mp hx with rfl | hx
  · exact pt_str (by kernel_rfl)
  · rw [List.mem_singleton.mp hx]; exact pt_str (by kernel_rfl)⟩
theorem cand_S {hp : List O} : Cand hp yS := ⟨⟨_, rfl⟩, (fun _ h => by cases h), fun xs h x hx => by
  cases h
  rw [List.mem_singleton.mp hx]; exact pt_str (by kernel_rfl)⟩
section
variable {B T : List O}
theorem il_O : f_is_line B [yO] T = .ok (.bl true) T := by rw [is_line_ok cand_O, show lineB yO = true by kernel_rfl]
theorem i0_O : fIx B yO (.int 0) T = .ok (.str "out") T := by kernel_rfl
theorem nm_O : f_named B [yO] T = .ok .non T := gc_ok0 (by kernel_rfl) rfl
theorem lb_O : f_label_of B [yO] T = .ok .non T := gc_ok0 (by kernel_rfl) rfl
theorem il_J : f_is_line B [yJ] T = .ok (.bl true) T := by rw [is_line_ok cand_J, show lineB yJ = true by kernel_rfl]
theorem i0_J : fIx B yJ (.int 0) T = .ok (.str "jump") T := by kernel_rfl
theorem nm_J : f_named B [yJ] T = .ok .non T := gc_ok0 (by kernel_rfl) rfl
theorem lb_J : f_label_of B [yJ] T = .ok (.str "b") T := gc_ok0 (by kernel_rfl) rfl
theorem i1_J : fIx B yJ (.int 1) T = .ok (.str "b") T := by kernel_rfl
theorem il_A : f_is_line B [yA] T = .ok (.bl true) T := by rw [is_line_ok cand_A, show lineB yA = true by kernel_rfl]
theorem i0_A : fIx B yA (.int 0) T = .ok (.str "mark") T := by kernel_rfl
theorem nm_A : f_named B [yA] T = .ok .non T := gc_ok0 (by kernel_rfl) rfl
theorem lb_A : f_label_of B [yA] T = .ok (.str "a") T := gc_ok0 (by kernel_rfl) rfl
theorem i1_A : fIx B yA (.int 1) T = .ok (.str "a") T := by kernel_rfl
theorem il_B : f_is_line B [yB] T = .ok (.bl true) T := by rw [is_line_ok cand_B, show lineB yB = true by kernel_rfl]
theorem i0_B : fIx B yB (.int 0) T = .ok (.str "mark") T := by kernel_rfl
theorem nm_B : f_named B [yB] T = .ok .non T := gc_ok0 (by kernel_rfl) rfl
theorem lb_B : f_label_of B [yB] T = .ok (.str "b") T := gc_ok0 (by kernel_rfl) rfl
theorem i1_B : fIx B yB (.int 1) T = .ok (.str "b") T := by kernel_rfl
theorem il_S : f_is_line B [yS] T = .ok (.bl true) T := by rw [is_line_ok cand_S, show lineB yS = true by kernel_rfl]
theorem i0_S : fIx B yS (.int 0) T = .ok (.str "stop") T := by kernel_rfl
theorem nm_S : f_named B [yS] T = .ok .non T := gc_ok0 (by kernel_rfl) rfl
theorem lb_S : f_label_of B [yS] T = .ok .non T := gc_ok0 (by kernel_rfl) rfl
theorem nb_out : fSIn B false (.str "out") (.tup []) T = .ok (.bl false) T := by kernel_rfl
theorem nk_out : fEq B false (.str "out") (.str "mark") T = .ok (.bl false) T := by kernel_rfl
theorem nb_jump : fSIn B false (.str "jump") (.tup []) T = .ok (.bl false) T := by kernel_rfl
theorem nk_jump : fEq B false (.str "jump") (.str "mark") T = .ok (.bl false) T := by kernel_rfl
theorem nb_stop : fSIn B false (.str "stop") (.tup []) T = .ok (.bl false) T := by kernel_rfl
theorem nk_stop : fEq B false (.str "stop") (.str "mark") T = .ok (.bl false) T := by kernel_rfl
end
/-- the heap in need_lines' second loop -/
def TT (t : List O) (m : List (Key × A)) : List O := t ++ [.dic m, .lst [.str "a", .str "b"]]
section
variable {B t : List O} {m : List (Key × A)} {n : Nat} {L : A} {i : Int}
theorem TT_dic : (B ++ TT t m)[B.length + t.length]? = some (.dic m) := by unfold TT; rw [get_new]; rfl
theorem TT_lst : rdL (B ++ TT t m) (B.length + (t.length + 1)) = some [.str "a", .str "b"] := by unfold rdL TT; rw [get_newK]; rfl
theorem TT_set {m' : List (Key × A)} : (TT t m).set (B.length + t.length - B.length) (.dic m') = TT t m' := by
  unfold TT
  rw [Nat.add_sub_cancel_left, List.set_append_right _ _ (Nat.le_refl _), Nat.sub_self]
  rfl
theorem TT_in {z : Str} : fSIn B true (.str z) (.ref (B.length + (t.length + 1))) (TT t m) = .ok (.bl (!(decide (z = "a") || decide (z = "b")))) (TT t m) := by
  have e : seqOf (B ++ TT t m) (.ref (B.length + (t.length + 1))) = some [.str "a", .str "b"] := TT_lst
  unfold fSIn
  rw [e]
  show Res.ok (A.bl (!inV (.str z) [.str "a", .str "b"])) _ = _
  have e2 : inV (.str z) [.str "a", .str "b"] = (decide (z = "a") || decide (z = "b")) := by
    show (((("a" : Str) == z) || ((("b" : Str) == z) || false))) = _
    by_cases h1 : z = "a"
    · subst h1; simp
    · have h1' : ((("a" : Str) == z)) = false := by simpa using fun q => h1 q.symm
      by_cases h2 : z = "b"
      · subst h2; simp
      · have h2' : ((("b" : Str) == z)) = false := by simpa using fun q => h2 q.symm
        rw [h1', h2']; simp [h1, h2]
  rw [e2]
theorem TT_in_a : fSIn B true (.str "a") (.ref (B.length + (t.length + 1))) (TT t m) = .ok (.bl false) (TT t m) := by rw [TT_in]; simp
theorem TT_in_b : fSIn B true (.str "b") (.ref (B.length + (t.length + 1))) (TT t m) = .ok (.bl false) (TT t m) := by rw [TT_in]; simp
theorem turn_O : mInner B (sI n (B.length + (t.length + 1)) (B.length + t.length) L i yO) (TT t m) = .ok (.nx (sI n (B.length + (t.length + 1)) (B.length + t.length) L i yO)) (TT t m) :=
  inner_pass il_O i0_O nb_out (.inl nm_O) nk_out (.inl lb_O)
theorem turn_J : mInner B (sI n (B.length + (t.length + 1)) (B.length + t.length) L i yJ) (TT t m) = .ok (.nx (sI n (B.length + (t.length + 1)) (B.length + t.length) L i yJ)) (TT t m) :=
  inner_pass il_J i0_J nb_jump (.inl nm_J) nk_jump (.inr ⟨_, lb_J, i1_J, TT_in_b⟩)
theorem turn_S : mInner B (sI n (B.length + (t.length + 1)) (B.length + t.length) L i yS) (TT t m) = .ok (.nx (sI n (B.length + (t.length + 1)) (B.length + t.length) L i yS)) (TT t m) :=
  inner_pass il_S i0_S nb_stop (.inl nm_S) nk_stop (.inl lb_S)
theorem turn_A : mInner B (sI n (B.length + (t.length + 1)) (B.length + t.length) L i yA) (TT t []) = .ok (.nx (sI n (B.length + (t.length + 1)) (B.length + t.length) L i yA)) (TT t [(Sum.inr "a", .bl true)]) := by
  have h := inner_mark (n := n) (L := L) (i := i) (y := yA) (Nat.le_add_right _ _) (TT_dic (B := B) (t := t) (m := [])) (z := "a") rfl (by decide) il_A i0_A nm_A lb_A i1_A TT_in_a
  rw [TT_set] at h
  exact h
theorem turn_B : mInner B (sI n (B.length + (t.length + 1)) (B.length + t.length) L i yB) (TT t [(Sum.inr "a", .bl true)]) = .ok (.nx (sI n (B.length + (t.length + 1)) (B.length + t.length) L i yB)) (TT t [(Sum.inr "a", .bl true), (Sum.inr "b", .bl true)]) := by
  have h := inner_mark (n := n) (L := L) (i := i) (y := yB) (Nat.le_add_right _ _) (TT_dic (B := B) (t := t) (m := [(Sum.inr "a", .bl true)])) (z := "b") (by kernel_rfl) (by decide) il_B i0_B nm_B lb_B i1_B TT_in_b
  rw [TT_set] at h
  exact h
end
end K01
end
section
set_option Elab.async false
set_option linter.all false
set_option maxRecDepth 100000
set_option maxHeartbeats 2000000
namespace K01
open PySem PySem.Spec PyProof.Rows L2 Ev
def isMk : A → Bool
  | .tup (.str w :: _) => decide (w = "mark")
  | _ => false
def sec : A → A
  | .tup (_ :: x :: _) => x
  | _ => .non
theorem strOk_mark : PyData.strOk "mark" = true := by kernel_rfl
theorem test_c {B T : List O} {s : Sl} {y : A} (c : Cand (B ++ T) y) (hs : s[7]? = some (some y)) : mAnd (mTest (mCallF B 1 f_is_line (mCons (mVar 7) mNil))) (mTest (mBin (fEq B false) (mBin (fIx B) (mVar 7) (mCon (.int 0))) (mCon (.str "mark")))) s T = .ok (lineB y && isMk y) T := by
  have h := is_line_ok c
  cases hl : lineB y with
  | false =>
    rw [hl] at h
    simp [hs, h]
  | true =>
    rw [hl] at h
    have hl' := hl
    unfold lineB at hl
    split at hl
    · rename_i w xs
      have h1 : fIx B (.tup (.str w :: xs)) (.int 0) T = .ok (.str w) T := by simp [fIx, seqOf, at0]
      obtain ⟨_, ho⟩ := c.pt _ rfl (.str w) List.mem_cons_self
      have h2 := eq_str (B := B) (t := T) (neg := false) (okS_ok ho) strOk_mark
      simp [hs, h, h1, h2, isMk]
    · cases hl
theorem lns_mem {d : Nat} {v y : A} (h : y ∈ lns d v) : y = yO ∨ y = yJ ∨ y = v ∨ y = yA ∨ y = yB ∨ y = yS := by
  unfold lns at h
  rcases List.mem_append.mp h with q | q
  · exact .inl (List.eq_of_mem_replicate q)
  · have q' : y = yJ ∨ y = v ∨ y = yA ∨ y = yB ∨ y = yS := by simpa [yJ, yA, yB, yS] using q
    exact .inr q'
theorem cand_lns {hp : List O} {d : Nat} {v : A} (c : Cand hp v) {y : A} (h : y ∈ lns d v) : Cand hp y := by
  rcases lns_mem h with rfl | rfl | rfl | rfl | rfl | rfl
  · exact cand_O
  · exact cand_J
  · exact c
  · exact cand_A
  · exact cand_B
  · exact cand_S
theorem c_O : (lineB yO && isMk yO) = false := by kernel_rfl
theorem c_J : (lineB yJ && isMk yJ) = false := by kernel_rfl
theorem c_S : (lineB yS && isMk yS) = false := by kernel_rfl
theorem c_A : (lineB yA && isMk yA) = true := by kernel_rfl
theorem c_B : (lineB yB && isMk yB) = true := by kernel_rfl
theorem labels {d : Nat} {v : A} (hv : (lineB v && isMk v) = false) : ((lns d v).filter fun y => lineB y && isMk y).map sec = [.str "a", .str "b"] := by
  have e : (List.replicate d yO).filter (fun y => lineB y && isMk y) = [] := by
    rw [List.filter_eq_nil_iff]
    intro a ha
    rw [List.eq_of_mem_replicate ha, c_O]
    simp
  have e1 : lns d v = List.replicate d yO ++ [yJ, v, yA, yB, yS] := rfl
  rw [e1, List.filter_append, e, List.nil_append, List.filter_cons_of_neg (by rw [c_J]; simp), List.filter_cons_of_neg (by rw [hv]; simp), List.filter_cons_of_pos (p := fun y => lineB y && isMk y) c_A, List.filter_cons_of_pos (p := fun y => lineB y && isMk y) c_B, List.filter_cons_of_neg (by rw [c_S]; simp)]
  rfl
theorem lns_len {d : Nat} {v : A} : (lns d v).length = d + 5 := by simp [lns]
noncomputable def mLab (B : List O) : ME := mLc B [7] (mISeq B (mVar 4)) (gN 7) (mAnd (mTest (mCallF B 1 f_is_line (mCons (mVar 7) mNil))) (mTest (mBin (fEq B false) (mBin (fIx B) (mVar 7) (mCon (.int 0))) (mCon (.str "mark"))))) (mBin (fIx B) (mVar 7) (mCon (.int 1)))
theorem lab_ok {B T : List O} {d n k : Nat} {v : A} (hd : d < 3) (c : Cand (B ++ T) v) (hv : (lineB v && isMk v) = false) :
    mLab B [some (.ref n), some (.tup []), some (.str "main"), none, some (.tup (lns d v)), some (.ref k), none, none] T = .ok (.ref (B.length + T.length)) (T ++ [.lst [.str "a", .str "b"]]) := by
  have e := mLc_itL (B := B) (t := T) (vs := [7]) (mi := mISeq B (mVar 4)) (g := gN 7) (mt := mAnd (mTest (mCallF B 1 f_is_line (mCons (mVar 7) mNil))) (mTest (mBin (fEq B false) (mBin (fIx B) (mVar 7) (mCon (.int 0))) (mCon (.str "mark"))))) (me := mBin (fIx B) (mVar 7) (mCon (.int 1))) (s := [some (.ref n), some (.tup []), some (.str "main"), none, some (.tup (lns d v)), some (.ref k), none, none])
    (c := fun y => lineB y && isMk y) (f := sec) (ys := lns d v) rfl (by rw [lns_len]; exact Nat.le_trans (by omega : d + 5 ≤ 8) (by decide)) (fun y hy => by
      refine ⟨_, rfl, test_c (cand_lns c hy) rfl, fun hc => ?_⟩
      rcases lns_mem hy with rfl | rfl | rfl | rfl | rfl | rfl
      · rw [c_O] at hc; cases hc
      · rw [c_J] at hc; cases hc
      · rw [hv] at hc; cases hc
      · kernel_rfl
      · kernel_rfl
      · rw [c_S] at hc; cases hc)
  rw [labels hv] at e
  exact e
/-- the second loop -/
theorem for_cons {B t : List O} {g : MG} {mb : MS} {s : Sl} {ys zs us : List A} {y : A} (h : ys = zs ++ y :: us) : mFor B (itL ys) g mb (us.length + 1) s t = (g y s t).bind fun s1 t1 => (mb s1 t1).bind fun fl t2 => match fl with
      | .nx s2 => mFor B (itL ys) g mb us.length s2 t2
      | .ct s2 => mFor B (itL ys) g mb us.length s2 t2
      | .bk s2 => .ok (.nx s2) t2
      | .rt a => .ok (.rt a) t2 := by
  have e : (itL ys).get ((itL ys).n - (us.length + 1)) (B ++ t) = some y := by
    show ys[ys.length - (us.length + 1)]? = some y
    have hl : ys.length - (us.length + 1) = zs.length := by rw [h]; simp
    rw [hl, h]
    simp
  conv => lhs; unfold mFor
  rw [e]
  all_goals rfl
end K01
end
section
set_option Elab.async false
set_option linter.all false
set_option maxRecDepth 100000
set_option maxHeartbeats 2000000
namespace K01
open PySem PySem.Spec PyProof.Rows L2 Ev
theorem gc_some {mf : MF} {B t t1 j : List O} {as : List A} {a : A} (h : mf B as t = .ok a (t1 ++ j)) (hl : t1.length = t.length) : ∃ j', gcF mf B as t = .ok a (t1 ++ j') := by
  unfold gcF
  rw [h]
  have e : (t1 ++ j).take t.length = t1 := by rw [← hl]; simp
  simp only [cutR, e]
  split
  · exact ⟨[], by simp⟩
  · split
    · rename_i h2
      have e3 := h2.2.symm.trans e
      exact ⟨[], by rw [List.append_nil, ← e3]⟩
    · exact ⟨j, rfl⟩
def sX (n lb mk : Nat) (L : A) (a b : Option A) : Sl := [some (.ref n), some (.tup []), some (.str "main"), some (.ref lb), some L, some (.ref mk), a, b]
section
variable {B T T' : List O} {n lb mk i : Nat} {L y : A} {a b : Option A} {ys zs us : List A}
theorem loop_nx (h : ys = zs ++ numb i y :: us) (ht : mInner B (sI n lb mk L i y) T = .ok (.nx (sI n lb mk L i y)) T') : mFor B (itL ys) (gT [6, 7]) (mInner B) (us.length + 1) (sX n lb mk L a b) T = mFor B (itL ys) (gT [6, 7]) (mInner B) us.length (sX n lb mk L (some (.int i)) (some y)) T' := by
  refine (for_cons h).trans ?_
  have e : gT [6, 7] (numb i y) (sX n lb mk L a b) T = .ok (sI n lb mk L i y) T := rfl
  rw [e, bind_ok, ht, bind_ok]
  rfl
theorem loop_exc {c : Nat} {fs : List (Str × A)} (h : ys = zs ++ numb i y :: us) (ht : mInner B (sI n lb mk L i y) T = .exc c fs T') : mFor B (itL ys) (gT [6, 7]) (mInner B) (us.length + 1) (sX n lb mk L a b) T = .exc c fs T' := by
  refine (for_cons h).trans ?_
  have e : gT [6, 7] (numb i y) (sX n lb mk L a b) T = .ok (sI n lb mk L i y) T := rfl
  rw [e, bind_ok, ht]
  rfl
end
section
variable {B t : List O} {n : Nat} {v L : A}
theorem loop0_exc (hv : mInner B (sI n (B.length + (t.length + 1)) (B.length + t.length) L 1 v) (TT t []) = .exc 1 (xI 1) (TT t [])) : mFor B (itL (numbs 0 (lns 0 v))) (gT [6, 7]) (mInner B) 5 (sX n (B.length + (t.length + 1)) (B.length + t.length) L none none) (TT t []) = .exc 1 (xI 1) (TT t []) := by
  refine (loop_nx (i := 0) (zs := []) (us := [numb 1 v, numb 2 yA, numb 3 yB, numb 4 yS]) rfl turn_J).trans ?_
  exact loop_exc (i := 1) (zs := [numb 0 yJ]) (us := [numb 2 yA, numb 3 yB, numb 4 yS]) rfl hv
theorem loop0_ok (hv : mInner B (sI n (B.length + (t.length + 1)) (B.length + t.length) L 1 v) (TT t []) = .ok (.nx (sI n (B.length + (t.length + 1)) (B.length + t.length) L 1 v)) (TT t [])) : mFor B (itL (numbs 0 (lns 0 v))) (gT [6, 7]) (mInner B) 5 (sX n (B.length + (t.length + 1)) (B.length + t.length) L none none) (TT t []) = .ok (.nx (sX n (B.length + (t.length + 1)) (B.length + t.length) L (some (.int 4)) (some yS))) (TT t [(Sum.inr "a", .bl true), (Sum.inr "b", .bl true)]) := by
  refine (loop_nx (i := 0) (zs := []) (us := [numb 1 v, numb 2 yA, numb 3 yB, numb 4 yS]) rfl turn_J).trans ?_
  refine (loop_nx (i := 1) (zs := [numb 0 yJ]) (us := [numb 2 yA, numb 3 yB, numb 4 yS]) rfl hv).trans ?_
  refine (loop_nx (i := 2) (zs := [numb 0 yJ, numb 1 v]) (us := [numb 3 yB, numb 4 yS]) rfl turn_A).trans ?_
  refine (loop_nx (i := 3) (zs := [numb 0 yJ, numb 1 v, numb 2 yA]) (us := [numb 4 yS]) rfl turn_B).trans ?_
  refine (loop_nx (i := 4) (zs := [numb 0 yJ, numb 1 v, numb 2 yA, numb 3 yB]) (us := []) rfl turn_S).trans ?_
  rfl
theorem loop1_exc (hv : mInner B (sI n (B.length + (t.length + 1)) (B.length + t.length) L 2 v) (TT t []) = .exc 1 (xI 2) (TT t [])) : mFor B (itL (numbs 0 (lns 1 v))) (gT [6, 7]) (mInner B) 6 (sX n (B.length + (t.length + 1)) (B.length + t.length) L none none) (TT t []) = .exc 1 (xI 2) (TT t []) := by
  refine (loop_nx (i := 0) (zs := []) (us := [numb 1 yJ, numb 2 v, numb 3 yA, numb 4 yB, numb 5 yS]) rfl turn_O).trans ?_
  refine (loop_nx (i := 1) (zs := [numb 0 yO]) (us := [numb 2 v, numb 3 yA, numb 4 yB, numb 5 yS]) rfl turn_J).trans ?_
  exact loop_exc (i := 2) (zs := [numb 0 yO, numb 1 yJ]) (us := [numb 3 yA, numb 4 yB, numb 5 yS]) rfl hv
theorem loop1_ok (hv : mInner B (sI n (B.length + (t.length + 1)) (B.length + t.length) L 2 v) (TT t []) = .ok (.nx (sI n (B.length + (t.length + 1)) (B.length + t.length) L 2 v)) (TT t [])) : mFor B (itL (numbs 0 (lns 1 v))) (gT [6, 7]) (mInner B) 6 (sX n (B.length + (t.length + 1)) (B.length + t.length) L none none) (TT t []) = .ok (.nx (sX n (B.length + (t.length + 1)) (B.length + t.length) L (some (.int 5)) (some yS))) (TT t [(Sum.inr "a", .bl true), (Sum.inr "b", .bl true)]) := by
  refine (loop_nx (i := 0) (zs := []) (us := [numb 1 yJ, numb 2 v, numb 3 yA, numb 4 yB, numb 5 yS]) rfl turn_O).trans ?_
  refine (loop_nx (i := 1) (zs := [numb 0 yO]) (us := [numb 2 v, numb 3 yA, numb 4 yB, numb 5 yS]) rfl turn_J).trans ?_
  refine (loop_nx (i := 2) (zs := [numb 0 yO, numb 1 yJ]) (us := [numb 3 yA, numb 4 yB, numb 5 yS]) rfl hv).trans ?_
  refine (loop_nx (i := 3) (zs := [numb 0 yO, numb 1 yJ, numb 2 v]) (us := [numb 4 yB, numb 5 yS]) rfl turn_A).trans ?_
  refine (loop_nx (i := 4) (zs := [numb 0 yO, numb 1 yJ, numb 2 v, numb 3 yA]) (us := [numb 5 yS]) rfl turn_B).trans ?_
  refine (loop_nx (i := 5) (zs := [numb 0 yO, numb 1 yJ, numb 2 v, numb 3 yA, numb 4 yB]) (us := []) rfl turn_S).trans ?_
  rfl
theorem loop2_exc (hv : mInner B (sI n (B.length + (t.length + 1)) (B.length + t.length) L 3 v) (TT t []) = .exc 1 (xI 3) (TT t [])) : mFor B (itL (numbs 0 (lns 2 v))) (gT [6, 7]) (mInner B) 7 (sX n (B.length + (t.length + 1)) (B.length + t.length) L none none) (TT t []) = .exc 1 (xI 3) (TT t []) := by
  refine (loop_nx (i := 0) (zs := []) (us := [numb 1 yO, numb 2 yJ, numb 3 v, numb 4 yA, numb 5 yB, numb 6 yS]) rfl turn_O).trans ?_
  refine (loop_nx (i := 1) (zs := [numb 0 yO]) (us := [numb 2 yJ, numb 3 v, numb 4 yA, numb 5 yB, numb 6 yS]) rfl turn_O).trans ?_
  refine (loop_nx (i := 2) (zs := [numb 0 yO, numb 1 yO]) (us := [numb 3 v, numb 4 yA, numb 5 yB, numb 6 yS]) rfl turn_J).trans ?_
  exact loop_exc (i := 3) (zs := [numb 0 yO, numb 1 yO, numb 2 yJ]) (us := [numb 4 yA, numb 5 yB, numb 6 yS]) rfl hv
theorem loop2_ok (hv : mInner B (sI n (B.length + (t.length + 1)) (B.length + t.length) L 3 v) (TT t []) = .ok (.nx (sI n (B.length + (t.length + 1)) (B.length + t.length) L 3 v)) (TT t [])) : mFor B (itL (numbs 0 (lns 2 v))) (gT [6, 7]) (mInner B) 7 (sX n (B.length + (t.length + 1)) (B.length + t.length) L none none) (TT t []) = .ok (.nx (sX n (B.length + (t.length + 1)) (B.length + t.length) L (some (.int 6)) (some yS))) (TT t [(Sum.inr "a", .bl true), (Sum.inr "b", .bl true)]) := by
  refine (loop_nx (i := 0) (zs := []) (us := [numb 1 yO, numb 2 yJ, numb 3 v, numb 4 yA, numb 5 yB, numb 6 yS]) rfl turn_O).trans ?_
  refine (loop_nx (i := 1) (zs := [numb 0 yO]) (us := [numb 2 yJ, numb 3 v, numb 4 yA, numb 5 yB, numb 6 yS]) rfl turn_O).trans ?_
  refine (loop_nx (i := 2) (zs := [numb 0 yO, numb 1 yO]) (us := [numb 3 v, numb 4 yA, numb 5 yB, numb 6 yS]) rfl turn_J).trans ?_
  refine (loop_nx (i := 3) (zs := [numb 0 yO, numb 1 yO, numb 2 yJ]) (us := [numb 4 yA, numb 5 yB, numb 6 yS]) rfl hv).trans ?_
  refine (loop_nx (i := 4) (zs := [numb 0 yO, numb 1 yO, numb 2 yJ, numb 3 v]) (us := [numb 5 yB, numb 6 yS]) rfl turn_A).trans ?_
  refine (loop_nx (i := 5) (zs := [numb 0 yO, numb 1 yO, numb 2 yJ, numb 3 v, numb 4 yA]) (us := [numb 6 yS]) rfl turn_B).trans ?_
  refine (loop_nx (i := 6) (zs := [numb 0 yO, numb 1 yO, numb 2 yJ, numb 3 v, numb 4 yA, numb 5 yB]) (us := []) rfl turn_S).trans ?_
  rfl
end
/-- need_lines: the frozen dict -/
def fzD (d : Nat) (v : A) : List (Key × A) := [(Sum.inr "main", .tup (lns d v))]
section
variable {B t : List O} {n d : Nat} {v : A}
theorem nl_body {r : Res Fl} (hb : B.length ≤ n) (hn : (B ++ t)[n]? = some (.dic (fzD d v))) (hd : d < 3) (c : Cand (B ++ t.set (n - B.length) (.fz (fzD d v))) v) (hm : (lineB v && isMk v) = false)
    (hl : mFor B (itL (numbs 0 (lns d v))) (gT [6, 7]) (mInner B) (d + 5) (sX n (B.length + ((t.set (n - B.length) (.fz (fzD d v))).length + 1)) (B.length + (t.set (n - B.length) (.fz (fzD d v))).length) (.tup (lns d v)) none none) (TT (t.set (n - B.length) (.fz (fzD d v))) []) = r) :
    runF 8 m_need_lines B [.ref n, .tup []] t = (r.bind fun fl t2 => match fl with
      | .nx s2 => .ok (.nx s2) t2
      | .ct s2 => .ok (.nx s2) t2
      | .bk s2 => .ok (.nx s2) t2
      | .rt a => .ok (.rt a) t2).bind endF := by
  have h1 : onN B ksA (.ref n) t = .ok (itL [.str "main"]) (t.set (n - B.length) (.fz (fzD d v))) := by
    simp only [onN, if_pos hb, hn]
    rfl
  have h2 : (B ++ t.set (n - B.length) (.fz (fzD d v)))[n]? = some (.fz (fzD d v)) := by
    rw [← set_top hb, List.getElem?_set_self]
    exact (List.getElem?_eq_some_iff.mp hn).1
  generalize t.set (n - B.length) (.fz (fzD d v)) = t1 at *
  have h3 : fDGet B (.ref n) (.str "main") t1 = .ok (.tup (lns d v)) t1 := by
    simp only [fDGet, dget, h2]
    rfl
  have c2 : Cand (B ++ (t1 ++ [.dic []])) v := c.old
  have h4 := lab_ok (B := B) (T := t1 ++ [.dic []]) (n := n) (k := B.length + t1.length) hd c2 hm
  unfold mLab at h4
  have e5 : (B.length + (t1 ++ [O.dic []]).length) = B.length + (t1.length + 1) := by simp
  have e6 : (t1 ++ [O.dic []]) ++ [.lst [.str "a", .str "b"]] = TT t1 [] := by simp [TT]
  rw [e5, e6] at h4
  have h5 : mForS B (mIEnum B (mCons (mVar 4) mNil)) (gT [6, 7]) (mInner B) (sX n (B.length + (t1.length + 1)) (B.length + t1.length) (.tup (lns d v)) none none) (TT t1 []) = r := by
    rw [← hl]
    have e : (itL (numbs 0 (lns d v))).n = d + 5 := by
      show (numbs 0 (lns d v)).length = d + 5
      rw [numbs_len, lns_len]
    show mFor B (itL (numbs 0 (lns d v))) (gT [6, 7]) (mInner B) (itL (numbs 0 (lns d v))).n _ _ = _
    rw [e]
  rw [ev_runF, need_lines_eq]
  have hs : startA 8 [A.ref n, .tup []] = [some (.ref n), some (.tup []), none, none, none, none, none, none] := rfl
  rw [hs]
  unfold sX at h5
  simp [mForS, mIN, h1, mFor, itL, h3, h4, h5]
  unfold mForS at h5
  rw [h5]
  all_goals (cases r with
    | ok fl t => cases fl <;> rfl
    | exc => rfl
    | bad => rfl)
theorem nl_exc (hb : B.length ≤ n) (hn : (B ++ t)[n]? = some (.dic (fzD d v))) (hd : d < 3) (c : Cand (B ++ t.set (n - B.length) (.fz (fzD d v))) v) (hm : (lineB v && isMk v) = false)
    (hv : mInner B (sI n (B.length + ((t.set (n - B.length) (.fz (fzD d v))).length + 1)) (B.length + (t.set (n - B.length) (.fz (fzD d v))).length) (.tup (lns d v)) ((d : Int) + 1) v) (TT (t.set (n - B.length) (.fz (fzD d v))) []) = .exc 1 (xI ((d : Int) + 1)) (TT (t.set (n - B.length) (.fz (fzD d v))) [])) :
    f_need_lines B [.ref n, .tup []] t = .exc 1 (xI ((d : Int) + 1)) (TT (t.set (n - B.length) (.fz (fzD d v))) []) := by
  refine gc_exc ?_
  match d, hd with
  | 0, _ => exact nl_body hb hn (by decide) c hm (loop0_exc hv)
  | 1, _ => exact nl_body hb hn (by decide) c hm (loop1_exc hv)
  | 2, _ => exact nl_body hb hn (by decide) c hm (loop2_exc hv)
theorem nl_ok (hb : B.length ≤ n) (hn : (B ++ t)[n]? = some (.dic (fzD d v))) (hd : d < 3) (c : Cand (B ++ t.set (n - B.length) (.fz (fzD d v))) v) (hm : (lineB v && isMk v) = false)
    (hv : mInner B (sI n (B.length + ((t.set (n - B.length) (.fz (fzD d v))).length + 1)) (B.length + (t.set (n - B.length) (.fz (fzD d v))).length) (.tup (lns d v)) ((d : Int) + 1) v) (TT (t.set (n - B.length) (.fz (fzD d v))) []) = .ok (.nx (sI n (B.length + ((t.set (n - B.length) (.fz (fzD d v))).length + 1)) (B.length + (t.set (n - B.length) (.fz (fzD d v))).length) (.tup (lns d v)) ((d : Int) + 1) v)) (TT (t.set (n - B.length) (.fz (fzD d v))) [])) :
    ∃ j, f_need_lines B [.ref n, .tup []] t = .ok .non (t.set (n - B.length) (.fz (fzD d v)) ++ j) := by
  refine gc_some (j := [.dic [(Sum.inr "a", .bl true), (Sum.inr "b", .bl true)], .lst [.str "a", .str "b"]]) ?_ (by simp)
  match d, hd with
  | 0, _ => exact nl_body hb hn (by decide) c hm (loop0_ok hv)
  | 1, _ => exact nl_body hb hn (by decide) c hm (loop1_ok hv)
  | 2, _ => exact nl_body hb hn (by decide) c hm (loop2_ok hv)
end
end K01
end
section
set_option Elab.async false
set_option linter.all false
set_option maxRecDepth 100000
set_option maxHeartbeats 2000000
namespace K01
open PySem PySem.Spec PyProof.Rows L2 Ev
section
variable {B T t : List O} {n d : Nat} {v L : A} {i : Int} {m : List (Key × A)}
/-- what the functions' dict says -/
theorem din_main (hn : (B ++ T)[n]? = some (.fz (fzD d v))) {z : Str} : fDIn B true (.str z) (.ref n) T = .ok (.bl (!decide (z = "main"))) T := by
  have e : valA (fzD d v) (Sum.inr z) = if z = "main" then some (.tup (lns d v)) else none := by
    unfold fzD valA
    by_cases h : z = "main"
    · subst h; simp
    · have h' : ¬ (("main" : Str) = z) := fun q => h q.symm
      simp [h, h']
  simp only [fDIn, dget, hn]
  show Res.ok (A.bl (!(valA (fzD d v) (Sum.inr z)).isSome)) T = _
  rw [e]
  by_cases h : z = "main" <;> simp [h]
theorem turn_none (c : Cand (B ++ T) v) (hl : lineB v = false) {lb mk : Nat} : mInner B (sI n lb mk L i v) T = .exc 1 (xI i) T :=
  inner_line (by rw [is_line_ok c, hl])
theorem turn_bd (c : Cand (B ++ TT t m) v) (hl : lineB v = true) (hb : Bd v) {u : A} (hn : (B ++ t)[n]? = some (.fz (fzD d u))) : mInner B (sI n (B.length + (t.length + 1)) (B.length + t.length) L i v) (TT t m) = .exc 1 (xI i) (TT t m) := by
  have h0 := is_line_ok c
  rw [hl] at h0
  have hn' : (B ++ TT t m)[n]? = some (.fz (fzD d u)) := get_old hn
  cases hb with
  | addr k z h hz hs => exact inner_name (z := z) h0 (w := .str "addr") (by kernel_rfl) (by kernel_rfl) (gc_ok0 (by kernel_rfl) rfl) (by rw [din_main hn']; simp [h])
  | call w z hw h hz hs =>
    rcases hw with rfl | rfl
    · exact inner_name (z := z) h0 (w := .str "call") (by kernel_rfl) (by kernel_rfl) (gc_ok0 (by kernel_rfl) rfl) (by rw [din_main hn']; simp [h])
    · exact inner_name (z := z) h0 (w := .str "tail") (by kernel_rfl) (by kernel_rfl) (gc_ok0 (by kernel_rfl) rfl) (by rw [din_main hn']; simp [h])
  | jump w z hw h hb hz hs =>
    rcases hw with rfl | rfl | rfl
    · exact inner_label (z := z) h0 (w := .str "jump") (by kernel_rfl) (by kernel_rfl) (gc_ok0 (by kernel_rfl) rfl) (by kernel_rfl) (gc_ok0 (by kernel_rfl) rfl) (by kernel_rfl) (by rw [TT_in]; simp [h, hb])
    · exact inner_label (z := z) h0 (w := .str "if") (by kernel_rfl) (by kernel_rfl) (gc_ok0 (by kernel_rfl) rfl) (by kernel_rfl) (gc_ok0 (by kernel_rfl) rfl) (by kernel_rfl) (by rw [TT_in]; simp [h, hb])
    · exact inner_label (z := z) h0 (w := .str "unless") (by kernel_rfl) (by kernel_rfl) (gc_ok0 (by kernel_rfl) rfl) (by kernel_rfl) (gc_ok0 (by kernel_rfl) rfl) (by kernel_rfl) (by rw [TT_in]; simp [h, hb])
theorem turn_sh (c : Cand (B ++ TT t m) v) (hl : lineB v = true) (s : Sh v) {u : A} (hn : (B ++ t)[n]? = some (.fz (fzD d u))) : mInner B (sI n (B.length + (t.length + 1)) (B.length + t.length) L i v) (TT t m) = .ok (.nx (sI n (B.length + (t.length + 1)) (B.length + t.length) L i v)) (TT t m) := by
  have h0 := is_line_ok c
  rw [hl] at h0
  have hn' : (B ++ TT t m)[n]? = some (.fz (fzD d u)) := get_old hn
  have hm : fDIn B true (.str "main") (.ref n) (TT t m) = .ok (.bl false) (TT t m) := by rw [din_main hn']; simp
  cases s with
  | w_num => exact inner_pass (w := .str "num") h0 (by kernel_rfl) (by kernel_rfl) (.inl (gc_ok0 (by kernel_rfl) rfl)) (by kernel_rfl) (.inl (gc_ok0 (by kernel_rfl) rfl))
  | w_copy => exact inner_pass (w := .str "copy") h0 (by kernel_rfl) (by kernel_rfl) (.inl (gc_ok0 (by kernel_rfl) rfl)) (by kernel_rfl) (.inl (gc_ok0 (by kernel_rfl) rfl))
  | w_add => exact inner_pass (w := .str "add") h0 (by kernel_rfl) (by kernel_rfl) (.inl (gc_ok0 (by kernel_rfl) rfl)) (by kernel_rfl) (.inl (gc_ok0 (by kernel_rfl) rfl))
  | w_sub => exact inner_pass (w := .str "sub") h0 (by kernel_rfl) (by kernel_rfl) (.inl (gc_ok0 (by kernel_rfl) rfl)) (by kernel_rfl) (.inl (gc_ok0 (by kernel_rfl) rfl))
  | w_mul => exact inner_pass (w := .str "mul") h0 (by kernel_rfl) (by kernel_rfl) (.inl (gc_ok0 (by kernel_rfl) rfl)) (by kernel_rfl) (.inl (gc_ok0 (by kernel_rfl) rfl))
  | w_addr => exact inner_pass (w := .str "addr") h0 (by kernel_rfl) (by kernel_rfl) (.inr ⟨"main", gc_ok0 (by kernel_rfl) rfl, hm⟩) (by kernel_rfl) (.inl (gc_ok0 (by kernel_rfl) rfl))
  | w_same => exact inner_pass (w := .str "same") h0 (by kernel_rfl) (by kernel_rfl) (.inl (gc_ok0 (by kernel_rfl) rfl)) (by kernel_rfl) (.inl (gc_ok0 (by kernel_rfl) rfl))
  | w_less => exact inner_pass (w := .str "less") h0 (by kernel_rfl) (by kernel_rfl) (.inl (gc_ok0 (by kernel_rfl) rfl)) (by kernel_rfl) (.inl (gc_ok0 (by kernel_rfl) rfl))
  | w_in => exact inner_pass (w := .str "in") h0 (by kernel_rfl) (by kernel_rfl) (.inl (gc_ok0 (by kernel_rfl) rfl)) (by kernel_rfl) (.inl (gc_ok0 (by kernel_rfl) rfl))
  | w_out => exact inner_pass (w := .str "out") h0 (by kernel_rfl) (by kernel_rfl) (.inl (gc_ok0 (by kernel_rfl) rfl)) (by kernel_rfl) (.inl (gc_ok0 (by kernel_rfl) rfl))
  | w_push => exact inner_pass (w := .str "push") h0 (by kernel_rfl) (by kernel_rfl) (.inl (gc_ok0 (by kernel_rfl) rfl)) (by kernel_rfl) (.inl (gc_ok0 (by kernel_rfl) rfl))
  | w_pushL => exact inner_pass (w := .str "push") h0 (by kernel_rfl) (by kernel_rfl) (.inl (gc_ok0 (by kernel_rfl) rfl)) (by kernel_rfl) (.inl (gc_ok0 (by kernel_rfl) rfl))
  | w_pop => exact inner_pass (w := .str "pop") h0 (by kernel_rfl) (by kernel_rfl) (.inl (gc_ok0 (by kernel_rfl) rfl)) (by kernel_rfl) (.inl (gc_ok0 (by kernel_rfl) rfl))
  | w_popL => exact inner_pass (w := .str "pop") h0 (by kernel_rfl) (by kernel_rfl) (.inl (gc_ok0 (by kernel_rfl) rfl)) (by kernel_rfl) (.inl (gc_ok0 (by kernel_rfl) rfl))
  | w_read => exact inner_pass (w := .str "read") h0 (by kernel_rfl) (by kernel_rfl) (.inl (gc_ok0 (by kernel_rfl) rfl)) (by kernel_rfl) (.inl (gc_ok0 (by kernel_rfl) rfl))
  | w_write => exact inner_pass (w := .str "write") h0 (by kernel_rfl) (by kernel_rfl) (.inl (gc_ok0 (by kernel_rfl) rfl)) (by kernel_rfl) (.inl (gc_ok0 (by kernel_rfl) rfl))
  | w_jump => exact inner_pass (w := .str "jump") h0 (by kernel_rfl) (by kernel_rfl) (.inl (gc_ok0 (by kernel_rfl) rfl)) (by kernel_rfl) (.inr ⟨"a", gc_ok0 (by kernel_rfl) rfl, by kernel_rfl, TT_in_a⟩)
  | w_if => exact inner_pass (w := .str "if") h0 (by kernel_rfl) (by kernel_rfl) (.inl (gc_ok0 (by kernel_rfl) rfl)) (by kernel_rfl) (.inr ⟨"a", gc_ok0 (by kernel_rfl) rfl, by kernel_rfl, TT_in_a⟩)
  | w_unless => exact inner_pass (w := .str "unless") h0 (by kernel_rfl) (by kernel_rfl) (.inl (gc_ok0 (by kernel_rfl) rfl)) (by kernel_rfl) (.inr ⟨"a", gc_ok0 (by kernel_rfl) rfl, by kernel_rfl, TT_in_a⟩)
  | w_call => exact inner_pass (w := .str "call") h0 (by kernel_rfl) (by kernel_rfl) (.inr ⟨"main", gc_ok0 (by kernel_rfl) rfl, hm⟩) (by kernel_rfl) (.inl (gc_ok0 (by kernel_rfl) rfl))
  | w_callr => exact inner_pass (w := .str "callr") h0 (by kernel_rfl) (by kernel_rfl) (.inl (gc_ok0 (by kernel_rfl) rfl)) (by kernel_rfl) (.inl (gc_ok0 (by kernel_rfl) rfl))
  | w_tail => exact inner_pass (w := .str "tail") h0 (by kernel_rfl) (by kernel_rfl) (.inr ⟨"main", gc_ok0 (by kernel_rfl) rfl, hm⟩) (by kernel_rfl) (.inl (gc_ok0 (by kernel_rfl) rfl))
  | w_back => exact inner_pass (w := .str "back") h0 (by kernel_rfl) (by kernel_rfl) (.inl (gc_ok0 (by kernel_rfl) rfl)) (by kernel_rfl) (.inl (gc_ok0 (by kernel_rfl) rfl))
  | w_stop => exact inner_pass (w := .str "stop") h0 (by kernel_rfl) (by kernel_rfl) (.inl (gc_ok0 (by kernel_rfl) rfl)) (by kernel_rfl) (.inl (gc_ok0 (by kernel_rfl) rfl))
end
theorem sh_mk {v : A} (s : Sh v) : isMk v = false := by cases s <;> kernel_rfl
theorem bd_mk {v : A} (s : Bd v) : isMk v = false := by
  cases s with
  | addr => kernel_rfl
  | call w z hw => rcases hw with rfl | rfl <;> kernel_rfl
  | jump w z hw => rcases hw with rfl | rfl | rfl <;> kernel_rfl
end K01
end
section
set_option Elab.async false
set_option linter.all false
set_option maxRecDepth 100000
set_option maxHeartbeats 2000000
namespace K01
open PySem PySem.Spec PyProof.Rows L2 Ev
theorem mLc_map1 {B t t1 : List O} {s : Sl} {vs : List Nat} {mi : MI} {g : MG} {me : ME} {f : A → A} {ys : List A} (hi : mi s t = .ok (itL ys) t1) (hl : ys.length ≤ sizeLine) (h1 : ∀ y ∈ ys, ∃ s1, g y (wipeA s vs) t1 = .ok s1 t1 ∧ me s1 t1 = .ok (f y) t1) :
    mLc B vs mi g mYes me s t = .ok (.ref (B.length + t1.length)) (t1 ++ [.lst (ys.map f)]) := by
  have h := mLc_map (B := B) (vs := vs) (mi := fun _ _ => .ok (itL ys) t1) (g := g) (me := me) (f := f) (s := s) (t := t1) rfl hl h1
  unfold mLc at h ⊢
  rw [hi]
  exact h
section
variable {B T : List O} {n k : Nat} {X : A} {m : String}
def kvM (X : A) : List (Key × A) := [(Sum.inr "main", X)]
theorem fz_at (hb : B.length ≤ n) {o o' : O} (hn : (B ++ T)[n]? = some o) : (B ++ T.set (n - B.length) o')[n]? = some o' := by
  rw [← set_top hb, List.getElem?_set_self]
  exact (List.getElem?_eq_some_iff.mp hn).1
theorem nf_ok (hb : B.length ≤ n) (hn : (B ++ T)[n]? = some (.dic (kvM X))) (hm : m = "list" ∨ m = "tuple") (ht : tyN (B ++ T.set (n - B.length) (.fz (kvM X))) X = some m) (hk : lenA (B ++ T.set (n - B.length) (.fz (kvM X))) X = some (k + 1)) :
    ∃ j, f_need_functions B [.ref n] T = .ok .non (T.set (n - B.length) (.fz (kvM X)) ++ j) := by
  have h2 := fz_at hb hn (o' := .fz (kvM X))
  have h1 : onN B ksA (.ref n) T = .ok (itL [.str "main"]) (T.set (n - B.length) (.fz (kvM X))) := by
    simp only [onN, if_pos hb, hn]
    rfl
  have hd : fIsi B [.ref n, .ty "dict"] T = .ok (.bl true) T := isi (m := "dict") (by simp [tyN, hn]) (by kernel_rfl)
  have hl : fLen B [.ref n] T = .ok (.int 1) T := by simp [fLen, lenA, hn, kvM]
  have hi : fDIn B true (.str "main") (.ref n) T = .ok (.bl false) T := by
    simp only [fDIn, dget, hn]
    rfl
  have hlen : (T.set (n - B.length) (.fz (kvM X))).length = T.length := by simp
  generalize T.set (n - B.length) (.fz (kvM X)) = T1 at *
  refine gc_some (j := [.lst [.bl true]]) ?_ hlen
  have g1 : fDGet B (.ref n) (.str "main") T1 = .ok X T1 := by
    simp only [fDGet, dget, h2]
    rfl
  have w1 : f_is_word B [.str "main"] T1 = .ok (.bl true) T1 := is_word_ok (m := "str") rfl (by kernel_rfl)
  have l1 : f_is_list B [X] T1 = .ok (.bl true) T1 := by
    refine gc_ok0 ?_ rfl
    have e : fIsiT B [X, .tup [.ty "list", .ty "tuple"]] T1 = .ok (.bl true) T1 := by
      have tA : mapO tyA [.ty "list", .ty "tuple"] = some ["list", "tuple"] := rfl
      have k1 : kitAnyB "list" ["list", "tuple"] = some true := by kernel_rfl
      have k2 : kitAnyB "tuple" ["list", "tuple"] = some true := by kernel_rfl
      rcases hm with rfl | rfl
      · simp [fIsiT, ht, tA, k1]
      · simp [fIsiT, ht, tA, k2]
    have z : 2 ≤ sizeLine := by decide
    simp [m_is_list, e, z]
  have c1 : fLen B [X] T1 = .ok (.int (k + 1 : Nat)) T1 := by simp [fLen, hk]
  have e := mLc_map1 (B := B) (t := T) (t1 := T1) (vs := [1]) (mi := mIN B ksA (mVar 0)) (g := gN 1) (me := mAndV (mCallF B 1 f_is_word (mCons (mVar 1) mNil)) (mAndV (mCallF B 1 f_is_list (mCons (mBin (fDGet B) (mVar 0) (mVar 1)) mNil)) (mBin fGt (mCall (fLen B) (mCons (mBin (fDGet B) (mVar 0) (mVar 1)) mNil)) (mCon (.int 0))))) (s := [some (.ref n), none]) (f := fun _ => .bl true) (ys := [.str "main"]) (by simp [mIN, h1]) (by decide) (fun y hy => by
    rw [List.mem_singleton.mp hy]
    refine ⟨_, rfl, ?_⟩
    simp [wipeA, w1, g1, l1, c1])
  have e2 := all_new (B := B) (t := T1) (bs := [true]) (l := [])
  simp only [List.map_cons, List.map_nil] at e e2
  simp [m_need_functions, hd, hl, hi, e, e2]
end
end K01
end
section
set_option Elab.async false
set_option linter.all false
set_option maxRecDepth 100000
set_option maxHeartbeats 2000000
namespace K01
open PySem PySem.Spec PyProof.Rows L2 Ev
section
variable {B T : List O} {n S d : Nat} {v : A}
theorem few_ok (hb : B.length ≤ n) (hn : (B ++ T)[n]? = some (.fz (fzD d v))) (hd : d < 3) : f_need_few B [.ref n] T = .ok .non T := by
  have h1 : ∀ l, onN B vsA (.ref n) (T ++ l) = .ok (itL [.tup (lns d v)]) (T ++ l) := by
    intro l
    simp only [onN, if_pos hb, get_old hn]
    rfl
  have e : ∀ l, mLc B [1] (mIN B vsA (mVar 0)) (gN 1) mYes (mCall (fLen B) (mCons (mVar 1) mNil)) [some (.ref n), none] (T ++ l) = .ok (.ref (B.length + (T ++ l).length)) ((T ++ l) ++ [.lst [.int ((d + 5 : Nat) : Int)]]) := by
    intro l
    refine mLc_map1 (t1 := T ++ l) (f := fun _ => .int ((d + 5 : Nat) : Int)) (ys := [.tup (lns d v)]) (by simp [mIN, h1 l]) (show 1 ≤ sizeLine by decide) (fun y hy => ?_)
    rw [List.mem_singleton.mp hy]
    exact ⟨_, rfl, by simp [wipeA, fLen, lenA, lns_len]⟩
  have e0 := e []
  have e1 := e [.lst [.int ((d + 5 : Nat) : Int)]]
  simp only [List.append_nil] at e0
  have m0 : fMax B [.ref (B.length + T.length)] (T ++ [.lst [.int ((d + 5 : Nat) : Int)]]) = .ok (.int ((d + 5 : Nat) : Int)) (T ++ [.lst [.int ((d + 5 : Nat) : Int)]]) := by
    simp [fMax, fL1, rdL, mapO, intA, maxI]
  have m1 : ∀ l, fSum B [.ref (B.length + (T ++ l).length)] ((T ++ l) ++ [.lst [.int ((d + 5 : Nat) : Int)]]) = .ok (.int ((d + 5 : Nat) : Int)) ((T ++ l) ++ [.lst [.int ((d + 5 : Nat) : Int)]]) := by
    intro l
    generalize T ++ l = T2
    simp [fSum, fL1, rdL, mapO, intA]
  have m1' := m1 [.lst [.int ((d + 5 : Nat) : Int)]]
  refine gc_ok (j := [.lst [.int ((d + 5 : Nat) : Int)], .lst [.int ((d + 5 : Nat) : Int)]]) ?_ rfl
  rw [List.append_assoc] at e1 m1'
  have a1 : ¬ (60 < ((d + 5 : Nat) : Int)) := by omega
  have a2 : ¬ (240 < ((d + 5 : Nat) : Int)) := by omega
  generalize ((d + 5 : Nat) : Int) = q at *
  rw [ev_runF]
  unfold m_need_few
  rw [ev_mSeq, ev_mIf]
  simp only [ev_mTest, ev_mBin, ev_mCall, ev_mCons, ev_mNil, ev_mCon, ev_start, List.map_cons, List.map_nil, List.length_cons, List.length_nil, List.cons_append, List.nil_append, List.replicate, e0, bind_ok, m0, ev_fGt, ev_asB, a1, decide_false, cond_false, ev_mNext, ev_then_nx]
  simp only [ev_mIf, ev_mTest, ev_mBin, ev_mCall, ev_mCons, ev_mNil, ev_mCon, e1, bind_ok, m1', ev_fGt, ev_asB, a2, decide_false, cond_false, ev_mNext, ev_end_nx]
  rfl
end
theorem sh_free {v : A} (s : Sh v) : refsA v = [] := by cases s <;> rfl
theorem lns_free {d : Nat} {v : A} (s : Sh v) : refsAs [.tup (lns d v)] = [] := by
  have e : ∀ (k : Nat) (l : List A), refsAs (List.replicate k yO ++ l) = refsAs l := by
    intro k l
    induction k with
    | zero => rfl
    | succ k ih =>
      rw [List.replicate_succ, List.cons_append]
      show refsA yO ++ refsAs (List.replicate k yO ++ l) = _
      rw [ih]
      rfl
  have e1 : lns d v = List.replicate d yO ++ [yJ, v, yA, yB, yS] := rfl
  have e2 : refsAs [yJ, v, yA, yB, yS] = [] := by
    simp [refsAs, refsA, yJ, yA, yB, yS, sh_free s]
  show refsAs (lns d v) ++ [] = []
  rw [e1, e, e2]
  rfl
theorem tidy_ok {B T : List O} {d : Nat} {v : A} (s : Sh v) (hd : d < 3) : f_is_tidy B [.tup (lns d v)] T = .ok (.bl true) T := by
  have h : ∃ t, runF 3 m_is_tidy [] [.tup (lns d v)] [] = .ok (.bl true) t := by
    match d, hd with
    | 0, _ => exact isT_ok (tidy0 s)
    | 1, _ => exact isT_ok (tidy1 s)
    | 2, _ => exact isT_ok (tidy2 s)
  obtain ⟨t0, e⟩ := h
  exact gcfr (lns_free s) e rfl
section
variable {B T : List O} {n S d : Nat} {v : A}
theorem fine_ok (s : Sh v) (hd : d < 3) {a : A} : f_Program_is_fine B [a, .tup (lns d v)] T = .ok (.bl true) T := by
  refine gc_ok0 ?_ rfl
  have h := tidy_ok (B := B) (T := T) s hd
  simp [m_Program_is_fine, h]
theorem barred_ok {a : A} : f_Program_barred B [a] T = .ok (.tup []) T := gc_ok0 (by kernel_rfl) rfl
theorem fine_exc {fs : List (Str × A)} {T' : List O} (hS : (B ++ T)[S]? = some (.ins 7 [("own_functions", .ref n)])) (h : f_need_lines B [.ref n, .tup []] T = .exc 1 fs T') : f_Program_need_fine B [.ref S] T = .exc 1 fs T' := by
  refine gc_exc ?_
  have h1 : fldC B [7] "own_functions" (.ref S) T = .ok (.ref n) T := by simp [fldC, hS]
  have h2 : insOf B T 7 "barred" (.ref S) = true := by
    simp only [insOf, hS]
    kernel_rfl
  simp [m_Program_need_fine, mMethF0, h1, h2, barred_ok, h]
theorem fine_all (hb : B.length ≤ n) (hS : (B ++ T)[S]? = some (.ins 7 [("own_functions", .ref n)])) (hn : (B ++ T)[n]? = some (.dic (fzD d v))) (hne : S ≠ n) (s : Sh v) (hd : d < 3) (h : ∃ j, f_need_lines B [.ref n, .tup []] T = .ok .non (T.set (n - B.length) (.fz (fzD d v)) ++ j)) : ∃ j, f_Program_need_fine B [.ref S] T = .ok .non (T.set (n - B.length) (.fz (fzD d v)) ++ j) := by
  obtain ⟨j, h⟩ := h
  have h1 : fldC B [7] "own_functions" (.ref S) T = .ok (.ref n) T := by simp [fldC, hS]
  have h2 : insOf B T 7 "barred" (.ref S) = true := by
    simp only [insOf, hS]
    kernel_rfl
  have n1 := fz_at hb hn (o' := .fz (fzD d v))
  have S1 : (B ++ T.set (n - B.length) (.fz (fzD d v)))[S]? = some (.ins 7 [("own_functions", .ref n)]) := by
    rw [← set_top hb, List.getElem?_set_ne (fun q => hne q.symm)]
    exact hS
  have hl : (T.set (n - B.length) (.fz (fzD d v))).length = T.length := by simp
  have n2 := get_old (l := j) n1
  have S2 := get_old (l := j) S1
  generalize T.set (n - B.length) (.fz (fzD d v)) = T1 at *
  refine gc_some (j := j) ?_ hl
  generalize T1 ++ j = T2 at *
  have h3 : fldC B [7] "own_functions" (.ref S) T2 = .ok (.ref n) T2 := by simp [fldC, S2]
  have h4 : insOf B T2 7 "is_fine" (.ref S) = true := by
    simp only [insOf, S2]
    kernel_rfl
  have h5 := few_ok hb n2 hd
  have h6 : onN B ksA (.ref n) T2 = .ok (itL [.str "main"]) T2 := by
    simp only [onN, if_pos hb, n2]
    rfl
  have h7 : fDGet B (.ref n) (.str "main") T2 = .ok (.tup (lns d v)) T2 := by
    simp only [fDGet, dget, n2]
    rfl
  have h8 := fine_ok (B := B) (T := T2) s hd (a := .ref S)
  simp [m_Program_need_fine, mMethF0, mMethF, h1, h2, barred_ok, h, h3, h5, mForS, mIN, h6, mFor, itL, h4, h7, h8]
end
end K01
end
section
set_option Elab.async false
set_option linter.all false
set_option maxRecDepth 100000
set_option maxHeartbeats 2000000
namespace K01
open PySem PySem.Spec PyProof.Rows L2 Ev
/-- the lines of a program to be made: a list of ours, or a tuple -/
def Lns (hp : List O) (d : Nat) (v X : A) : Prop := X = .tup (lns d v) ∨ ∃ p, X = .ref p ∧ hp[p]? = some (.lst (lns d v))
section
variable {B t l : List O} {d n : Nat} {v X : A}
theorem Lns.old (h : Lns (B ++ t) d v X) : Lns (B ++ (t ++ l)) d v X := by
  rcases h with h | ⟨p, h1, h2⟩
  · exact .inl h
  · exact .inr ⟨p, h1, get_old h2⟩
theorem Lns.ty {hp : List O} (h : Lns hp d v X) : ∃ m, (m = "list" ∨ m = "tuple") ∧ tyN hp X = some m := by
  rcases h with rfl | ⟨p, rfl, h⟩
  · exact ⟨"tuple", .inr rfl, rfl⟩
  · exact ⟨"list", .inl rfl, by simp [tyN, h]⟩
theorem Lns.len {hp : List O} (h : Lns hp d v X) : lenA hp X = some ((d + 4) + 1) := by
  rcases h with rfl | ⟨p, rfl, h⟩
  · simp [lenA, lns_len]
  · simp [lenA, h, lns_len]
theorem Lns.tup {T : List O} (h : Lns (B ++ T) d v X) : fTupOf B [X] T = .ok (.tup (lns d v)) T := by
  rcases h with rfl | ⟨p, rfl, h⟩
  · rfl
  · simp [fTupOf, rdL, h]
noncomputable def mOwn (B : List O) : ME := mDc B [3] (mISeq B (mCall (fSorted B) (mCons (mVar 2) mNil))) (gN 3) mYes (mVar 3) (mCall (fTupOf B) (mCons (mBin (fDGet B) (mVar 2) (mVar 3)) mNil))
theorem own_ok {T : List O} {D : Nat} {a b : Option A} (hD : (B ++ T)[D]? = some (.fz (kvM X))) (hX : Lns (B ++ T) d v X) : mOwn B [a, b, some (.ref D), none] T = .ok (.ref (B.length + (T.length + 1))) (T ++ [.lst [.str "main"], .dic (fzD d v)]) := by
  have h1 : fSorted B [.ref D] T = .ok (.ref (B.length + T.length)) (T ++ [.lst [.str "main"]]) := by
    have e1 : rdL (B ++ T) D = none := by simp [rdL, hD]
    have e2 : dicOf (B ++ T) D = some (kvM X) := by simp [dicOf, hD]
    simp only [fSorted, e1, e2]
    rfl
  have r1 : rdL (B ++ (T ++ [.lst [.str "main"]])) (B.length + T.length) = some [.str "main"] := by
    unfold rdL; rw [get_new]; rfl
  have g1 : fDGet B (.ref D) (.str "main") (T ++ [.lst [.str "main"]]) = .ok X (T ++ [.lst [.str "main"]]) := by
    simp only [fDGet, dget, get_old hD]
    rfl
  have t1 := (hX.old (l := [.lst [.str "main"]])).tup
  have z : 1 ≤ sizeLine := by decide
  have k : putA ([] : List (Key × A)) (Sum.inr "main") (.tup (lns d v)) = fzD d v := rfl
  simp [mOwn, mDc, mISeq, h1, r1, itR, z, dcGo, wipeA, mYes, g1, t1, keyOf, k]
end
end K01
end
section
set_option Elab.async false
set_option linter.all false
set_option maxRecDepth 100000
set_option maxHeartbeats 2000000
namespace K01
open PySem PySem.Spec PyProof.Rows L2 Ev
section
variable {B t l : List O} {d n : Nat} {v X : A}
theorem isParts {T : List O} {D : Nat} (h : tyN (B ++ T) (.ref D) = some "dict") : fIsiO B 6 ["dict"] [] [.ref D, .glo 6] T = .ok (.bl false) T := by
  simp [fIsiO, h]
theorem init_run (hX : Lns (B ++ t) d v X) : ∃ j n1, B.length + (t.length + 2) ≤ n1 ∧ (B ++ (t ++ ([O.fz (kvM X), .ins 7 [("own_functions", .ref n1)]] ++ j)))[n1]? = some (.dic (fzD d v)) ∧
    f_Program___init__ B [.ref (B.length + (t.length + 1)), .ref (B.length + t.length)] (t ++ [O.dic (kvM X), .ins 7 []]) = (f_Program_need_fine B [.ref (B.length + (t.length + 1))] (t ++ ([O.fz (kvM X), .ins 7 [("own_functions", .ref n1)]] ++ j))).bind fun _ t1 => .ok .non t1 := by
  have hD : (B ++ (t ++ [O.dic (kvM X), .ins 7 []]))[B.length + t.length]? = some (.dic (kvM X)) := by rw [get_new]; rfl
  have eS : (t ++ [O.dic (kvM X), .ins 7 []]).set (B.length + t.length - B.length) (.fz (kvM X)) = t ++ [O.fz (kvM X), .ins 7 []] := by
    rw [Nat.add_sub_cancel_left, List.set_append_right _ _ (Nat.le_refl _), Nat.sub_self]
    rfl
  have hX1 : Lns (B ++ (t ++ [O.fz (kvM X), .ins 7 []])) d v X := hX.old
  obtain ⟨m, hm, hty⟩ := hX1.ty
  obtain ⟨j1, e1⟩ := nf_ok (k := d + 4) (Nat.le_add_right _ _) hD hm (by rw [eS]; exact hty) (by rw [eS]; exact hX1.len)
  rw [eS] at e1
  have p0 := isParts (B := B) (T := t ++ [O.dic (kvM X), .ins 7 []]) (D := B.length + t.length) (by simp only [tyN, hD])
  have hD1 : (B ++ ((t ++ [O.fz (kvM X), .ins 7 []]) ++ j1))[B.length + t.length]? = some (.fz (kvM X)) := by
    rw [List.append_assoc, get_new]; rfl
  have o1 := own_ok (a := some (.ref (B.length + (t.length + 1)))) (b := some (.ref (B.length + t.length))) hD1 (hX1.old (l := j1))
  unfold mOwn at o1
  -- the instance is written
  let n1 := B.length + (((t ++ [O.fz (kvM X), .ins 7 []]) ++ j1).length + 1)
  have hn1 : n1 = B.length + (t.length + (2 + (j1.length + 1))) := by
    show B.length + (((t ++ [O.fz (kvM X), .ins 7 []]) ++ j1).length + 1) = _
    simp only [List.length_append, List.length_cons, List.length_nil]
    omega
  refine ⟨j1 ++ [O.lst [.str "main"], .dic (fzD d v)], n1, by rw [hn1]; omega, ?_, ?_⟩
  · rw [hn1, get_newK]
    rw [List.getElem?_append_right (by simp)]
    simp
  · have w1 : ∀ s, gFld B [7] "own_functions" (.ref (B.length + (t.length + 1))) (.ref n1) s (((t ++ [O.fz (kvM X), .ins 7 []]) ++ j1) ++ [O.lst [.str "main"], .dic (fzD d v)]) = .ok (.nx s) (t ++ ([O.fz (kvM X), .ins 7 [("own_functions", .ref n1)]] ++ (j1 ++ [O.lst [.str "main"], .dic (fzD d v)]))) := by
      intro s
      have e : ((t ++ [O.fz (kvM X), .ins 7 []]) ++ j1) ++ [O.lst [.str "main"], .dic (fzD d v)] = t ++ (O.fz (kvM X) :: .ins 7 [] :: (j1 ++ [O.lst [.str "main"], .dic (fzD d v)])) := by simp
      rw [e]
      have hI : (B ++ (t ++ (O.fz (kvM X) :: .ins 7 [] :: (j1 ++ [O.lst [.str "main"], .dic (fzD d v)]))))[B.length + (t.length + 1)]? = some (.ins 7 []) := by rw [get_newK]; rfl
      simp only [gFld, if_pos (Nat.le_add_right _ _ : B.length ≤ B.length + (t.length + 1)), hI]
      have e2 : (t ++ (O.fz (kvM X) :: .ins 7 [] :: (j1 ++ [O.lst [.str "main"], .dic (fzD d v)]))).set (B.length + (t.length + 1) - B.length) (.ins 7 (putFA "own_functions" (.ref n1) [])) = t ++ ([O.fz (kvM X), .ins 7 [("own_functions", .ref n1)]] ++ (j1 ++ [O.lst [.str "main"], .dic (fzD d v)])) := by
        rw [Nat.add_sub_cancel_left, List.set_append_right _ _ (by omega), Nat.add_sub_cancel_left]
        rfl
      rw [e2]
      rfl
    have p1 := isParts (B := B) (T := t ++ ([O.fz (kvM X), .ins 7 [("own_functions", .ref n1)]] ++ (j1 ++ [O.lst [.str "main"], .dic (fzD d v)]))) (D := B.length + t.length) (by simp only [tyN, get_new]; rfl)
    have i1 : insOf B (t ++ ([O.fz (kvM X), .ins 7 [("own_functions", .ref n1)]] ++ (j1 ++ [O.lst [.str "main"], .dic (fzD d v)]))) 7 "need_fine" (.ref (B.length + (t.length + 1))) = true := by
      simp only [insOf, get_newK]
      kernel_rfl
    have o2 : mDc B [3] (mISeq B (mCall (fSorted B) (mCons (mVar 2) mNil))) (gN 3) mYes (mVar 3) (mCall (fTupOf B) (mCons (mBin (fDGet B) (mVar 2) (mVar 3)) mNil)) [some (.ref (B.length + (t.length + 1))), some (.ref (B.length + t.length)), some (.ref (B.length + t.length)), none] ((t ++ [O.fz (kvM X), .ins 7 []]) ++ j1) = .ok (.ref n1) (((t ++ [O.fz (kvM X), .ins 7 []]) ++ j1) ++ [O.lst [.str "main"], .dic (fzD d v)]) := o1
    clear o1
    generalize n1 = N1 at *
    generalize t ++ ([O.fz (kvM X), .ins 7 [("own_functions", .ref N1)]] ++ (j1 ++ [O.lst [.str "main"], .dic (fzD d v)])) = T4 at *
    generalize ((t ++ [O.fz (kvM X), .ins 7 []]) ++ j1) ++ [O.lst [.str "main"], .dic (fzD d v)] = T3 at *
    generalize (t ++ [O.fz (kvM X), .ins 7 []]) ++ j1 = T2 at *
    generalize t ++ [O.dic (kvM X), .ins 7 []] = T0 at *
    show runF 4 m_Program___init__ B _ T0 = _
    simp [m_Program___init__, p0, e1, mFld, o2, w1, p1, mMethF0, i1]
    cases f_Program_need_fine B [.ref (B.length + (t.length + 1))] T4 <;> rfl
end
end K01
end
section
set_option Elab.async false
set_option linter.all false
set_option maxRecDepth 100000
set_option maxHeartbeats 2000000
namespace K01
open PySem PySem.Spec PyProof.Rows L2 Ev
section
variable {B t l : List O} {d n : Nat} {v X : A}
theorem set_new {n1 : Nat} {l : List O} {o : O} (h : B.length + (t.length + 2) ≤ n1) (a b : O) (j : List O) : (t ++ ([a, b] ++ j)).set (n1 - B.length) o = t ++ ([a, b] ++ j.set (n1 - B.length - t.length - 2) o) := by
  rw [List.set_append_right _ _ (by omega), List.set_append_right _ _ (by simp; omega)]
  rfl
theorem init_exc (hX : Lns (B ++ t) d v X) (hd : d < 3) (c : Cand (B ++ t) v) (g : Good v) (h : lawLine v = false) :
    ∃ T', f_Program___init__ B [.ref (B.length + (t.length + 1)), .ref (B.length + t.length)] (t ++ [O.dic (kvM X), .ins 7 []]) = .exc 1 (xI ((d : Int) + 1)) (t ++ T') := by
  obtain ⟨j, n1, hn1, hn, e⟩ := init_run hX
  have hb : B.length ≤ n1 := by omega
  have ho : ∀ xs, v = .tup xs → ∀ x ∈ xs, okS x = true := fun xs e x hx => (c.pt xs e x hx).2
  have es := set_new (B := B) (t := t) (l := []) (o := .fz (fzD d v)) hn1 (O.fz (kvM X)) (.ins 7 [("own_functions", .ref n1)]) j
  have hf := fz_at hb hn (o' := .fz (fzD d v))
  have hS : (B ++ (t ++ ([O.fz (kvM X), .ins 7 [("own_functions", .ref n1)]] ++ j)))[B.length + (t.length + 1)]? = some (.ins 7 [("own_functions", .ref n1)]) := by rw [get_newK]; rfl
  have key : f_need_lines B [.ref n1, .tup []] (t ++ ([O.fz (kvM X), .ins 7 [("own_functions", .ref n1)]] ++ j)) = .exc 1 (xI ((d : Int) + 1)) (TT ((t ++ ([O.fz (kvM X), .ins 7 [("own_functions", .ref n1)]] ++ j)).set (n1 - B.length) (.fz (fzD d v))) []) := by
    have c1 : Cand (B ++ (t ++ ([O.fz (kvM X), .ins 7 [("own_functions", .ref n1)]] ++ j)).set (n1 - B.length) (.fz (fzD d v))) v := by rw [es]; exact c.old
    have c2 : Cand (B ++ TT ((t ++ ([O.fz (kvM X), .ins 7 [("own_functions", .ref n1)]] ++ j)).set (n1 - B.length) (.fz (fzD d v))) []) v := c1.old
    cases hl : lineB v with
    | false => exact nl_exc hb hn hd c1 (by rw [hl]; rfl) (turn_none c2 hl)
    | true =>
      rcases law_bd g ho h with q | q
      · rw [hl] at q; cases q
      · exact nl_exc hb hn hd c1 (by rw [bd_mk q]; simp) (turn_bd c2 hl q hf)
  rw [e, fine_exc hS key, es]
  unfold TT
  rw [List.append_assoc]
  exact ⟨_, rfl⟩
theorem init_ok (hX : Lns (B ++ t) d v X) (hd : d < 3) (c : Cand (B ++ t) v) (s : Sh v) (hl : lineB v = true) :
    ∃ j n1, B.length + (t.length + 2) ≤ n1 ∧ (B ++ (t ++ ([O.fz (kvM X), .ins 7 [("own_functions", .ref n1)]] ++ j)))[n1]? = some (.fz (fzD d v)) ∧
      f_Program___init__ B [.ref (B.length + (t.length + 1)), .ref (B.length + t.length)] (t ++ [O.dic (kvM X), .ins 7 []]) = .ok .non (t ++ ([O.fz (kvM X), .ins 7 [("own_functions", .ref n1)]] ++ j)) := by
  obtain ⟨j, n1, hn1, hn, e⟩ := init_run hX
  have hb : B.length ≤ n1 := by omega
  have es := set_new (B := B) (t := t) (l := []) (o := .fz (fzD d v)) hn1 (O.fz (kvM X)) (.ins 7 [("own_functions", .ref n1)]) j
  have hf := fz_at hb hn (o' := .fz (fzD d v))
  have hS : (B ++ (t ++ ([O.fz (kvM X), .ins 7 [("own_functions", .ref n1)]] ++ j)))[B.length + (t.length + 1)]? = some (.ins 7 [("own_functions", .ref n1)]) := by rw [get_newK]; rfl
  have c1 : Cand (B ++ (t ++ ([O.fz (kvM X), .ins 7 [("own_functions", .ref n1)]] ++ j)).set (n1 - B.length) (.fz (fzD d v))) v := by rw [es]; exact c.old
  have c2 : Cand (B ++ TT ((t ++ ([O.fz (kvM X), .ins 7 [("own_functions", .ref n1)]] ++ j)).set (n1 - B.length) (.fz (fzD d v))) []) v := c1.old
  obtain ⟨j2, e2⟩ := fine_all hb hS hn (by omega) s hd (nl_ok hb hn hd c1 (by rw [sh_mk s]; simp) (turn_sh c2 hl s hf))
  rw [es] at e2 hf
  refine ⟨j.set (n1 - B.length - t.length - 2) (.fz (fzD d v)) ++ j2, n1, hn1, ?_, ?_⟩
  · have := get_old (l := j2) hf
    rw [List.append_assoc, List.append_assoc] at this
    exact this
  · rw [e, e2, bind_ok]
    simp
end
end K01
end
section
set_option Elab.async false
set_option linter.all false
set_option maxRecDepth 100000
set_option maxHeartbeats 2000000
namespace K01
open PySem PySem.Spec PyProof.Rows L2 Ev
def isN (k : Int) : Res A → Bool
  | .ok (.int i) _ => decide (i = k)
  | _ => false
theorem isN_ok {r : Res A} {k : Int} (h : isN k r = true) : ∃ t, r = .ok (.int k) t := by
  cases r with
  | ok a t =>
    cases a with
    | int i => exact ⟨t, by rw [of_decide_eq_true h]⟩
    | _ => cases h
  | _ => cases h
section
variable {B T : List O} {v : A}
theorem law_size_by {k : Int} (hr : refsA v = []) (h : isN k (runF 1 m__law_size [] [v] []) = true) : f__law_size B [v] T = .ok (.int k) T := by
  obtain ⟨t0, e⟩ := isN_ok h
  exact gcfr (by show refsA v ++ [] = []; rw [hr]; rfl) e rfl
/-- the size of a line: the program and the law agree -/
theorem size_sh (s : Sh v) : ∃ k : Int, (0 ≤ k ∧ k ≤ 3) ∧ (∀ B T, f_size_of_line B [v] T = .ok (.int k) T) ∧ ∀ B T, f__law_size B [v] T = .ok (.int k) T := by
  cases s with
  | w_num i n =>
    have a0 : ∀ B T, fIx B (.tup [.str "num", .int i, .int n]) (.int 0) T = .ok (.str "num") T := fun _ _ => by kernel_rfl
    have a2 : ∀ B T, fIx B (.tup [.str "num", .int i, .int n]) (.int 2) T = .ok (.int n) T := fun _ _ => by kernel_rfl
    have q : ∀ B T, fEq B false (.str "num") (.str "num") T = .ok (.bl true) T := fun _ _ => by kernel_rfl
    refine ⟨if -8 ≤ n ∧ n ≤ 7 then 1 else 3, by split <;> omega, fun B T => ?_, fun B T => law_size_by rfl ?_⟩
    · refine gc_ok0 ?_ rfl
      by_cases h1 : -8 ≤ n <;> by_cases h2 : n ≤ 7 <;> simp [m_size_of_line, a0, a2, q, h1, h2]
    · by_cases h1 : -8 ≤ n <;> by_cases h2 : n ≤ 7 <;> simp [m__law_size, a0, a2, q, h1, h2, isN]
  | w_copy => exact ⟨1, by decide, fun B T => gc_ok0 (by kernel_rfl) rfl, fun B T => law_size_by rfl (by kernel_rfl)⟩
  | w_add => exact ⟨1, by decide, fun B T => gc_ok0 (by kernel_rfl) rfl, fun B T => law_size_by rfl (by kernel_rfl)⟩
  | w_sub => exact ⟨1, by decide, fun B T => gc_ok0 (by kernel_rfl) rfl, fun B T => law_size_by rfl (by kernel_rfl)⟩
  | w_mul => exact ⟨1, by decide, fun B T => gc_ok0 (by kernel_rfl) rfl, fun B T => law_size_by rfl (by kernel_rfl)⟩
  | w_addr => exact ⟨3, by decide, fun B T => gc_ok0 (by kernel_rfl) rfl, fun B T => law_size_by rfl (by kernel_rfl)⟩
  | w_same => exact ⟨1, by decide, fun B T => gc_ok0 (by kernel_rfl) rfl, fun B T => law_size_by rfl (by kernel_rfl)⟩
  | w_less => exact ⟨1, by decide, fun B T => gc_ok0 (by kernel_rfl) rfl, fun B T => law_size_by rfl (by kernel_rfl)⟩
  | w_in => exact ⟨1, by decide, fun B T => gc_ok0 (by kernel_rfl) rfl, fun B T => law_size_by rfl (by kernel_rfl)⟩
  | w_out => exact ⟨1, by decide, fun B T => gc_ok0 (by kernel_rfl) rfl, fun B T => law_size_by rfl (by kernel_rfl)⟩
  | w_push => exact ⟨1, by decide, fun B T => gc_ok0 (by kernel_rfl) rfl, fun B T => law_size_by rfl (by kernel_rfl)⟩
  | w_pushL => exact ⟨1, by decide, fun B T => gc_ok0 (by kernel_rfl) rfl, fun B T => law_size_by rfl (by kernel_rfl)⟩
  | w_pop => exact ⟨1, by decide, fun B T => gc_ok0 (by kernel_rfl) rfl, fun B T => law_size_by rfl (by kernel_rfl)⟩
  | w_popL => exact ⟨1, by decide, fun B T => gc_ok0 (by kernel_rfl) rfl, fun B T => law_size_by rfl (by kernel_rfl)⟩
  | w_read => exact ⟨1, by decide, fun B T => gc_ok0 (by kernel_rfl) rfl, fun B T => law_size_by rfl (by kernel_rfl)⟩
  | w_write => exact ⟨1, by decide, fun B T => gc_ok0 (by kernel_rfl) rfl, fun B T => law_size_by rfl (by kernel_rfl)⟩
  | w_jump => exact ⟨2, by decide, fun B T => gc_ok0 (by kernel_rfl) rfl, fun B T => law_size_by rfl (by kernel_rfl)⟩
  | w_if => exact ⟨2, by decide, fun B T => gc_ok0 (by kernel_rfl) rfl, fun B T => law_size_by rfl (by kernel_rfl)⟩
  | w_unless => exact ⟨2, by decide, fun B T => gc_ok0 (by kernel_rfl) rfl, fun B T => law_size_by rfl (by kernel_rfl)⟩
  | w_call => exact ⟨2, by decide, fun B T => gc_ok0 (by kernel_rfl) rfl, fun B T => law_size_by rfl (by kernel_rfl)⟩
  | w_callr => exact ⟨1, by decide, fun B T => gc_ok0 (by kernel_rfl) rfl, fun B T => law_size_by rfl (by kernel_rfl)⟩
  | w_tail => exact ⟨2, by decide, fun B T => gc_ok0 (by kernel_rfl) rfl, fun B T => law_size_by rfl (by kernel_rfl)⟩
  | w_back => exact ⟨1, by decide, fun B T => gc_ok0 (by kernel_rfl) rfl, fun B T => law_size_by rfl (by kernel_rfl)⟩
  | w_stop => exact ⟨1, by decide, fun B T => gc_ok0 (by kernel_rfl) rfl, fun B T => law_size_by rfl (by kernel_rfl)⟩
theorem sz_O : f_size_of_line B [yO] T = .ok (.int 1) T := gc_ok0 (by kernel_rfl) rfl
theorem sz_J : f_size_of_line B [yJ] T = .ok (.int 2) T := gc_ok0 (by kernel_rfl) rfl
theorem sz_A : f_size_of_line B [yA] T = .ok (.int 0) T := gc_ok0 (by kernel_rfl) rfl
theorem sz_B : f_size_of_line B [yB] T = .ok (.int 0) T := gc_ok0 (by kernel_rfl) rfl
theorem sz_S : f_size_of_line B [yS] T = .ok (.int 1) T := gc_ok0 (by kernel_rfl) rfl
end
end K01
end
section
set_option Elab.async false
set_option linter.all false
set_option maxRecDepth 100000
set_option maxHeartbeats 2000000
namespace K01
open PySem PySem.Spec PyProof.Rows L2 Ev
section
variable {B T : List O} {d : Nat} {v : A}
theorem sum_lns {k : Int} (hd : d < 3) (hk : ∀ B T, f_size_of_line B [v] T = .ok (.int k) T) : f_size_of_lines B [.tup (lns d v)] T = .ok (.int ((d : Int) + 2 + k + 1)) T := by
  have e := mLc_map (B := B) (t := T) (vs := [1]) (mi := mISeq B (mVar 0)) (g := gN 1) (me := mCallF B 1 f_size_of_line (mCons (mVar 1) mNil)) (s := [some (.tup (lns d v)), none]) (f := fun y => match f_size_of_line B [y] T with | .ok a _ => a | _ => .non) (ys := lns d v) rfl (by rw [lns_len]; exact Nat.le_trans (by omega : d + 5 ≤ 8) (by decide)) (fun y hy => by
    refine ⟨_, rfl, ?_⟩
    have : ∃ i, f_size_of_line B [y] T = .ok (.int i) T := by
      rcases lns_mem hy with rfl | rfl | rfl | rfl | rfl | rfl
      · exact ⟨_, sz_O⟩
      · exact ⟨_, sz_J⟩
      · exact ⟨_, hk B T⟩
      · exact ⟨_, sz_A⟩
      · exact ⟨_, sz_B⟩
      · exact ⟨_, sz_S⟩
    obtain ⟨i, hi⟩ := this
    simp [wipeA, hi])
  have em : (lns d v).map (fun y => match f_size_of_line B [y] T with | .ok a _ => a | _ => .non) = (List.replicate d 1 ++ [2, k, 0, 0, 1]).map A.int := by
    have e1 : lns d v = List.replicate d yO ++ [yJ, v, yA, yB, yS] := rfl
    rw [e1]
    simp [sz_O, sz_J, hk B T, sz_A, sz_B, sz_S]
  rw [em] at e
  have es := sum_new (B := B) (t := T) (bs := List.replicate d 1 ++ [2, k, 0, 0, 1]) (l := [])
  have en : (List.replicate d (1 : Int) ++ [2, k, 0, 0, 1]).sum = (d : Int) + 2 + k + 1 := by
    match d, hd with
    | 0, _ => simp; omega
    | 1, _ => simp; omega
    | 2, _ => simp [List.replicate]; omega
  rw [en] at es
  refine gc_ok (j := [.lst ((List.replicate d (1 : Int) ++ [2, k, 0, 0, 1]).map A.int)]) ?_ rfl
  simp only [ev_runF, m_size_of_lines, ev_mRet, ev_mCall, ev_mCons, ev_mNil, ev_start, List.map_cons, List.map_nil, List.length_cons, List.length_nil, List.cons_append, List.nil_append, List.replicate, Nat.sub, e, bind_ok]
  rw [es]
  rfl
theorem gc_ref {mf : MF} {as : List A} {l : List O} (h : mf B as T = .ok (.ref (B.length + T.length)) (T ++ l)) : gcF mf B as T = .ok (.ref (B.length + T.length)) (T ++ l) := by
  unfold gcF
  rw [h]
  unfold cutR
  have hb : below (B.length + T.length) (.ref (B.length + T.length)) = false := by simp [below, refsA]
  simp only [hb, Bool.false_and, Bool.false_eq_true, if_false, false_and]
variable {S n : Nat}
theorem psize_ok {k : Int} (hd : d < 3) (hk : ∀ B T, f_size_of_line B [v] T = .ok (.int k) T) (hb : B.length ≤ n) (hS : (B ++ T)[S]? = some (.ins 7 [("own_functions", .ref n)])) (hn : (B ++ T)[n]? = some (.fz (fzD d v))) : f_Program_size B [.ref S] T = .ok (.int ((d : Int) + 2 + k + 1)) T := by
  have h1 : fldC B [7] "own_functions" (.ref S) T = .ok (.ref n) T := by simp [fldC, hS]
  have h2 : onN B vsA (.ref n) T = .ok (itL [.tup (lns d v)]) T := by
    simp only [onN, if_pos hb, hn]
    rfl
  have h3 := sum_lns (B := B) (T := T) hd hk
  have e := mLc_map (B := B) (t := T) (vs := [1]) (mi := mIN B vsA (mUn (fldC B [7] "own_functions") (mVar 0))) (g := gN 1) (me := mCallF B 1 f_size_of_lines (mCons (mVar 1) mNil)) (s := [some (.ref S), none]) (f := fun _ => .int ((d : Int) + 2 + k + 1)) (ys := [.tup (lns d v)]) (by simp [mIN, h1, h2]) (show 1 ≤ sizeLine by decide) (fun y hy => by
    rw [List.mem_singleton.mp hy]
    exact ⟨_, rfl, by simp [wipeA, h3]⟩)
  have es := sum_new (B := B) (t := T) (bs := [(d : Int) + 2 + k + 1]) (l := [])
  generalize (d : Int) + 2 + k + 1 = q at *
  simp only [List.map_cons, List.map_nil] at e es
  refine gc_ok (j := [.lst [.int q]]) ?_ rfl
  simp [m_Program_size, e, es]
theorem pfun_ok (hS : (B ++ T)[S]? = some (.ins 7 [("own_functions", .ref n)])) (hn : (B ++ T)[n]? = some (.fz (fzD d v))) : f_Program_functions B [.ref S] T = .ok (.ref (B.length + T.length)) (T ++ [.dic (fzD d v)]) := by
  have h1 : fldC B [7] "own_functions" (.ref S) T = .ok (.ref n) T := by simp [fldC, hS]
  refine gc_ref ?_
  simp [m_Program_functions, h1, fDicOf, dicOf, hn]
end
end K01
end
section
set_option Elab.async false
set_option linter.all false
set_option maxRecDepth 100000
set_option maxHeartbeats 2000000
namespace K01
open PySem PySem.Spec PyProof.Rows L2 Ev
def penD (C : Nat) (k m : Int) : O := .dic [(Sum.inr "cells", .ref C), (Sum.inr "turn", .int k), (Sum.inr "left", .int m)]
section
variable {B T : List O} {P C : Nat} {k m : Int}
theorem pen_cells (hP : (B ++ T)[P]? = some (penD C k m)) : fDGet B (.ref P) (.str "cells") T = .ok (.ref C) T := by
  simp only [fDGet, dget, hP, penD]; rfl
theorem pen_turn (hP : (B ++ T)[P]? = some (penD C k m)) : fDGet B (.ref P) (.str "turn") T = .ok (.int k) T := by
  simp only [fDGet, dget, hP, penD]
  have e : valA [((Sum.inr "cells" : Key), A.ref C), (Sum.inr "turn", .int k), (Sum.inr "left", .int m)] (Sum.inr "turn") = some (.int k) := by kernel_rfl
  show (match (some (valA [((Sum.inr "cells" : Key), A.ref C), (Sum.inr "turn", .int k), (Sum.inr "left", .int m)] (Sum.inr "turn")) : Option (Option A)) with
    | some (some y) => Res.ok y T
    | _ => .bad) = _
  rw [e]
theorem pen_left (hP : (B ++ T)[P]? = some (penD C k m)) : fDGet B (.ref P) (.str "left") T = .ok (.int m) T := by
  simp only [fDGet, dget, hP, penD]
  have e : valA [((Sum.inr "cells" : Key), A.ref C), (Sum.inr "turn", .int k), (Sum.inr "left", .int m)] (Sum.inr "left") = some (.int m) := by kernel_rfl
  show (match (some (valA [((Sum.inr "cells" : Key), A.ref C), (Sum.inr "turn", .int k), (Sum.inr "left", .int m)] (Sum.inr "left")) : Option (Option A)) with
    | some (some y) => Res.ok y T
    | _ => .bad) = _
  rw [e]
theorem pen_setT {s : Sl} {k' : Int} (hb : B.length ≤ P) (hP : (B ++ T)[P]? = some (penD C k m)) : gPut B (.ref P) (.str "turn") (.int k') s T = .ok s (T.set (P - B.length) (penD C k' m)) := by
  have e : putObj (penD C k m) (.str "turn") (.int k') = some (penD C k' m) := by kernel_rfl
  simp only [gPut, if_pos hb, hP, e]
theorem pen_setL {s : Sl} {m' : Int} (hb : B.length ≤ P) (hP : (B ++ T)[P]? = some (penD C k m)) : gPut B (.ref P) (.str "left") (.int m') s T = .ok s (T.set (P - B.length) (penD C k m')) := by
  have e : putObj (penD C k m) (.str "left") (.int m') = some (penD C k m') := by kernel_rfl
  simp only [gPut, if_pos hb, hP, e]
theorem at_int {ns : List Int} {i : Int} (h0 : 0 ≤ i) (h1 : i < ns.length) : ∃ x, atI (ns.map A.int) i = some (.int x) := by
  have hl : i.toNat < ns.length := by omega
  refine ⟨ns[i.toNat], ?_⟩
  unfold atI ixN
  rw [List.length_map, if_pos h0, if_pos (by omega)]
  simp [hl]
end
end K01
end
section
set_option Elab.async false
set_option linter.all false
set_option maxRecDepth 100000
set_option maxHeartbeats 2000000
namespace K01
open PySem PySem.Spec PyProof.Rows L2 Ev
section
variable {B T : List O} {P C : Nat} {k m i j : Int}
theorem v_mod (h : 0 < j) : fMod (.int i) (.int j) T = .ok (.int (i % j)) T := by simp [fMod, fIc, h]
theorem v_div (h : 0 < j) (h2 : j < 1073741824) : fDiv (.int i) (.int j) T = .ok (.int (i / j)) T := by simp [fDiv, fIc, h, h2]
theorem v_mulR (h : -(2 ^ 64) < j) (h2 : j < 2 ^ 64) : fMul (.int i) (.int j) T = .ok (.int (i * j)) T := by
  have e : decide (-(2 ^ 64) < j) = true := decide_eq_true h
  have e2 : decide (j < 2 ^ 64) = true := decide_eq_true h2
  simp only [fMul, fIc, e, e2, Bool.and_true, Bool.or_true, if_true]
theorem v_mulL (h : -(2 ^ 64) < i) (h2 : i < 2 ^ 64) : fMul (.int i) (.int j) T = .ok (.int (i * j)) T := by
  have e : decide (-(2 ^ 64) < i) = true := decide_eq_true h
  have e2 : decide (i < 2 ^ 64) = true := decide_eq_true h2
  simp only [fMul, fIc, e, e2, Bool.and_true, Bool.true_or, if_true]
theorem v_int : fInt [.int i] T = .ok (.int i) T := rfl
theorem v_abs : fAbs [.int i] T = .ok (.int (if i < 0 then -i else i)) T := rfl
theorem v_pow : fPow (.int 10) (.int 18) T = .ok (.int 1000000000000000000) T := by kernel_rfl
def primes : List Int := [2147483629, 2147483647, 2147483587, 2147483563, 2147483579]
theorem prime_at {q : Nat} (hq : rdL (B ++ T) q = some (primes.map A.int)) : ∃ p : Int, fIx B (.ref q) (.int (i % 5)) T = .ok (.int p) T ∧ 0 < p ∧ p < 2147483648 := by
  have h0 : 0 ≤ i % 5 := Int.emod_nonneg _ (by decide)
  have h1 : i % 5 < 5 := Int.emod_lt_of_pos _ (by decide)
  generalize i % 5 = r at *
  have hr : r = 0 ∨ r = 1 ∨ r = 2 ∨ r = 3 ∨ r = 4 := by omega
  have e : fIx B (.ref q) (.int r) T = match atI (primes.map A.int) r with
    | some y => .ok y T
    | none => .bad := by
    simp only [fIx, seqOf, hq]
    all_goals rfl
  rw [e]
  rcases hr with rfl | rfl | rfl | rfl | rfl
  · exact ⟨2147483629, rfl, by decide, by decide⟩
  · exact ⟨2147483647, rfl, by decide, by decide⟩
  · exact ⟨2147483587, rfl, by decide, by decide⟩
  · exact ⟨2147483563, rfl, by decide, by decide⟩
  · exact ⟨2147483579, rfl, by decide, by decide⟩
variable {ns : List Int} {many : Int}
/-- the draw where something is left -/
theorem draw_left (hb : B.length ≤ P) (hP : (B ++ T)[P]? = some (penD C k m)) (h0 : 0 < many) (h1 : many < 1073741824) (hm : 0 < m) : runF 8 m__law_draw B [.ref P, .int many] T = .ok (.int (m % many)) (T.set (P - B.length) (penD C k (m / many))) := by
  have a1 := pen_left hP
  have a2 : ∀ s, gPut B (.ref P) (.str "left") (.int (m / many)) s T = .ok s (T.set (P - B.length) (penD C k (m / many))) := fun s => pen_setL hb hP
  simp [m__law_draw, a1, hm, v_mod h0, v_div h0 h1, v_int, gSubA, a2]
end
end K01
end
section
set_option Elab.async false
set_option linter.all false
set_option maxRecDepth 100000
set_option maxHeartbeats 2000000
namespace K01
open PySem PySem.Spec PyProof.Rows L2 Ev
noncomputable def mMix (B : List O) : MS := (mSeq (mAsg (gN 5) (mLst B (mCons (mCon (.int 2147483629)) (mCons (mCon (.int 2147483647)) (mCons (mCon (.int 2147483587)) (mCons (mCon (.int 2147483563)) (mCons (mCon (.int 2147483579)) mNil))))))) (mSeq (mAsg (gN 6) (mBin (fIx B) (mVar 5) (mBin fMod (mCall fInt (mCons (mVar 3) mNil)) (mCon (.int 5))))) (mSeq (mAsg (gN 7) (mBin fMod (mCall fInt (mCons (mBin (fAdd B) (mBin (fAdd B) (mBin fMul (mBin fMod (mCall fInt (mCons (mVar 4) mNil)) (mVar 6)) (mCon (.int 39373))) (mBin fMul (mVar 3) (mBin (fAdd B) (mBin fMul (mCon (.int 30011)) (mVar 3)) (mCon (.int 8117))))) (mCon (.int 23))) mNil)) (mVar 6))) (mSeq (mAsg (gN 7) (mBin fMod (mCall fInt (mCons (mBin fMul (mVar 7) (mBin (fAdd B) (mVar 7) (mCon (.int 69621)))) mNil)) (mBin (fIx B) (mVar 5) (mBin fMod (mCall fInt (mCons (mBin (fAdd B) (mVar 3) (mCon (.int 2))) mNil)) (mCon (.int 5)))))) (mRet (mBin fMod (mCall fInt (mCons (mBin fDiv (mBin fMod (mCall fInt (mCons (mBin (fAdd B) (mBin (fAdd B) (mBin fMul (mVar 7) (mVar 7)) (mBin fMul (mCon (.int 16807)) (mVar 7))) (mVar 3)) mNil)) (mCon (.int 2147483549))) (mCon (.int 64))) mNil)) (mVar 1)))))))
theorem draw_eq {B : List O} : m__law_draw B = (mSeq (mIf (mTest (mBin fGt (mBin (fDGet B) (mVar 0) (mCon (.str "left"))) (mCon (.int 0)))) (mSeq (mAsg (gN 2) (mBin fMod (mCall fInt (mCons (mBin (fDGet B) (mVar 0) (mCon (.str "left"))) mNil)) (mVar 1))) (mSeq (mAsg (gSubA B (mVar 0) (mCon (.str "left"))) (mBin fDiv (mBin (fDGet B) (mVar 0) (mCon (.str "left"))) (mVar 1))) (mRet (mVar 2)))) mNext) (mSeq (mAsg (gN 3) (mBin (fDGet B) (mVar 0) (mCon (.str "turn")))) (mSeq (mAsg (gSubA B (mVar 0) (mCon (.str "turn"))) (mBin (fAdd B) (mVar 3) (mCon (.int 1)))) (mSeq (mAsg (gN 4) (mBin (fAdd B) (mBin fMul (mCon (.int 43)) (mVar 3)) (mCon (.int 19)))) (mSeq (mIf (mTest (mBin (fEq B true) (mBin (fDGet B) (mVar 0) (mCon (.str "cells"))) (mLst B mNil))) (mAsg (gN 4) (mBin (fIx B) (mBin (fDGet B) (mVar 0) (mCon (.str "cells"))) (mBin fMod (mCall fInt (mCons (mVar 3) mNil)) (mCall (fLen B) (mCons (mBin (fDGet B) (mVar 0) (mCon (.str "cells"))) mNil))))) mNext) (mSeq (mIf (mAnd (mTest (mBin fLt (mVar 3) (mCall (fLen B) (mCons (mBin (fDGet B) (mVar 0) (mCon (.str "cells"))) mNil)))) (mTest (mBin fGe (mCall fAbs (mCons (mVar 4) mNil)) (mBin fPow (mCon (.int 10)) (mCon (.int 18)))))) (mSeq (mAsg (gSubA B (mVar 0) (mCon (.str "left"))) (mBin fDiv (mBin fSub (mCall fAbs (mCons (mVar 4) mNil)) (mBin fPow (mCon (.int 10)) (mCon (.int 18)))) (mVar 1))) (mRet (mBin fMod (mBin fSub (mCall fAbs (mCons (mVar 4) mNil)) (mBin fPow (mCon (.int 10)) (mCon (.int 18)))) (mVar 1)))) mNext) (mMix B))))))) := rfl
section
variable {B T : List O} {P C : Nat} {k m x many : Int} {y : Option A}
theorem mix_ok (hk : 0 ≤ k) (hk2 : k < 2 ^ 40) (h0 : 0 < many) : ∃ r : Int, 0 ≤ r ∧ r < many ∧ mMix B [some (.ref P), some (.int many), y, some (.int k), some (.int x), none, none, none] T = .ok (.rt (.int r)) (T ++ [.lst (primes.map A.int)]) := by
  have hq : rdL (B ++ (T ++ [.lst (primes.map A.int)])) (B.length + T.length) = some (primes.map A.int) := by
    unfold rdL; rw [get_new]; rfl
  obtain ⟨p, e1, p0, p1⟩ := prime_at (i := k) hq
  obtain ⟨p2, e2, q0, q1⟩ := prime_at (i := k + 2) hq
  have el : ∀ s, mLst B (mCons (mCon (.int 2147483629)) (mCons (mCon (.int 2147483647)) (mCons (mCon (.int 2147483587)) (mCons (mCon (.int 2147483563)) (mCons (mCon (.int 2147483579)) mNil))))) s T = .ok (.ref (B.length + T.length)) (T ++ [.lst (primes.map A.int)]) := by
    intro s
    have z : 5 ≤ sizeLine := by decide
    simp [z, primes]
  generalize T ++ [.lst (primes.map A.int)] = T1 at *
  generalize B.length + T.length = q at *
  have b1 : 0 ≤ (x % p * 39373 + k * (30011 * k + 8117) + 23) % p := Int.emod_nonneg _ (by omega)
  have b2 : (x % p * 39373 + k * (30011 * k + 8117) + 23) % p < p := Int.emod_lt_of_pos _ p0
  have c1 : 0 ≤ x % p := Int.emod_nonneg _ (by omega)
  have c2 : x % p < p := Int.emod_lt_of_pos _ p0
  have f1 : fMul (.int (x % p)) (.int 39373) T1 = .ok (.int (x % p * 39373)) T1 := v_mulR (by decide) (by decide)
  have f2 : fMul (.int 30011) (.int k) T1 = .ok (.int (30011 * k)) T1 := v_mulL (by decide) (by decide)
  have f3 : fMul (.int k) (.int (30011 * k + 8117)) T1 = .ok (.int (k * (30011 * k + 8117))) T1 := v_mulL (by omega) (by omega)
  generalize hx : (x % p * 39373 + k * (30011 * k + 8117) + 23) % p = m1 at *
  have f4 : fMul (.int m1) (.int (m1 + 69621)) T1 = .ok (.int (m1 * (m1 + 69621))) T1 := v_mulL (by omega) (by omega)
  have b3 : 0 ≤ (m1 * (m1 + 69621)) % p2 := Int.emod_nonneg _ (by omega)
  have b4 : (m1 * (m1 + 69621)) % p2 < p2 := Int.emod_lt_of_pos _ q0
  generalize hy : (m1 * (m1 + 69621)) % p2 = m2 at *
  have f5 : fMul (.int m2) (.int m2) T1 = .ok (.int (m2 * m2)) T1 := v_mulL (by omega) (by omega)
  have f6 : fMul (.int 16807) (.int m2) T1 = .ok (.int (16807 * m2)) T1 := v_mulL (by decide) (by decide)
  have g5 : ∀ i : Int, fMod (.int i) (.int 5) T1 = .ok (.int (i % 5)) T1 := fun i => v_mod (by decide)
  have gp : ∀ i : Int, fMod (.int i) (.int p) T1 = .ok (.int (i % p)) T1 := fun i => v_mod p0
  have gp2 : ∀ i : Int, fMod (.int i) (.int p2) T1 = .ok (.int (i % p2)) T1 := fun i => v_mod q0
  have gl : ∀ i : Int, fMod (.int i) (.int 2147483549) T1 = .ok (.int (i % 2147483549)) T1 := fun i => v_mod (by decide)
  have gm : ∀ i : Int, fMod (.int i) (.int many) T1 = .ok (.int (i % many)) T1 := fun i => v_mod h0
  have gd : ∀ i : Int, fDiv (.int i) (.int 64) T1 = .ok (.int (i / 64)) T1 := fun i => v_div (by decide) (by decide)
  refine ⟨((m2 * m2 + 16807 * m2 + k) % 2147483549 / 64) % many, Int.emod_nonneg _ (by omega), Int.emod_lt_of_pos _ h0, ?_⟩
  unfold mMix
  rw [ev_mSeq, ev_mAsg, el]
  simp [v_int, g5, e1, gp, f1, f2, f3, hx, f4, e2, gp2, hy, f5, f6, gl, gd, gm]
end
end K01
end
section
set_option Elab.async false
set_option linter.all false
set_option maxRecDepth 100000
set_option maxHeartbeats 2000000
namespace K01
open PySem PySem.Spec PyProof.Rows L2 Ev
section
variable {B T : List O} {P C : Nat} {k m many : Int} {ns : List Int}
noncomputable def mBig (B : List O) : MS := mIf (mAnd (mTest (mBin fLt (mVar 3) (mCall (fLen B) (mCons (mBin (fDGet B) (mVar 0) (mCon (.str "cells"))) mNil)))) (mTest (mBin fGe (mCall fAbs (mCons (mVar 4) mNil)) (mBin fPow (mCon (.int 10)) (mCon (.int 18)))))) (mSeq (mAsg (gSubA B (mVar 0) (mCon (.str "left"))) (mBin fDiv (mBin fSub (mCall fAbs (mCons (mVar 4) mNil)) (mBin fPow (mCon (.int 10)) (mCon (.int 18)))) (mVar 1))) (mRet (mBin fMod (mBin fSub (mCall fAbs (mCons (mVar 4) mNil)) (mBin fPow (mCon (.int 10)) (mCon (.int 18)))) (mVar 1)))) mNext
theorem big_no {c L : Int} {T2 : List O} (g2 : fDGet B (.ref P) (.str "cells") T2 = .ok (.ref C) T2) (l2 : fLen B [.ref C] T2 = .ok (.int L) T2) (h : ¬ (k < L ∧ 1000000000000000000 ≤ (if c < 0 then -c else c))) :
    mBig B [some (.ref P), some (.int many), none, some (.int k), some (.int c), none, none, none] T2 = .ok (.nx [some (.ref P), some (.int many), none, some (.int k), some (.int c), none, none, none]) T2 := by
  unfold mBig
  by_cases q1 : k < L
  · have q2 : ¬ (1000000000000000000 ≤ (if c < 0 then -c else c)) := fun z => h ⟨q1, z⟩
    generalize hn : (if c < 0 then -c else c) = ca at *
    simp only [ev_mIf, ev_mAnd, ev_mTest, ev_mBin, ev_mCall, ev_mCons, ev_mNil, ev_mVar, ev_mCon, List.getElem?_cons_zero, List.getElem?_cons_succ, bind_ok, g2, l2, ev_fLt, ev_asB, q1, decide_true, cond_true, v_abs, hn, v_pow, ev_fGe, q2, decide_false, cond_false, ev_mNext]
  · simp only [ev_mIf, ev_mAnd, ev_mTest, ev_mBin, ev_mCall, ev_mCons, ev_mNil, ev_mVar, ev_mCon, List.getElem?_cons_zero, List.getElem?_cons_succ, bind_ok, g2, l2, ev_fLt, ev_asB, q1, decide_false, cond_false, ev_mNext]
theorem big_yes {c L : Int} {T2 T3 : List O} (g2 : fDGet B (.ref P) (.str "cells") T2 = .ok (.ref C) T2) (l2 : fLen B [.ref C] T2 = .ok (.int L) T2) (h0 : 0 < many) (h1 : many < 1073741824) (q1 : k < L) (q2 : 1000000000000000000 ≤ (if c < 0 then -c else c))
    (w2 : ∀ s, gPut B (.ref P) (.str "left") (.int (((if c < 0 then -c else c) - 1000000000000000000) / many)) s T2 = .ok s T3) :
    mBig B [some (.ref P), some (.int many), none, some (.int k), some (.int c), none, none, none] T2 = .ok (.rt (.int (((if c < 0 then -c else c) - 1000000000000000000) % many))) T3 := by
  unfold mBig
  generalize hn : (if c < 0 then -c else c) = ca at *
  have hs : ∀ T, fSub (.int ca) (.int 1000000000000000000) T = .ok (.int (ca - 1000000000000000000)) T := fun _ => rfl
  have vp : ∀ T, fPow (.int 10) (.int 18) T = .ok (.int 1000000000000000000) T := fun _ => v_pow
  generalize (1000000000000000000 : Int) = big at *
  have vd : ∀ T, fDiv (.int (ca - big)) (.int many) T = .ok (.int ((ca - big) / many)) T := fun T => v_div h0 h1
  have vm : ∀ T, fMod (.int (ca - big)) (.int many) T = .ok (.int ((ca - big) % many)) T := fun T => v_mod h0
  simp only [ev_mIf, ev_mAnd, ev_mTest, ev_mBin, ev_mCall, ev_mCons, ev_mNil, ev_mVar, ev_mCon, List.getElem?_cons_zero, List.getElem?_cons_succ, bind_ok, g2, l2, ev_fLt, ev_asB, q1, decide_true, cond_true, v_abs, hn, vp, ev_fGe, q2, ev_mSeq, ev_mAsg, hs, vd, gSubA, w2, ev_then_nx, ev_mRet, vm]
end
end K01
end
section
set_option Elab.async false
set_option linter.all false
set_option maxRecDepth 100000
set_option maxHeartbeats 1000000
namespace K01
open PySem PySem.Spec PyProof.Rows L2 Ev
section
variable {B T : List O} {P C : Nat} {k m many : Int} {ns : List Int}
theorem draw_eq2 {B : List O} : m__law_draw B = (mSeq (mIf (mTest (mBin fGt (mBin (fDGet B) (mVar 0) (mCon (.str "left"))) (mCon (.int 0)))) (mSeq (mAsg (gN 2) (mBin fMod (mCall fInt (mCons (mBin (fDGet B) (mVar 0) (mCon (.str "left"))) mNil)) (mVar 1))) (mSeq (mAsg (gSubA B (mVar 0) (mCon (.str "left"))) (mBin fDiv (mBin (fDGet B) (mVar 0) (mCon (.str "left"))) (mVar 1))) (mRet (mVar 2)))) mNext) (mSeq (mAsg (gN 3) (mBin (fDGet B) (mVar 0) (mCon (.str "turn")))) (mSeq (mAsg (gSubA B (mVar 0) (mCon (.str "turn"))) (mBin (fAdd B) (mVar 3) (mCon (.int 1)))) (mSeq (mAsg (gN 4) (mBin (fAdd B) (mBin fMul (mCon (.int 43)) (mVar 3)) (mCon (.int 19)))) (mSeq (mIf (mTest (mBin (fEq B true) (mBin (fDGet B) (mVar 0) (mCon (.str "cells"))) (mLst B mNil))) (mAsg (gN 4) (mBin (fIx B) (mBin (fDGet B) (mVar 0) (mCon (.str "cells"))) (mBin fMod (mCall fInt (mCons (mVar 3) mNil)) (mCall (fLen B) (mCons (mBin (fDGet B) (mVar 0) (mCon (.str "cells"))) mNil))))) mNext) (mSeq (mBig B) (mMix B))))))) := rfl
theorem draw_new (hb : B.length ≤ P) (hP : (B ++ T)[P]? = some (penD C k m)) (hC : (B ++ T)[C]? = some (.lst (ns.map A.int))) (hne : C ≠ P) (hk : 0 ≤ k) (hk2 : k < 2 ^ 40) (h0 : 0 < many) (h1 : many < 1073741824) (hm : ¬ 0 < m) :
    ∃ r m' j, 0 ≤ r ∧ r < many ∧ runF 8 m__law_draw B [.ref P, .int many] T = .ok (.int r) (T.set (P - B.length) (penD C (k + 1) m') ++ j) := by
  have a1 := pen_left hP
  have a2 := pen_turn hP
  have a3 : ∀ s, gPut B (.ref P) (.str "turn") (.int (k + 1)) s T = .ok s (T.set (P - B.length) (penD C (k + 1) m)) := fun s => pen_setT hb hP
  have P1 : (B ++ T.set (P - B.length) (penD C (k + 1) m))[P]? = some (penD C (k + 1) m) := fz_at hb hP
  have C1 : (B ++ T.set (P - B.length) (penD C (k + 1) m))[C]? = some (.lst (ns.map A.int)) := by
    rw [← set_top hb, List.getElem?_set_ne (fun q => hne q.symm)]
    exact hC
  have hset : ∀ m' (l : List O), (T.set (P - B.length) (penD C (k + 1) m) ++ l).set (P - B.length) (penD C (k + 1) m') = T.set (P - B.length) (penD C (k + 1) m') ++ l := by
    intro m' l
    have hl : P - B.length < (T.set (P - B.length) (penD C (k + 1) m)).length := by
      have := (List.getElem?_eq_some_iff.mp hP).1
      rw [List.length_append] at this
      rw [List.length_set]
      omega
    rw [List.set_append_left _ _ hl, List.set_set]
  have f0 : fMul (.int 43) (.int k) (T.set (P - B.length) (penD C (k + 1) m)) = .ok (.int (43 * k)) (T.set (P - B.length) (penD C (k + 1) m)) := v_mulL (by decide) (by decide)
  have g1 := pen_cells P1
  have P2 := get_old (l := [O.lst []]) P1
  have C2 := get_old (l := [O.lst []]) C1
  have g2 := pen_cells P2
  have n1 : fEq B true (.ref C) (.ref (B.length + (T.set (P - B.length) (penD C (k + 1) m)).length)) (T.set (P - B.length) (penD C (k + 1) m) ++ [.lst []]) = .ok (.bl (!ns.isEmpty)) (T.set (P - B.length) (penD C (k + 1) m) ++ [.lst []]) :=
    eq_nil (by simp [rdL, C2]) (by unfold rdL; rw [get_new]; rfl)
  have l2 : fLen B [.ref C] (T.set (P - B.length) (penD C (k + 1) m) ++ [.lst []]) = .ok (.int ns.length) (T.set (P - B.length) (penD C (k + 1) m) ++ [.lst []]) := by simp [fLen, lenA, C2]
  have s2 : seqOf (B ++ (T.set (P - B.length) (penD C (k + 1) m) ++ [.lst []])) (.ref C) = some (ns.map A.int) := by simp [seqOf, rdL, C2]
  have z0 : 0 ≤ sizeLine := Nat.zero_le _
  generalize hT1 : T.set (P - B.length) (penD C (k + 1) m) = T1 at *
  have hn : ∀ s, mLst B mNil s T1 = .ok (.ref (B.length + T1.length)) (T1 ++ [.lst []]) := by
    intro s
    simp
  have w2 : ∀ s m', gPut B (.ref P) (.str "left") (.int m') s (T1 ++ [.lst []]) = .ok s (T.set (P - B.length) (penD C (k + 1) m') ++ [.lst []]) := by
    intro s m'
    rw [pen_setL hb P2, hset]
  generalize hT2 : T1 ++ [O.lst []] = T2 at *
  -- the cell
  have cell : ∃ x : Int, ns ≠ [] → fIx B (.ref C) (.int (k % ns.length)) T2 = .ok (.int x) T2 := by
    by_cases he : ns = []
    · exact ⟨0, fun h => absurd he h⟩
    · have hl : 0 < (ns.length : Int) := by
        have := List.length_pos_iff.mpr he
        omega
      obtain ⟨x, hx⟩ := at_int (ns := ns) (Int.emod_nonneg k (by omega : (ns.length : Int) ≠ 0)) (Int.emod_lt_of_pos k hl)
      exact ⟨x, fun _ => by simp [fIx, s2, hx]⟩
  obtain ⟨x, hx⟩ := cell
  have tail : ∀ c : Int, ∃ r m' j, 0 ≤ r ∧ r < many ∧ ((mBig B [some (.ref P), some (.int many), none, some (.int k), some (.int c), none, none, none] T2).bind fun fl t1 => andThen fl t1 (mMix B)).bind endF = .ok (.int r) (T.set (P - B.length) (penD C (k + 1) m') ++ j) := by
    intro c
    obtain ⟨r, r0, r1, e⟩ := mix_ok (B := B) (T := T2) (P := P) (x := c) (y := none) hk hk2 h0
    have e' : T2 ++ [O.lst (primes.map A.int)] = T.set (P - B.length) (penD C (k + 1) m) ++ ([.lst []] ++ [O.lst (primes.map A.int)]) := by
      rw [← hT2, ← hT1, List.append_assoc]
    by_cases q : k < (ns.length : Int) ∧ 1000000000000000000 ≤ (if c < 0 then -c else c)
    · have e2 := big_yes (T3 := T.set (P - B.length) (penD C (k + 1) (((if c < 0 then -c else c) - 1000000000000000000) / many)) ++ [.lst []]) g2 l2 h0 h1 q.1 q.2 fun s => w2 s _
      generalize ((if c < 0 then -c else c) - 1000000000000000000) = y at e2
      exact ⟨y % many, y / many, [.lst []], Int.emod_nonneg _ (by omega), Int.emod_lt_of_pos _ h0, by rw [e2]; rfl⟩
    · refine ⟨r, m, [.lst []] ++ [O.lst (primes.map A.int)], r0, r1, ?_⟩
      rw [← e', big_no g2 l2 q, bind_ok, ev_then_nx, e]
      rfl
  rw [ev_runF, draw_eq2]
  have st : startA 8 [A.ref P, .int many] = [some (.ref P), some (.int many), none, none, none, none, none, none] := rfl
  rw [st]
  have hm' : decide (0 < m) = false := by simpa using hm
  cases he : ns.isEmpty with
  | true =>
    obtain ⟨r, m', j, r0, r1, e⟩ := tail (43 * k + 19)
    refine ⟨r, m', j, r0, r1, ?_⟩
    rw [he] at n1
    rw [ev_mSeq, ev_mIf]
    simp (config := {implicitDefEqProofs := false}) only [ev_mTest, ev_mBin, ev_mVar, ev_mCon, List.getElem?_cons_zero, List.getElem?_cons_succ, bind_ok, a1, ev_fGt, ev_asB, hm', cond_false, ev_mNext, ev_then_nx]
    rw [ev_mSeq]
    simp (config := {implicitDefEqProofs := false}) only [ev_mAsg, ev_mBin, ev_mVar, ev_mCon, List.getElem?_cons_zero, List.getElem?_cons_succ, bind_ok, a2, ev_gN, List.set_cons_zero, List.set_cons_succ, ev_then_nx]
    rw [ev_mSeq]
    simp (config := {implicitDefEqProofs := false}) only [ev_mAsg, gSubA, ev_mBin, ev_mVar, ev_mCon, List.getElem?_cons_zero, List.getElem?_cons_succ, bind_ok, ev_fAddI, a3, ev_then_nx]
    rw [ev_mSeq]
    simp (config := {implicitDefEqProofs := false}) only [ev_mAsg, ev_mBin, ev_mVar, ev_mCon, List.getElem?_cons_zero, List.getElem?_cons_succ, bind_ok, f0, ev_fAddI, ev_gN, List.set_cons_zero, List.set_cons_succ, ev_then_nx]
    rw [ev_mSeq, ev_mIf]
    simp (config := {implicitDefEqProofs := false}) only [ev_mTest, ev_mBin, ev_mVar, ev_mCon, List.getElem?_cons_zero, List.getElem?_cons_succ, bind_ok, g1, hn, n1, ev_asB, Bool.not_true, cond_false, ev_mNext, ev_then_nx]
    rw [ev_mSeq]
    exact e
  | false =>
    have hne0 : ns ≠ [] := fun q => by rw [q] at he; cases he
    have hl : 0 < (ns.length : Int) := by
      have := List.length_pos_iff.mpr hne0
      omega
    have hx' := hx hne0
    obtain ⟨r, m', j, r0, r1, e⟩ := tail x
    refine ⟨r, m', j, r0, r1, ?_⟩
    rw [he] at n1
    rw [ev_mSeq, ev_mIf]
    simp (config := {implicitDefEqProofs := false}) only [ev_mTest, ev_mBin, ev_mVar, ev_mCon, List.getElem?_cons_zero, List.getElem?_cons_succ, bind_ok, a1, ev_fGt, ev_asB, hm', cond_false, ev_mNext, ev_then_nx]
    rw [ev_mSeq]
    simp (config := {implicitDefEqProofs := false}) only [ev_mAsg, ev_mBin, ev_mVar, ev_mCon, List.getElem?_cons_zero, List.getElem?_cons_succ, bind_ok, a2, ev_gN, List.set_cons_zero, List.set_cons_succ, ev_then_nx]
    rw [ev_mSeq]
    simp (config := {implicitDefEqProofs := false}) only [ev_mAsg, gSubA, ev_mBin, ev_mVar, ev_mCon, List.getElem?_cons_zero, List.getElem?_cons_succ, bind_ok, ev_fAddI, a3, ev_then_nx]
    rw [ev_mSeq]
    simp (config := {implicitDefEqProofs := false}) only [ev_mAsg, ev_mBin, ev_mVar, ev_mCon, List.getElem?_cons_zero, List.getElem?_cons_succ, bind_ok, f0, ev_fAddI, ev_gN, List.set_cons_zero, List.set_cons_succ, ev_then_nx]
    rw [ev_mSeq, ev_mIf]
    simp (config := {implicitDefEqProofs := false}) only [ev_mTest, ev_mBin, ev_mVar, ev_mCon, List.getElem?_cons_zero, List.getElem?_cons_succ, bind_ok, g1, hn, n1, ev_asB, Bool.not_false, cond_true, ev_mAsg, g2, ev_mCall, ev_mCons, ev_mNil, v_int, l2, v_mod hl, hx', ev_gN, List.set_cons_zero, List.set_cons_succ, ev_then_nx]
    rw [ev_mSeq]
    exact e
theorem draw_ok (hb : B.length ≤ P) (hP : (B ++ T)[P]? = some (penD C k m)) (hC : (B ++ T)[C]? = some (.lst (ns.map A.int))) (hne : C ≠ P) (hk : 0 ≤ k) (hk2 : k < 2 ^ 40) (h0 : 0 < many) (h1 : many < 1073741824) :
    ∃ r k' m' j, 0 ≤ r ∧ r < many ∧ 0 ≤ k' ∧ k' ≤ k + 1 ∧ f__law_draw B [.ref P, .int many] T = .ok (.int r) (T.set (P - B.length) (penD C k' m') ++ j) := by
  by_cases hm : 0 < m
  · have e := draw_left hb hP h0 h1 hm
    obtain ⟨j, e'⟩ := gc_some (j := []) (t1 := T.set (P - B.length) (penD C k (m / many))) (by rw [List.append_nil]; exact e) (by simp)
    exact ⟨_, k, m / many, j, Int.emod_nonneg _ (by omega), Int.emod_lt_of_pos _ h0, hk, by omega, e'⟩
  · obtain ⟨r, m', j, r0, r1, e⟩ := draw_new hb hP hC hne hk hk2 h0 h1 hm
    obtain ⟨j', e'⟩ := gc_some (t1 := T.set (P - B.length) (penD C (k + 1) m')) e (by simp)
    exact ⟨r, k + 1, m', j', r0, r1, by omega, by omega, e'⟩
end
end K01
end
section
set_option Elab.async false
set_option linter.all false
set_option maxRecDepth 100000
set_option maxHeartbeats 1000000
namespace K01
open PySem PySem.Spec PyProof.Rows L2 Ev
def B0 (ns : List Int) : List O := [.ro (ns.map A.int)]
def hp0 (ns : List Int) (k m : Int) (j : List O) : List O := .lst (ns.map A.int) :: .lst (ns.map A.int) :: penD 2 k m :: j
section
variable {α β : Type} {ns : List Int} {k m : Int} {j : List O}
theorem hp_app {l : List O} : hp0 ns k m j ++ l = hp0 ns k m (j ++ l) := rfl
theorem hp_len : (B0 ns).length + (hp0 ns k m j).length = j.length + 4 := by simp [B0, hp0]; omega
theorem hp_get {p : Nat} : (B0 ns ++ hp0 ns k m j)[p + 4]? = j[p]? := rfl
theorem mk_hp {o : O} : mkO (B0 ns) o (hp0 ns k m j) = .ok (.ref (j.length + 4)) (hp0 ns k m (j ++ [o])) := by
  rw [ev_mkO, hp_len, hp_app]
theorem j_new {l : List O} : (j ++ l)[j.length]? = l[0]? := by
  rw [List.getElem?_append_right (Nat.le_refl _), Nat.sub_self]
theorem j_old {l : List O} {p : Nat} {o : O} (h : j[p]? = some o) : (j ++ l)[p]? = some o := by
  rw [List.getElem?_append_left (List.getElem?_eq_some_iff.mp h).1]
  exact h
/-- a run that draws -/
structure Go (ns : List Int) (c : Nat) (k : Int) (j : List O) (Φ : α → List O → Prop) (r : Res α) : Prop where
  ok : ∃ a k' m' j', r = .ok a (hp0 ns k' m' (j ++ j')) ∧ 0 ≤ k' ∧ k' ≤ k + c ∧ Φ a (j ++ j')
theorem Go.pure {Φ : α → List O → Prop} {a : α} {l : List O} (hk : 0 ≤ k) (h : Φ a (j ++ l)) : Go ns 0 k j Φ (.ok a (hp0 ns k m (j ++ l))) := ⟨a, k, m, l, rfl, hk, by omega, h⟩
theorem Go.bind {c d : Nat} {Φ : α → List O → Prop} {Ψ : β → List O → Prop} {r : Res α} {f : α → List O → Res β} (h : Go ns c k j Φ r) (g : ∀ a k' m' j', 0 ≤ k' → k' ≤ k + c → Φ a (j ++ j') → Go ns d k' (j ++ j') Ψ (f a (hp0 ns k' m' (j ++ j')))) : Go ns (c + d) k j Ψ (r.bind f) := by
  obtain ⟨a, k', m', j', e, h0, h1, q⟩ := h.ok
  obtain ⟨b, k2, m2, j2, e2, g0, g1, q2⟩ := (g a k' m' j' h0 h1 q).ok
  refine ⟨b, k2, m2, j' ++ j2, ?_, g0, by omega, ?_⟩
  · rw [e, bind_ok, e2, List.append_assoc]
  · rw [← List.append_assoc]; exact q2
theorem Go.imp {c d : Nat} {Φ Ψ : α → List O → Prop} {r : Res α} (h : Go ns c k j Φ r) (hc : c ≤ d) (g : ∀ a J, Φ a J → Ψ a J) : Go ns d k j Ψ r := by
  obtain ⟨a, k', m', j', e, h0, h1, q⟩ := h.ok
  exact ⟨a, k', m', j', e, h0, by omega, g _ _ q⟩
theorem hp_take {k' m' : Int} {j' : List O} : (hp0 ns k' m' (j ++ j')).take (hp0 ns k m j).length = hp0 ns k' m' j := by simp [hp0]
theorem gc_go {c : Nat} {Φ : A → Prop} {mf : MF} {as : List A} (h : Go ns c k j (fun a _ => Φ a) (mf (B0 ns) as (hp0 ns k m j))) : Go ns c k j (fun a _ => Φ a) (gcF mf (B0 ns) as (hp0 ns k m j)) := by
  obtain ⟨a, k', m', j', e, h0, h1, q⟩ := h.ok
  unfold gcF
  rw [e]
  unfold cutR
  simp only [hp_take]
  split
  · exact ⟨a, k', m', [], by simp, h0, h1, q⟩
  · split
    · rename_i h2
      exact ⟨a, k', m', [], by rw [List.append_nil, ← h2.2, hp_take], h0, h1, q⟩
    · exact ⟨a, k', m', j', rfl, h0, h1, q⟩
/-- the same for what may name new objects -/
theorem gc_goX {c : Nat} {Φ : A → List O → Prop} {mf : MF} {as : List A} (h : Go ns c k j Φ (mf (B0 ns) as (hp0 ns k m j))) (hx : ∀ a j', Φ a (j ++ j') → below (j.length + 4) a = true → Φ a j) : Go ns c k j Φ (gcF mf (B0 ns) as (hp0 ns k m j)) := by
  obtain ⟨a, k', m', j', e, h0, h1, q⟩ := h.ok
  unfold gcF
  rw [e]
  unfold cutR
  simp only [hp_take, hp_len]
  split
  · rename_i h2
    exact ⟨a, k', m', [], by simp, h0, h1, by rw [List.append_nil]; exact hx a j' q (He.ba h2).1⟩
  · split
    · rename_i h2
      exact ⟨a, k', m', [], by rw [List.append_nil, ← h2.2, hp_take], h0, h1, by rw [List.append_nil]; exact hx a j' q (by rw [← hp_len (ns := ns) (k := k) (m := m)]; exact h2.1)⟩
    · exact ⟨a, k', m', j', rfl, h0, h1, q⟩
theorem draw_go {many : Int} (hk : 0 ≤ k) (hk2 : k < 1000000000) (h0 : 0 < many) (h1 : many < 1000000000) : Go ns 1 k j (fun a _ => ∃ r : Int, a = .int r ∧ 0 ≤ r ∧ r < many) (f__law_draw (B0 ns) [.ref 3, .int many] (hp0 ns k m j)) := by
  obtain ⟨r, k', m', j', r0, r1, k0, k1, e⟩ := draw_ok (B := B0 ns) (T := hp0 ns k m j) (P := 3) (C := 2) (k := k) (m := m) (ns := ns) (by show 1 ≤ 3; decide) rfl rfl (by decide) hk (Int.lt_trans hk2 (by decide)) h0 (Int.lt_trans h1 (by decide))
  exact ⟨.int r, k', m', j', e, k0, k1, r, rfl, r0, r1⟩
theorem at_in {xs : List A} {i : Int} (h0 : 0 ≤ i) (h1 : i < xs.length) : ∃ y, atI xs i = some y ∧ y ∈ xs := by
  have hl : i.toNat < xs.length := by omega
  refine ⟨xs[i.toNat], ?_, List.getElem_mem hl⟩
  unfold atI ixN
  rw [if_pos h0, if_pos (by omega)]
  simp [hl]
theorem ix_go {xs : List A} {L : Nat} {i : Int} (hL : j[L]? = some (.lst xs)) (h0 : 0 ≤ i) (h1 : i < xs.length) : ∃ y, y ∈ xs ∧ fIx (B0 ns) (.ref (L + 4)) (.int i) (hp0 ns k m j) = .ok y (hp0 ns k m j) := by
  obtain ⟨y, e, hy⟩ := at_in h0 h1
  refine ⟨y, hy, ?_⟩
  have e1 : seqOf (B0 ns ++ hp0 ns k m j) (.ref (L + 4)) = some xs := by simp only [seqOf, rdL, hp_get, hL]
  simp only [fIx, e1, e]
theorem pick_go {xs : List A} {L : Nat} (hk : 0 ≤ k) (hk2 : k < 1000000000) (hL : j[L]? = some (.lst xs)) (hx : xs ≠ []) (hl : xs.length < 1000) : Go ns 1 k j (fun a _ => a ∈ xs) (f__law_pick (B0 ns) [.ref 3, .ref (L + 4)] (hp0 ns k m j)) := by
  refine gc_go ?_
  have hp : 0 < xs.length := List.length_pos_iff.mpr hx
  have e1 : fLen (B0 ns) [.ref (L + 4)] (hp0 ns k m j) = .ok (.int xs.length) (hp0 ns k m j) := by simp only [fLen, lenA, hp_get, hL]
  obtain ⟨a, k', m', j', e, k0, k1, r, rfl, r0, r1⟩ := (draw_go (ns := ns) (m := m) (j := j) (many := (xs.length : Int)) hk hk2 (by omega) (by omega)).ok
  obtain ⟨y, hy, e2⟩ := ix_go (ns := ns) (k := k') (m := m') (j_old (l := j') hL) r0 r1
  refine ⟨y, k', m', j', ?_, k0, k1, hy⟩
  simp [m__law_pick, e1, e, e2]
end
end K01
end
section
set_option Elab.async false
set_option linter.all false
set_option maxRecDepth 100000
set_option maxHeartbeats 1000000
namespace K01
open PySem PySem.Spec PyProof.Rows L2 Ev
/-- an int that may stand anywhere -/
def small (i : Int) : Prop := -(10 ^ 60) < i ∧ i < 10 ^ 60
section
variable {ns : List Int} {k m : Int} {j : List O}
theorem pow31 {T : List O} : fPow (.int 2) (.int 31) T = .ok (.int 2147483648) T := by kernel_rfl
theorem pow59 {T : List O} : fPow (.int 10) (.int 59) T = .ok (.int 100000000000000000000000000000000000000000000000000000000000) T := by kernel_rfl
theorem lst_hp {xs : List A} {ma : MA} {s : Sl} (h : ma s (hp0 ns k m j) = .ok xs (hp0 ns k m j)) (hl : xs.length ≤ 1000) : mLst (B0 ns) ma s (hp0 ns k m j) = .ok (.ref (j.length + 4)) (hp0 ns k m (j ++ [.lst xs])) := by
  have : xs.length ≤ sizeLine := Nat.le_trans hl (by decide)
  rw [ev_mLst, h, bind_ok, if_pos this, mk_hp]
theorem number_go (hk : 0 ≤ k) (hk2 : k < 999999990) : Go ns 2 k j (fun a _ => ∃ i, a = .int i ∧ small i) (f__law_number (B0 ns) [.ref 3] (hp0 ns k m j)) := by
  refine gc_go ?_
  obtain ⟨a, k', m', j', e, k0, k1, r, rfl, r0, r1⟩ := (draw_go (ns := ns) (m := m) (j := j) (many := 16) hk (by omega) (by decide) (by decide)).ok
  let xs : List A := [.int (r - 8), .int (r - 8), .int (r - 8), .int (r - 8), .int 8, .int (-9), .int (1000 + (r - 8)), .int 2147483647, .int (-2147483648)]
  obtain ⟨b, k2, m2, j2, e2, g0, g1, hb⟩ := (pick_go (ns := ns) (m := m') (j := (j ++ j') ++ [.lst xs]) (xs := xs) (L := (j ++ j').length) k0 (by omega) (by rw [j_new]; rfl) (by simp [xs]) (by simp [xs])).ok
  have el : mLst (B0 ns) (mCons (mVar 1) (mCons (mVar 1) (mCons (mVar 1) (mCons (mVar 1) (mCons (mCon (.int 8)) (mCons (mUn fNeg (mCon (.int 9))) (mCons (mBin (fAdd (B0 ns)) (mCon (.int 1000)) (mVar 1)) (mCons (mBin fSub (mBin fPow (mCon (.int 2)) (mCon (.int 31))) (mCon (.int 1))) (mCons (mBin fSub (mCon (.int 0)) (mBin fPow (mCon (.int 2)) (mCon (.int 31)))) mNil)))))))))
      [some (.ref 3), some (.int (r - 8))] (hp0 ns k' m' (j ++ j')) = .ok (.ref ((j ++ j').length + 4)) (hp0 ns k' m' ((j ++ j') ++ [.lst xs])) := lst_hp (by simp [pow31, xs]) (by simp [xs])
  have e3 : runF 2 m__law_number (B0 ns) [.ref 3] (hp0 ns k m j) = f__law_pick (B0 ns) [.ref 3, .ref ((j ++ j').length + 4)] (hp0 ns k' m' ((j ++ j') ++ [.lst xs])) := by
    have st : startA 2 [A.ref 3] = [some (.ref 3), none] := rfl
    rw [ev_runF, st]
    unfold m__law_number
    rw [ev_mSeq, ev_mAsg, ev_mBin, ev_mCallF]
    simp only [ev_mCons, ev_mNil, ev_mVar, ev_mCon, List.getElem?_cons_zero, bind_ok, List.length_cons, List.length_nil, if_true, e, ev_fSub, ev_gN, List.set_cons_succ, List.set_cons_zero, ev_then_nx, ev_mRet, ev_mCallF, el, e2, ev_end_rt]
  refine ⟨b, k2, m2, j' ++ ([.lst xs] ++ j2), ?_, g0, by omega, ?_⟩
  · rw [e3, e2]
    simp [List.append_assoc]
  · simp only [xs, List.mem_cons, List.not_mem_nil, or_false] at hb
    unfold small
    rcases hb with rfl | rfl | rfl | rfl | rfl | rfl | rfl | rfl | rfl <;> refine ⟨_, rfl, ?_, ?_⟩ <;> omega
end
end K01
end
section
set_option Elab.async false
set_option linter.all false
set_option maxRecDepth 100000
set_option maxHeartbeats 1000000
namespace K01
open PySem PySem.Spec PyProof.Rows L2 Ev
def words : List Str := ["num", "copy", "add", "sub", "mul", "addr", "same", "less", "in", "out", "push", "pop", "read", "write", "jump", "if", "unless", "call", "callr", "tail", "back", "stop"]
def WS : List Str := (["", "A", "abcdefghi", "link", "a b", "main", "a", "zz", "nothing"] : List Str) ++ words
/-- what may stand in a line -/
inductive El (j : List O) : A → Prop
  | int (i : Int) (h : small i) : El j (.int i)
  | non : El j .non
  | bl (b : Bool) : El j (.bl b)
  | str (w : Str) (h : w ∈ WS) : El j (.str w)
  | tup : El j (.tup [.int 0])
  | lst (p : Nat) (h : j[p]? = some (.lst [.int 0])) : El j (.ref (p + 4))
  | dic (p : Nat) (h : j[p]? = some (.dic [])) : El j (.ref (p + 4))
theorem El.old {j l : List O} {a : A} (h : El j a) : El (j ++ l) a := by
  cases h with
  | int i h => exact .int i h
  | non => exact .non
  | bl b => exact .bl b
  | str w h => exact .str w h
  | tup => exact .tup
  | lst p h => exact .lst p (j_old h)
  | dic p h => exact .dic p (j_old h)
theorem below_ref {n p : Nat} (h : below n (.ref p) = true) : p < n := by
  simpa [below, refsA] using h
theorem El.cut {j l : List O} {a : A} (h : El (j ++ l) a) (hb : below (j.length + 4) a = true) : El j a := by
  cases h with
  | int i h => exact .int i h
  | non => exact .non
  | bl b => exact .bl b
  | str w h => exact .str w h
  | tup => exact .tup
  | lst p h =>
    have := below_ref hb
    rw [List.getElem?_append_left (by omega)] at h
    exact .lst p h
  | dic p h =>
    have := below_ref hb
    rw [List.getElem?_append_left (by omega)] at h
    exact .dic p h
theorem eqs {x y : Str} {B T : List O} (b : Bool) (h : (PyData.strOk x && PyData.strOk y && (decide (x = y) == b)) = true) : fEq B false (.str x) (.str y) T = .ok (.bl b) T := by
  simp only [Bool.and_eq_true, beq_iff_eq] at h
  rw [eq_str h.1.1 h.1.2, h.2]
  rfl
section
variable {ns : List Int} {k m : Int} {j : List O} {s : Sl}
theorem lst_hpX {t : List O} {xs : List A} {ma : MA} (h : ma s t = .ok xs (hp0 ns k m j)) (hl : xs.length ≤ 1000) : mLst (B0 ns) ma s t = .ok (.ref (j.length + 4)) (hp0 ns k m (j ++ [.lst xs])) := by
  have : xs.length ≤ sizeLine := Nat.le_trans hl (by decide)
  rw [ev_mLst, h, bind_ok, if_pos this, mk_hp]
theorem dic_hp : mDic0 (B0 ns) s (hp0 ns k m j) = .ok (.ref (j.length + 4)) (hp0 ns k m (j ++ [.dic []])) := by
  rw [ev_mDic0, hp_len, hp_app]
theorem add_hp {p q : Nat} {xs ys : List A} (h1 : j[p]? = some (.lst xs)) (h2 : j[q]? = some (.lst ys)) (hl : xs.length + ys.length ≤ 1000) : fAdd (B0 ns) (.ref (p + 4)) (.ref (q + 4)) (hp0 ns k m j) = .ok (.ref (j.length + 4)) (hp0 ns k m (j ++ [.lst (xs ++ ys)])) := by
  have : xs.length + ys.length ≤ sizeLine := Nat.le_trans hl (by decide)
  simp only [fAdd, hp_get, h1, h2, if_pos this, mk_hp]
def any1 : List A := [.non, .bl true, .bl false, .int (-1), .int 6, .int 60, .int 2147483648, .int (-2147483649), .int 100000000000000000000000000000000000000000000000000000000000, .str "", .str "A", .str "abcdefghi", .str "link", .str "a b"]
def any2 (a b : Nat) : List A := [.tup [.int 0], .ref (a + 4), .ref (b + 4), .int 0, .int 5, .int 59, .str "main", .str "a", .str "zz", .int 2147483647]
def mAny1 : MA := (mCons (mCon .non) (mCons (mCon (.bl true)) (mCons (mCon (.bl false)) (mCons (mUn fNeg (mCon (.int 1))) (mCons (mCon (.int 6)) (mCons (mCon (.int 60)) (mCons (mBin fPow (mCon (.int 2)) (mCon (.int 31))) (mCons (mBin fSub (mBin fSub (mCon (.int 0)) (mBin fPow (mCon (.int 2)) (mCon (.int 31)))) (mCon (.int 1))) (mCons (mBin fPow (mCon (.int 10)) (mCon (.int 59))) (mCons (mCon (.str "")) (mCons (mCon (.str "A")) (mCons (mCon (.str "abcdefghi")) (mCons (mCon (.str "link")) (mCons (mCon (.str "a b")) mNil))))))))))))))
def mAny2 (B : List O) : MA := (mCons (mTup (mCons (mCon (.int 0)) mNil)) (mCons (mLst B (mCons (mCon (.int 0)) mNil)) (mCons (mDic0 B) (mCons (mCon (.int 0)) (mCons (mCon (.int 5)) (mCons (mCon (.int 59)) (mCons (mCon (.str "main")) (mCons (mCon (.str "a")) (mCons (mCon (.str "zz")) (mCons (mBin fSub (mBin fPow (mCon (.int 2)) (mCon (.int 31))) (mCon (.int 1))) mNil))))))))))
theorem any_eq {B : List O} : m__law_any_part B = mSeq (mAsg (gN 1) (mLst B mAny1)) (mRet (mCallF B 2 f__law_pick (mCons (mVar 0) (mCons (mBin (fAdd B) (mVar 1) (mLst B (mAny2 B))) mNil)))) := rfl
theorem any1_ok : mAny1 s (hp0 ns k m j) = .ok any1 (hp0 ns k m j) := by
  simp [mAny1, any1, pow31, pow59]
theorem any2_ok : mAny2 (B0 ns) s (hp0 ns k m j) = .ok (any2 j.length (j.length + 1)) (hp0 ns k m ((j ++ [.lst [.int 0]]) ++ [.dic []])) := by
  have a1 : mLst (B0 ns) (mCons (mCon (.int 0)) mNil) s (hp0 ns k m j) = .ok (.ref (j.length + 4)) (hp0 ns k m (j ++ [.lst [.int 0]])) := lst_hpX (by simp) (by simp)
  have a2 := dic_hp (ns := ns) (k := k) (m := m) (j := j ++ [.lst [.int 0]]) (s := s)
  rw [List.length_append] at a2
  have z : [A.int 0].length ≤ sizeLine := by show 1 ≤ sizeLine; decide
  have p31 : fPow (.int 2) (.int 31) (hp0 ns k m ((j ++ [.lst [.int 0]]) ++ [.dic []])) = .ok (.int 2147483648) (hp0 ns k m ((j ++ [.lst [.int 0]]) ++ [.dic []])) := pow31
  unfold mAny2
  simp only [ev_mCons, ev_mTup, ev_mCon, ev_mNil, bind_ok, if_pos z, a1, a2, ev_mBin, p31, ev_fSub]
  rfl
theorem any_go (hk : 0 ≤ k) (hk2 : k < 999999990) : Go ns 1 k j (fun a J => El J a) (f__law_any_part (B0 ns) [.ref 3] (hp0 ns k m j)) := by
  refine gc_goX ?_ (fun a j' h hb => h.cut hb)
  have st : startA 2 [A.ref 3] = [some (.ref 3), none] := rfl
  let J1 := j ++ [.lst any1]
  let J3 := (J1 ++ [.lst [.int 0]]) ++ [.dic []]
  let J4 := J3 ++ [.lst (any2 J1.length (J1.length + 1))]
  let L := any1 ++ any2 J1.length (J1.length + 1)
  have e1 : mLst (B0 ns) mAny1 [some (.ref 3), none] (hp0 ns k m j) = .ok (.ref (j.length + 4)) (hp0 ns k m J1) := lst_hpX any1_ok (by simp [any1])
  have e2 : mLst (B0 ns) (mAny2 (B0 ns)) [some (.ref 3), some (.ref (j.length + 4))] (hp0 ns k m J1) = .ok (.ref (J3.length + 4)) (hp0 ns k m J4) := lst_hpX any2_ok (by simp [any2])
  have g1 : J4[j.length]? = some (.lst any1) := by
    have : J4 = j ++ ([.lst any1] ++ ([.lst [.int 0]] ++ ([.dic []] ++ [.lst (any2 J1.length (J1.length + 1))]))) := by simp only [J4, J3, J1, List.append_assoc]
    rw [this, j_new]; rfl
  have g2 : J4[J3.length]? = some (.lst (any2 J1.length (J1.length + 1))) := by
    show (J3 ++ _)[J3.length]? = _
    rw [j_new]; rfl
  have e3 := add_hp (ns := ns) (k := k) (m := m) g1 g2 (by simp [any1, any2])
  obtain ⟨b, k2, m2, j2, e4, g0, g1', hb⟩ := (pick_go (ns := ns) (m := m) (j := J4 ++ [.lst L]) (xs := L) (L := J4.length) hk (by omega) (by rw [j_new]; rfl) (by simp [L, any1]) (by simp [L, any1, any2])).ok
  refine ⟨b, k2, m2, [.lst any1] ++ ([.lst [.int 0]] ++ ([.dic []] ++ ([.lst (any2 J1.length (J1.length + 1))] ++ ([.lst L] ++ j2)))), ?_, g0, g1', ?_⟩
  · rw [ev_runF, st, any_eq, ev_mSeq, ev_mAsg, e1, bind_ok, ev_gN]
    simp only [bind_ok, List.set_cons_succ, List.set_cons_zero, ev_then_nx, ev_mRet, ev_mCallF, ev_mCons, ev_mNil, ev_mVar, List.getElem?_cons_zero, List.getElem?_cons_succ, ev_mBin, e2, e3, List.length_cons, List.length_nil, if_true, e4, ev_end_rt]
    rw [e4]
    simp only [bind_ok, ev_end_rt]
    simp only [J4, J3, J1, List.append_assoc]
  · have ej : j ++ ([.lst any1] ++ ([.lst [.int 0]] ++ ([.dic []] ++ ([.lst (any2 J1.length (J1.length + 1))] ++ ([.lst L] ++ j2))))) = J1 ++ ([.lst [.int 0]] ++ ([.dic []] ++ ([.lst (any2 J1.length (J1.length + 1))] ++ ([.lst L] ++ j2)))) := by simp only [J1, List.append_assoc]
    have ej2 : J1 ++ ([.lst [.int 0]] ++ ([.dic []] ++ ([.lst (any2 J1.length (J1.length + 1))] ++ ([.lst L] ++ j2)))) = (J1 ++ [.lst [.int 0]]) ++ ([.dic []] ++ ([.lst (any2 J1.length (J1.length + 1))] ++ ([.lst L] ++ j2))) := by simp only [List.append_assoc]
    rw [ej]
    have hl : (J1 ++ ([.lst [.int 0]] ++ ([.dic []] ++ ([.lst (any2 J1.length (J1.length + 1))] ++ ([.lst L] ++ j2)))))[J1.length]? = some (.lst [.int 0]) := by rw [j_new]; rfl
    have hd : (J1 ++ ([.lst [.int 0]] ++ ([.dic []] ++ ([.lst (any2 J1.length (J1.length + 1))] ++ ([.lst L] ++ j2)))))[J1.length + 1]? = some (.dic []) := by
      rw [ej2]
      have : J1.length + 1 = (J1 ++ [O.lst [.int 0]]).length := by simp
      rw [this, j_new]; rfl
    have hb2 : b ∈ any1 ++ any2 J1.length (J1.length + 1) := hb
    rw [List.mem_append] at hb2
    have dw : ∀ w : Str, decide (w ∈ WS) = true → w ∈ WS := fun w h => of_decide_eq_true h
    rcases hb2 with hb | hb
    · simp only [any1, List.mem_cons, List.not_mem_nil, or_false] at hb
      rcases hb with rfl | rfl | rfl | rfl | rfl | rfl | rfl | rfl | rfl | rfl | rfl | rfl | rfl | rfl
      · exact .non
      · exact .bl _
      · exact .bl _
      · exact .int _ (by unfold small; omega)
      · exact .int _ (by unfold small; omega)
      · exact .int _ (by unfold small; omega)
      · exact .int _ (by unfold small; omega)
      · exact .int _ (by unfold small; omega)
      · exact .int _ (by unfold small; omega)
      · exact .str _ (dw _ (by kernel_rfl))
      · exact .str _ (dw _ (by kernel_rfl))
      · exact .str _ (dw _ (by kernel_rfl))
      · exact .str _ (dw _ (by kernel_rfl))
      · exact .str _ (dw _ (by kernel_rfl))
    · simp only [any2, List.mem_cons, List.not_mem_nil, or_false] at hb
      rcases hb with rfl | rfl | rfl | rfl | rfl | rfl | rfl | rfl | rfl | rfl
      · exact .tup
      · exact .lst _ hl
      · exact .dic _ hd
      · exact .int _ (by unfold small; omega)
      · exact .int _ (by unfold small; omega)
      · exact .int _ (by unfold small; omega)
      · exact .str _ (dw _ (by kernel_rfl))
      · exact .str _ (dw _ (by kernel_rfl))
      · exact .str _ (dw _ (by kernel_rfl))
      · exact .int _ (by unfold small; omega)
end
end K01
end
section
set_option Elab.async false
set_option linter.all false
set_option maxRecDepth 100000
set_option maxHeartbeats 1000000
namespace K01
open PySem PySem.Spec PyProof.Rows L2 Ev
section
variable {ns : List Int} {k m : Int} {j : List O} {s : Sl}
/-- a right part -/
def Pv (a : A) : Prop := (∃ i, a = .int i ∧ small i) ∨ ∃ w, a = .str w ∧ w ∈ WS
theorem Pv.el {a : A} (h : Pv a) : El j a := by
  rcases h with ⟨i, rfl, h⟩ | ⟨w, rfl, h⟩
  · exact .int i h
  · exact .str w h
theorem ws (w : Str) (h : decide (w ∈ WS) = true) : w ∈ WS := of_decide_eq_true h
theorem part_r (hk : 0 ≤ k) (hk2 : k < 999999990) : Go ns 2 k j (fun a _ => Pv a) (runF 2 m__law_part (B0 ns) [.ref 3, .str "r"] (hp0 ns k m j)) := by
  have q1 : ∀ T, fEq (B0 ns) false (.str "r") (.str "r") T = .ok (.bl true) T := fun T => eqs true (by kernel_rfl)
  obtain ⟨a, k', m', j', e, k0, k1, r, rfl, r0, r1⟩ := (draw_go (ns := ns) (m := m) (j := j) (many := 6) hk (by omega) (by decide) (by decide)).ok
  refine ⟨.int r, k', m', j', ?_, k0, by omega, .inl ⟨r, rfl, by unfold small; omega⟩⟩
  simp [m__law_part, q1, e]
theorem part_x (hk : 0 ≤ k) (hk2 : k < 999999990) : Go ns 2 k j (fun a _ => Pv a) (runF 2 m__law_part (B0 ns) [.ref 3, .str "x"] (hp0 ns k m j)) := by
  have q1 : ∀ T, fEq (B0 ns) false (.str "x") (.str "r") T = .ok (.bl false) T := fun T => eqs false (by kernel_rfl)
  have q2 : ∀ T, fEq (B0 ns) false (.str "x") (.str "x") T = .ok (.bl true) T := fun T => eqs true (by kernel_rfl)
  obtain ⟨a, k', m', j', e, k0, k1, r, rfl, r0, r1⟩ := (draw_go (ns := ns) (m := m) (j := j) (many := 2) hk (by omega) (by decide) (by decide)).ok
  have q3 : fEq (B0 ns) false (.int r) (.int 0) (hp0 ns k' m' (j ++ j')) = .ok (.bl (decide (r = 0))) (hp0 ns k' m' (j ++ j')) := Ev.eq_int
  by_cases hr : r = 0
  · obtain ⟨a2, k2, m2, j2, e2, g0, g1, r', rfl, r2, r3⟩ := (draw_go (ns := ns) (m := m') (j := j ++ j') (many := 6) k0 (by omega) (by decide) (by decide)).ok
    refine ⟨.int r', k2, m2, j' ++ j2, ?_, g0, by omega, .inl ⟨r', rfl, by unfold small; omega⟩⟩
    subst hr
    simp [m__law_part, q1, q2, e, q3, e2]
  · refine ⟨.str "link", k', m', j', ?_, k0, by omega, .inr ⟨_, rfl, ws _ (by kernel_rfl)⟩⟩
    simp [m__law_part, q1, q2, e, q3, hr]
theorem part_n (hk : 0 ≤ k) (hk2 : k < 999999990) : Go ns 2 k j (fun a _ => Pv a) (runF 2 m__law_part (B0 ns) [.ref 3, .str "n"] (hp0 ns k m j)) := by
  have q1 : ∀ T, fEq (B0 ns) false (.str "n") (.str "r") T = .ok (.bl false) T := fun T => eqs false (by kernel_rfl)
  have q2 : ∀ T, fEq (B0 ns) false (.str "n") (.str "x") T = .ok (.bl false) T := fun T => eqs false (by kernel_rfl)
  have q3 : ∀ T, fEq (B0 ns) false (.str "n") (.str "n") T = .ok (.bl true) T := fun T => eqs true (by kernel_rfl)
  obtain ⟨a, k', m', j', e, k0, k1, i, rfl, h⟩ := (number_go (ns := ns) (m := m) (j := j) hk hk2).ok
  refine ⟨.int i, k', m', j', ?_, k0, k1, .inl ⟨i, rfl, h⟩⟩
  simp [m__law_part, q1, q2, q3, e]
theorem part_k (hk : 0 ≤ k) (hk2 : k < 999999990) : Go ns 2 k j (fun a _ => Pv a) (runF 2 m__law_part (B0 ns) [.ref 3, .str "k"] (hp0 ns k m j)) := by
  have q1 : ∀ T, fEq (B0 ns) false (.str "k") (.str "r") T = .ok (.bl false) T := fun T => eqs false (by kernel_rfl)
  have q2 : ∀ T, fEq (B0 ns) false (.str "k") (.str "x") T = .ok (.bl false) T := fun T => eqs false (by kernel_rfl)
  have q3 : ∀ T, fEq (B0 ns) false (.str "k") (.str "n") T = .ok (.bl false) T := fun T => eqs false (by kernel_rfl)
  have q4 : ∀ T, fEq (B0 ns) false (.str "k") (.str "k") T = .ok (.bl true) T := fun T => eqs true (by kernel_rfl)
  obtain ⟨a, k', m', j', e, k0, k1, h⟩ := (pick_go (ns := ns) (m := m) (j := j ++ [.lst [.int 0, .int 1, .int 59]]) (xs := [.int 0, .int 1, .int 59]) (L := j.length) hk (by omega) (by rw [j_new]; rfl) (by simp) (by simp)).ok
  have el : ∀ s, mLst (B0 ns) (mCons (mCon (.int 0)) (mCons (mCon (.int 1)) (mCons (mCon (.int 59)) mNil))) s (hp0 ns k m j) = .ok (.ref (j.length + 4)) (hp0 ns k m (j ++ [.lst [.int 0, .int 1, .int 59]])) := fun s => lst_hpX (by simp) (by simp)
  refine ⟨a, k', m', [.lst [.int 0, .int 1, .int 59]] ++ j', ?_, k0, by omega, .inl ?_⟩
  · simp [-ev_mLst, m__law_part, q1, q2, q3, q4, el, e]
  · simp only [List.mem_cons, List.not_mem_nil, or_false] at h
    unfold small
    rcases h with rfl | rfl | rfl <;> exact ⟨_, rfl, by omega⟩
theorem part_s {c : Str} (hc : c = "f" ∨ c = "l") (hk : 0 ≤ k) : Go ns 2 k j (fun a _ => Pv a) (runF 2 m__law_part (B0 ns) [.ref 3, .str c] (hp0 ns k m j)) := by
  have q1 : ∀ T, fEq (B0 ns) false (.str c) (.str "r") T = .ok (.bl false) T := fun T => by rcases hc with rfl | rfl <;> exact eqs false (by kernel_rfl)
  have q2 : ∀ T, fEq (B0 ns) false (.str c) (.str "x") T = .ok (.bl false) T := fun T => by rcases hc with rfl | rfl <;> exact eqs false (by kernel_rfl)
  have q3 : ∀ T, fEq (B0 ns) false (.str c) (.str "n") T = .ok (.bl false) T := fun T => by rcases hc with rfl | rfl <;> exact eqs false (by kernel_rfl)
  have q4 : ∀ T, fEq (B0 ns) false (.str c) (.str "k") T = .ok (.bl false) T := fun T => by rcases hc with rfl | rfl <;> exact eqs false (by kernel_rfl)
  have q5 : ∃ b, ∀ T, fEq (B0 ns) false (.str c) (.str "f") T = .ok (.bl b) T := by
    rcases hc with rfl | rfl
    · exact ⟨true, fun T => eqs true (by kernel_rfl)⟩
    · exact ⟨false, fun T => eqs false (by kernel_rfl)⟩
  obtain ⟨b, q5⟩ := q5
  have el : ∀ s, mLst (B0 ns) (mCons (mCon (.str "a")) (mCons (mCon (.str "main")) mNil)) s (hp0 ns k m j) = .ok (.ref (j.length + 4)) (hp0 ns k m (j ++ [.lst [.str "a", .str "main"]])) := fun s => lst_hpX (by simp) (by simp)
  have ei : ∀ T, fInt [.bl b] T = .ok (.int (if b then 1 else 0)) T := fun T => by cases b <;> rfl
  obtain ⟨y, hy, e⟩ := ix_go (ns := ns) (k := k) (m := m) (j := j ++ [.lst [.str "a", .str "main"]]) (L := j.length) (xs := [.str "a", .str "main"]) (i := if b then 1 else 0) (by rw [j_new]; rfl) (by split <;> decide) (by cases b <;> decide)
  refine ⟨y, k, m, [.lst [.str "a", .str "main"]], ?_, hk, by omega, .inr ?_⟩
  · simp only [ev_runF, m__law_part, ev_start, List.map_cons, List.map_nil, List.length_cons, List.length_nil, List.cons_append, List.nil_append, List.replicate, Nat.sub, ev_mSeq, ev_mIf, ev_mOr, ev_mAnd, ev_mTest, ev_mBin, ev_mVar, ev_mCon, List.getElem?_cons_zero, List.getElem?_cons_succ, bind_ok, q1, q2, q3, q4, q5, ev_asB, cond_false, ev_mNext, ev_then_nx, ev_mRet, ev_mIte, el, ev_mCall, ev_mCons, ev_mNil, ei, e, ev_end_rt]
  · simp only [List.mem_cons, List.not_mem_nil, or_false] at hy
    rcases hy with rfl | rfl <;> exact ⟨_, rfl, ws _ (by kernel_rfl)⟩
theorem part_go {c : Str} (hc : isF c) (hk : 0 ≤ k) (hk2 : k < 999999990) : Go ns 2 k j (fun a _ => Pv a) (f__law_part (B0 ns) [.ref 3, .str c] (hp0 ns k m j)) := by
  refine gc_go ?_
  rcases hc with rfl | rfl | rfl | rfl | rfl | rfl
  · exact part_r hk hk2
  · exact part_n hk hk2
  · exact part_s (.inl rfl) hk
  · exact part_x hk hk2
  · exact part_k hk hk2
  · exact part_s (.inr rfl) hk
end
end K01
end
section
set_option Elab.async false
set_option linter.all false
set_option maxRecDepth 100000
set_option maxHeartbeats 1000000
namespace K01
open PySem PySem.Spec PyProof.Rows L2 Ev
theorem mLc_it1 {B t t1 : List O} {s : Sl} {vs : List Nat} {mi : MI} {g : MG} {mt : MT} {me : ME} {c : A → Bool} {f : A → A} {ys : List A} (hi : mi s t = .ok (itL ys) t1) (hl : ys.length ≤ sizeLine) (h1 : ∀ y ∈ ys, ∃ s1, g y (wipeA s vs) t1 = .ok s1 t1 ∧ mt s1 t1 = .ok (c y) t1 ∧ (c y = true → me s1 t1 = .ok (f y) t1)) :
    mLc B vs mi g mt me s t = .ok (.ref (B.length + t1.length)) (t1 ++ [.lst ((ys.filter c).map f)]) := by
  unfold mLc
  have hn : (itL ys).n = ys.length := rfl
  rw [hi, bind_ok, hn, if_pos hl, ← hn, lcGo_itL h1]
  rfl
section
variable {ns : List Int} {k m : Int} {j : List O} {s : Sl}
theorem forms_hp : f__law_forms (B0 ns) [] (hp0 ns k m j) = .ok (.ref (j.length + 4)) (hp0 ns k m (j ++ .dic formsD :: junkD)) := by
  rw [law_forms_ok, hp_len, hp_app]
def notMark : A → Bool
  | .str w => !decide (w = "mark")
  | _ => false
def keysB : Bool := (ksA formsD).all fun y => match y with
  | .str w => PyData.strOk w
  | _ => false
theorem keysB_ok : keysB = true := by kernel_rfl
theorem keys_words : ((ksA formsD).filter notMark).map id = words.map A.str := by kernel_rfl
noncomputable def mWords (B : List O) : ME := mLc B [1] (mIN B ksA (mCallF0 B f__law_forms)) (gN 1) (mTest (mBin (fEq B true) (mVar 1) (mCon (.str "mark")))) (mVar 1)
theorem words_ok {a : A} {b c d e : Option A} : ∃ J L, mWords (B0 ns) [some a, b, c, d, e] (hp0 ns k m j) = .ok (.ref (L + 4)) (hp0 ns k m (j ++ J)) ∧ (j ++ J)[L]? = some (.lst (words.map A.str)) := by
  have hset : (hp0 ns k m (j ++ .dic formsD :: junkD)).set (j.length + 4 - (B0 ns).length) (.fz formsD) = hp0 ns k m (j ++ .fz formsD :: junkD) := by
    show (_ :: _ :: _ :: (j ++ .dic formsD :: junkD)).set (j.length + 4 - 1) (.fz formsD) = _
    rw [show j.length + 4 - 1 = j.length + 3 from rfl]
    simp [hp0]
  have h2 : onN (B0 ns) ksA (.ref (j.length + 4)) (hp0 ns k m (j ++ .dic formsD :: junkD)) = .ok (itL (ksA formsD)) (hp0 ns k m (j ++ .fz formsD :: junkD)) := by
    have hg : (B0 ns ++ hp0 ns k m (j ++ .dic formsD :: junkD))[j.length + 4]? = some (.dic formsD) := by rw [hp_get, j_new]; rfl
    have hb : (B0 ns).length ≤ j.length + 4 := by show 1 ≤ _; omega
    simp only [onN, if_pos hb, hg, hset]
  have e := mLc_it1 (B := B0 ns) (t := hp0 ns k m j) (t1 := hp0 ns k m (j ++ .fz formsD :: junkD)) (s := [some a, b, c, d, e]) (vs := [1]) (mi := mIN (B0 ns) ksA (mCallF0 (B0 ns) f__law_forms)) (g := gN 1) (mt := mTest (mBin (fEq (B0 ns) true) (mVar 1) (mCon (.str "mark")))) (me := mVar 1) (c := notMark) (f := id) (ys := ksA formsD)
    (by unfold mIN; rw [ev_mCallF0, forms_hp, bind_ok, h2]) (by show 23 ≤ sizeLine; decide) (fun y hy => by
      have hk := List.all_eq_true.mp keysB_ok y hy
      cases y with
      | str w =>
        have q : ∀ T, fEq (B0 ns) true (.str w) (.str "mark") T = .ok (.bl (!decide (w = "mark"))) T := fun T => by
          have := eq_str (B := B0 ns) (t := T) (neg := true) (x := w) (y := "mark") hk (by kernel_rfl)
          simpa using this
        refine ⟨_, rfl, ?_, fun _ => ?_⟩
        · simp [wipeA, q, notMark]
        · simp [wipeA]
      | _ => cases hk)
  rw [keys_words, hp_len, hp_app] at e
  refine ⟨(.fz formsD :: junkD) ++ [.lst (words.map A.str)], (j ++ .fz formsD :: junkD).length, ?_, ?_⟩
  · unfold mWords
    rw [e, List.append_assoc]
  · rw [← List.append_assoc, j_new]; rfl
/-- a comprehension that draws -/
theorem lc_go {me : ME} {ys : List A} {s : Sl} (hm : ∀ y ∈ ys, ∀ k m j, 0 ≤ k → k < 999999990 → Go ns 2 k j (fun a _ => Pv a) (me (s.set 3 (some y)) (hp0 ns k m j))) :
    ∀ (zs us : List A) (k m : Int) (j : List O), ys = zs ++ us → 0 ≤ k → k + 2 * us.length < 999999990 → Go ns (2 * us.length) k j (fun xs _ => xs.length = us.length ∧ ∀ x ∈ xs, Pv x) (lcGo (B0 ns) (itL ys) (gN 3) mYes me s us.length (hp0 ns k m j))
  | zs, [], k, m, j, _, hk, _ => ⟨[], k, m, [], by rw [List.append_nil]; rfl, hk, by simp, rfl, by simp⟩
  | zs, u :: us, k, m, j, e, hk, hk2 => by
    have hu : u ∈ ys := by rw [e]; simp
    have hl : (u :: us).length = us.length + 1 := rfl
    rw [hl] at hk2
    obtain ⟨a, k1, m1, j1, e1, h0, h1, q⟩ := (hm u hu k m j hk (by omega)).ok
    obtain ⟨xs, k2, m2, j2, e2, g0, g1, q2, q3⟩ := (lc_go hm (zs ++ [u]) us k1 m1 (j ++ j1) (by rw [e]; simp) h0 (by omega)).ok
    have hg : (itL ys).get ((itL ys).n - (us.length + 1)) (B0 ns ++ hp0 ns k m j) = some u := by
      show ys[ys.length - (us.length + 1)]? = some u
      have hl : ys.length - (us.length + 1) = zs.length := by rw [e]; simp
      rw [hl, e]
      simp
    refine ⟨a :: xs, k2, m2, j1 ++ j2, ?_, g0, by rw [hl]; omega, by rw [List.length_cons, q2, hl], fun x hx => ?_⟩
    · rw [hl]
      unfold lcGo
      rw [hg]
      simp only [ev_gN, bind_ok, mYes, e1, e2, List.append_assoc]
    · rcases List.mem_cons.mp hx with rfl | hx
      · exact q
      · exact q3 x hx
end
end K01
end
section
set_option Elab.async false
set_option linter.all false
set_option maxRecDepth 100000
set_option maxHeartbeats 1000000
namespace K01
open PySem PySem.Spec PyProof.Rows L2 Ev
/-- a candidate -/
inductive Cv (j : List O) : A → Prop
  | el (a : A) (h : El j a) : Cv j a
  | tup (xs : List A) (hl : xs.length ≤ 5) (h : ∀ x ∈ xs, El j x) : Cv j (.tup xs)
  | lst (p : Nat) (xs : List A) (hp : j[p]? = some (.lst xs)) (hl : xs.length ≤ 5) (h : ∀ x ∈ xs, El j x) : Cv j (.ref (p + 4))
  | tup2 (xs : List A) (hl : xs.length ≤ 5) (h : ∀ x ∈ xs, El j x) : Cv j (.tup [.tup xs])
  | dic (p : Nat) (hp : j[p]? = some (.dic [(Sum.inr "num", .int 0)])) : Cv j (.ref (p + 4))
theorem below_tup {n : Nat} : ∀ {xs : List A}, below n (.tup xs) = true → ∀ x ∈ xs, below n x = true
  | [], _, x, hx => by cases hx
  | y :: ys, h, x, hx => by
    have h' : ((refsA y ++ refsAs ys).all fun i => decide (i < n)) = true := h
    rw [List.all_append, Bool.and_eq_true] at h'
    rcases List.mem_cons.mp hx with rfl | hx
    · exact h'.1
    · exact below_tup (xs := ys) h'.2 x hx
theorem Cv.cut0 {l : List O} {a : A} (h : Cv ([] ++ l) a) (hb : below 4 a = true) : Cv [] a := by
  cases h with
  | el a h => exact .el _ (h.cut hb)
  | tup xs hl h => exact .tup xs hl fun x hx => (h x hx).cut (below_tup hb x hx)
  | lst p xs hp hl h => have := below_ref hb; omega
  | tup2 xs hl h => exact .tup2 xs hl fun x hx => (h x hx).cut (below_tup (below_tup hb _ (by simp)) x hx)
  | dic p hp => have := below_ref hb; omega
theorem El.set {j : List O} {p : Nat} {w : Str} {xs : List A} {o : O} {a : A} (hp : j[p]? = some (.lst (.str w :: xs))) (h : El j a) : El (j.set p o) a := by
  have key : ∀ (q : Nat) (o' : O), j[q]? = some o' → o' ≠ O.lst (.str w :: xs) → (j.set p o)[q]? = some o' := by
    intro q o' hq hne
    rw [List.getElem?_set_ne]
    · exact hq
    · rintro rfl
      rw [hp] at hq
      exact hne (Option.some.inj hq).symm
  cases h with
  | int i h => exact .int i h
  | non => exact .non
  | bl b => exact .bl b
  | str w h => exact .str w h
  | tup => exact .tup
  | lst q h => exact .lst q (key q _ h (by intro z; cases z))
  | dic q h => exact .dic q (key q _ h (by intro z; cases z))
section
variable {ns : List Int} {k m : Int} {j : List O}
/-- the line in its making -/
structure Ln (j : List O) (p : Nat) (w : Str) (xs : List A) : Prop where
  at' : j[p]? = some (.lst (.str w :: xs))
  word : w ∈ WS
  len : xs.length ≤ 3
  all : ∀ x ∈ xs, Pv x
theorem Ln.old {l : List O} {p : Nat} {w : Str} {xs : List A} (h : Ln j p w xs) : Ln (j ++ l) p w xs := ⟨j_old h.at', h.word, h.len, h.all⟩
theorem Ln.el {p : Nat} {w : Str} {xs : List A} (h : Ln j p w xs) : ∀ x ∈ A.str w :: xs, El j x := by
  intro x hx
  rcases List.mem_cons.mp hx with rfl | hx
  · exact .str w h.word
  · exact (h.all x hx).el
def sl (w : A) (p : Nat) (r : Int) : Sl := [some (.ref 3), some w, some (.ref (p + 4)), none, some (.int r)]
noncomputable def mW0 (B : List O) : MS := (mIf (mTest (mBin (fEq B false) (mVar 4) (mCon (.int 0)))) (mAsg (gSubA B (mVar 2) (mCallF B 2 f__law_draw (mCons (mVar 0) (mCons (mCall (fLen B) (mCons (mVar 2) mNil)) mNil)))) (mCallF B 1 f__law_any_part (mCons (mVar 0) mNil))) mNext)
noncomputable def mW1 (B : List O) : MS := (mIf (mTest (mBin (fEq B false) (mVar 4) (mCon (.int 1)))) (mDrop (mMet B "list" (fInsert B) (mVar 2) (mCons (mCallF B 2 f__law_draw (mCons (mVar 0) (mCons (mBin (fAdd B) (mCall (fLen B) (mCons (mVar 2) mNil)) (mCon (.int 1))) mNil))) (mCons (mCallF B 1 f__law_any_part (mCons (mVar 0) mNil)) mNil)))) mNext)
noncomputable def mW2 (B : List O) : MS := (mIf (mTest (mBin (fEq B false) (mVar 4) (mCon (.int 2)))) (mDrop (mMet B "list" (fPopAt B) (mVar 2) (mCons (mCallF B 2 f__law_draw (mCons (mVar 0) (mCons (mCall (fLen B) (mCons (mVar 2) mNil)) mNil))) mNil))) mNext)
noncomputable def mSix (B : List O) : MA := (mCons (mVar 2) (mCons (mCallF B 1 f__law_any_part (mCons (mVar 0) mNil)) (mCons (mTup (mCons (mCall (fTupOf B) (mCons (mVar 2) mNil)) mNil)) (mCons (mTup (mCons (mCon (.str "nothing")) (mCons (mCon (.int 0)) mNil))) (mCons (mTup (mCons (mCon (.str "num")) (mCons (mCon (.int 0)) (mCons (mCon (.int 1)) (mCons (mCon (.int 2)) mNil))))) (mCons (mDisp B [((mCon (.str "num")), (mCon (.int 0)))]) mNil))))))
noncomputable def mW3 (B : List O) : MS := (mIf (mTest (mBin (fEq B false) (mVar 4) (mCon (.int 3)))) (mRet (mCallF B 2 f__law_pick (mCons (mVar 0) (mCons (mLst B (mSix B)) mNil)))) mNext)
noncomputable def mLine (B : List O) : ME := (mBin (fAdd B) (mLst B (mCons (mVar 1) mNil)) (mLc B [3] (mIStr (mBin (fDGet B) (mCallF0 B f__law_forms) (mVar 1))) (gN 3) mYes (mCallF B 2 f__law_part (mCons (mVar 0) (mCons (mVar 3) mNil)))))
noncomputable def mTl (B : List O) : MS := mSeq (mW0 B) (mSeq (mW1 B) (mSeq (mW2 B) (mSeq (mW3 B) (mRet (mCall (fTupOf B) (mCons (mVar 2) mNil))))))
theorem cand_eq {B : List O} : m__law_candidate B = mSeq (mAsg (gN 1) (mCallF B 2 f__law_pick (mCons (mVar 0) (mCons (mWords B) mNil)))) (mSeq (mAsg (gN 2) (mLine B)) (mSeq (mAsg (gN 4) (mCallF B 2 f__law_draw (mCons (mVar 0) (mCons (mCon (.int 8)) mNil)))) (mTl B))) := rfl
variable {p : Nat} {w : Str} {xs ln : List A} {wa : A} {r : Int} {B T : List O}
theorem w0_no (h : r ≠ 0) : mW0 B (sl wa p r) T = .ok (.nx (sl wa p r)) T := by
  have q : fEq B false (.int r) (.int 0) T = .ok (.bl (decide (r = 0))) T := Ev.eq_int
  simp [mW0, sl, q, h]
theorem w1_no (h : r ≠ 1) : mW1 B (sl wa p r) T = .ok (.nx (sl wa p r)) T := by
  have q : fEq B false (.int r) (.int 1) T = .ok (.bl (decide (r = 1))) T := Ev.eq_int
  simp [mW1, sl, q, h]
theorem w2_no (h : r ≠ 2) : mW2 B (sl wa p r) T = .ok (.nx (sl wa p r)) T := by
  have q : fEq B false (.int r) (.int 2) T = .ok (.bl (decide (r = 2))) T := Ev.eq_int
  simp [mW2, sl, q, h]
theorem w3_no (h : r ≠ 3) : mW3 B (sl wa p r) T = .ok (.nx (sl wa p r)) T := by
  have q : fEq B false (.int r) (.int 3) T = .ok (.bl (decide (r = 3))) T := Ev.eq_int
  simp [mW3, sl, q, h]
theorem len_hp (h : j[p]? = some (.lst ln)) : fLen (B0 ns) [.ref (p + 4)] (hp0 ns k m j) = .ok (.int ln.length) (hp0 ns k m j) := by simp only [fLen, lenA, hp_get, h]
theorem tup_hp (h : j[p]? = some (.lst ln)) : fTupOf (B0 ns) [.ref (p + 4)] (hp0 ns k m j) = .ok (.tup ln) (hp0 ns k m j) := by simp only [fTupOf, rdL, hp_get, h]
theorem set_hp {o : O} : (hp0 ns k m j).set (p + 4 - (B0 ns).length) o = hp0 ns k m (j.set p o) := by
  show (_ :: _ :: _ :: j).set (p + 3) o = _
  rfl
/-- what a step leaves -/
def Lf (ns : List Int) (k : Int) (p : Nat) (T : List O) : Prop := ∃ k' m' j' ln, T = hp0 ns k' m' j' ∧ 0 ≤ k' ∧ k' ≤ k + 2 ∧ j'[p]? = some (.lst ln) ∧ ln.length ≤ 5 ∧ ∀ x ∈ ln, El j' x
theorem set_self {j : List O} {p : Nat} {o o' : O} (h : j[p]? = some o') : (j.set p o)[p]? = some o := by
  rw [List.getElem?_set_self (List.getElem?_eq_some_iff.mp h).1]
theorem w0_yes (L : Ln j p w xs) (hk : 0 ≤ k) (hk2 : k < 999999900) : ∃ T, mW0 (B0 ns) (sl wa p 0) (hp0 ns k m j) = .ok (.nx (sl wa p 0)) T ∧ Lf ns k p T := by
  obtain ⟨a, k1, m1, j1, e1, h0, h1, q⟩ := (any_go (ns := ns) (m := m) (j := j) hk (by omega)).ok
  have L1 := L.old (l := j1)
  have e2 := len_hp (ns := ns) (k := k1) (m := m1) L1.at'
  have hl : ((A.str w :: xs).length : Int) ≤ 4 := by have := L.len; simp; omega
  obtain ⟨b, k2, m2, j2, e3, g0, g1, r, rfl, r0, r1⟩ := (draw_go (ns := ns) (m := m1) (j := j ++ j1) (many := ((A.str w :: xs).length : Int)) h0 (by omega) (by simp) (by omega)).ok
  have L2 := L1.old (l := j2)
  have q0 : ∀ T, fEq (B0 ns) false (.int 0) (.int 0) T = .ok (.bl true) T := fun T => by rw [Ev.eq_int]; rfl
  have hix : ixN (A.str w :: xs).length r = some r.toNat := by
    unfold ixN
    rw [if_pos r0, if_pos (by omega)]
  have eg : ∀ s, gPut (B0 ns) (.ref (p + 4)) (.int r) a s (hp0 ns k2 m2 (j ++ j1 ++ j2)) = .ok s (hp0 ns k2 m2 ((j ++ j1 ++ j2).set p (.lst ((A.str w :: xs).set r.toNat a)))) := by
    intro s
    have hb : (B0 ns).length ≤ p + 4 := by show 1 ≤ _; omega
    simp only [gPut, if_pos hb, hp_get, L2.at', putObj, hix, set_hp]
  refine ⟨_, ?_, k2, m2, (j ++ j1 ++ j2).set p (.lst ((A.str w :: xs).set r.toNat a)), (A.str w :: xs).set r.toNat a, rfl, g0, by omega, set_self L2.at', by rw [List.length_set]; omega, fun x hx => ?_⟩
  · generalize A.str w :: xs = ll at *
    simp [-List.append_assoc, mW0, sl, q0, e1, gSubA, e2, e3, eg]
  · rcases List.mem_or_eq_of_mem_set hx with hx | rfl
    · exact (L2.el x hx).set L2.at'
    · exact (q.old).set L2.at'
theorem w1_yes (L : Ln j p w xs) (hk : 0 ≤ k) (hk2 : k < 999999900) : ∃ T, mW1 (B0 ns) (sl wa p 1) (hp0 ns k m j) = .ok (.nx (sl wa p 1)) T ∧ Lf ns k p T := by
  have hl : ((A.str w :: xs).length : Int) ≤ 4 := by have := L.len; simp; omega
  have hl0 : (0 : Int) < ((A.str w :: xs).length : Int) := by simp
  have e2 := len_hp (ns := ns) (k := k) (m := m) L.at'
  obtain ⟨b, k1, m1, j1, e1, h0, h1, r, rfl, r0, r1⟩ := (draw_go (ns := ns) (m := m) (j := j) (many := ((A.str w :: xs).length : Int) + 1) hk (by omega) (by omega) (by omega)).ok
  have L1 := L.old (l := j1)
  obtain ⟨a, k2, m2, j2, e3, g0, g1, q⟩ := (any_go (ns := ns) (m := m1) (j := j ++ j1) h0 (by omega)).ok
  have L2 := L1.old (l := j2)
  have q0 : ∀ T, fEq (B0 ns) false (.int 1) (.int 1) T = .ok (.bl true) T := fun T => by rw [Ev.eq_int]; rfl
  have ty : tyM (B0 ns ++ hp0 ns k m j) "list" (.ref (p + 4)) = true := by simp only [tyM, hp_get, L.at']; rfl
  have hi : ins1 r a (A.str w :: xs) = some (.non, (A.str w :: xs).take r.toNat ++ [a] ++ (A.str w :: xs).drop r.toNat) := by
    unfold ins1
    rw [if_pos]
    have z1 : (A.str w :: xs).length < sizeLine := Nat.lt_of_le_of_lt (by omega : _ ≤ 4) (by decide)
    simp only [Bool.and_eq_true, decide_eq_true_eq]
    exact ⟨⟨z1, r0⟩, by omega⟩
  have eg : fInsert (B0 ns) (.ref (p + 4)) [.int r, a] (hp0 ns k2 m2 (j ++ j1 ++ j2)) = .ok .non (hp0 ns k2 m2 ((j ++ j1 ++ j2).set p (.lst ((A.str w :: xs).take r.toNat ++ [a] ++ (A.str w :: xs).drop r.toNat)))) := by
    have hb : (B0 ns).length ≤ p + 4 := by show 1 ≤ _; omega
    simp only [fInsert, onLst, if_pos hb, hp_get, L2.at', hi, set_hp]
  refine ⟨_, ?_, k2, m2, (j ++ j1 ++ j2).set p (.lst ((A.str w :: xs).take r.toNat ++ [a] ++ (A.str w :: xs).drop r.toNat)), (A.str w :: xs).take r.toNat ++ [a] ++ (A.str w :: xs).drop r.toNat, rfl, g0, by omega, set_self L2.at', ?_, fun x hx => ?_⟩
  · generalize A.str w :: xs = ll at *
    simp [-List.append_assoc, mW1, sl, q0, mMet, ty, e2, e1, e3, eg]
  · simp only [List.length_append, List.length_take, List.length_drop, List.length_cons, List.length_nil] at hl ⊢
    omega
  · rw [List.mem_append, List.mem_append] at hx
    rcases hx with (hx | hx) | hx
    · exact (L2.el x (List.mem_of_mem_take hx)).set L2.at'
    · rw [List.mem_singleton.mp hx]; exact q.set L2.at'
    · exact (L2.el x (List.mem_of_mem_drop hx)).set L2.at'
theorem w2_yes (L : Ln j p w xs) (hk : 0 ≤ k) (hk2 : k < 999999900) : ∃ T, mW2 (B0 ns) (sl wa p 2) (hp0 ns k m j) = .ok (.nx (sl wa p 2)) T ∧ Lf ns k p T := by
  have hl : ((A.str w :: xs).length : Int) ≤ 4 := by have := L.len; simp; omega
  have hl0 : (0 : Int) < ((A.str w :: xs).length : Int) := by simp
  have e2 := len_hp (ns := ns) (k := k) (m := m) L.at'
  obtain ⟨b, k1, m1, j1, e1, h0, h1, r, rfl, r0, r1⟩ := (draw_go (ns := ns) (m := m) (j := j) (many := ((A.str w :: xs).length : Int)) hk (by omega) (by omega) (by omega)).ok
  have L1 := L.old (l := j1)
  have q0 : ∀ T, fEq (B0 ns) false (.int 2) (.int 2) T = .ok (.bl true) T := fun T => by rw [Ev.eq_int]; rfl
  have ty : tyM (B0 ns ++ hp0 ns k m j) "list" (.ref (p + 4)) = true := by simp only [tyM, hp_get, L.at']; rfl
  have hi : ∃ y, popAt1 r (A.str w :: xs) = some (y, (A.str w :: xs).eraseIdx r.toNat) := by
    have hr : r.toNat < (A.str w :: xs).length := by omega
    refine ⟨(A.str w :: xs)[r.toNat], ?_⟩
    unfold popAt1
    rw [if_pos (by simp only [Bool.and_eq_true, decide_eq_true_eq]; omega)]
    have es : seqIndex? r (A.str w :: xs).length = some r.toNat := by
      unfold seqIndex?
      have n0 : ¬ r < 0 := by omega
      simp only [if_neg n0]
      rw [if_pos]
      simp only [Bool.and_eq_true, decide_eq_true_eq]
      exact ⟨r0, r1⟩
    rw [es]
    simp only [List.getElem?_eq_getElem hr]
  obtain ⟨y, hi⟩ := hi
  have eg : fPopAt (B0 ns) (.ref (p + 4)) [.int r] (hp0 ns k1 m1 (j ++ j1)) = .ok y (hp0 ns k1 m1 ((j ++ j1).set p (.lst ((A.str w :: xs).eraseIdx r.toNat)))) := by
    have hb : (B0 ns).length ≤ p + 4 := by show 1 ≤ _; omega
    simp only [fPopAt, onLst, if_pos hb, hp_get, L1.at', hi, set_hp]
  refine ⟨_, ?_, k1, m1, (j ++ j1).set p (.lst ((A.str w :: xs).eraseIdx r.toNat)), (A.str w :: xs).eraseIdx r.toNat, rfl, h0, by omega, set_self L1.at', ?_, fun x hx => ?_⟩
  · generalize A.str w :: xs = ll at *
    simp [-List.append_assoc, mW2, sl, q0, mMet, ty, e2, e1, eg]
  · have := List.length_eraseIdx_le (A.str w :: xs) r.toNat
    omega
  · exact (L1.el x (List.mem_of_mem_eraseIdx hx)).set L1.at'
end
end K01
end
section
set_option Elab.async false
set_option linter.all false
set_option maxRecDepth 100000
set_option maxHeartbeats 1000000
namespace K01
open PySem PySem.Spec PyProof.Rows L2 Ev
section
variable {ns : List Int} {k m : Int} {j : List O} {p : Nat} {w : Str} {xs ln : List A} {wa : A} {r : Int}
theorem disp_hp {s : Sl} : mDisp (B0 ns) [((mCon (.str "num")), (mCon (.int 0)))] s (hp0 ns k m j) = .ok (.ref (j.length + 4)) (hp0 ns k m (j ++ [.dic [(Sum.inr "num", .int 0)]])) := by
  have e : mPairs [((mCon (.str "num")), (mCon (.int 0)))] s (hp0 ns k m j) = .ok [(Sum.inr "num", A.int 0)] (hp0 ns k m j) := rfl
  have e2 : mergeA [] [((Sum.inr "num" : Key), A.int 0)] = [((Sum.inr "num" : Key), A.int 0)] := by kernel_rfl
  unfold mDisp
  rw [e, bind_ok, if_pos (by decide), e2, mk_hp]
theorem w3_yes (L : Ln j p w xs) (hk : 0 ≤ k) (hk2 : k < 999999900) : ∃ v k' m' j', mW3 (B0 ns) (sl wa p 3) (hp0 ns k m j) = .ok (.rt v) (hp0 ns k' m' j') ∧ 0 ≤ k' ∧ k' ≤ k + 2 ∧ Cv j' v := by
  obtain ⟨a, k1, m1, j1, e1, h0, h1, q⟩ := (any_go (ns := ns) (m := m) (j := j) hk (by omega)).ok
  have L1 := L.old (l := j1)
  have e2 := tup_hp (ns := ns) (k := k1) (m := m1) L1.at'
  have q0 : ∀ T, fEq (B0 ns) false (.int 3) (.int 3) T = .ok (.bl true) T := fun T => by rw [Ev.eq_int]; rfl
  let six : List A := [.ref (p + 4), a, .tup [.tup (.str w :: xs)], .tup [.str "nothing", .int 0], .tup [.str "num", .int 0, .int 1, .int 2], .ref ((j ++ j1).length + 4)]
  let J2 := (j ++ j1) ++ [O.dic [(Sum.inr "num", .int 0)]]
  have z1 : 0 + 1 ≤ sizeLine := by decide
  have z2 : 0 + 1 + 1 ≤ sizeLine := by decide
  have z4 : 0 + 1 + 1 + 1 + 1 ≤ sizeLine := by decide
  have e3 := disp_hp (ns := ns) (k := k1) (m := m1) (j := j ++ j1) (s := sl wa p 3)
  have es : mSix (B0 ns) (sl wa p 3) (hp0 ns k m j) = .ok six (hp0 ns k1 m1 J2) := by
    unfold mSix
    unfold sl at e3 ⊢
    simp only [ev_mCons, ev_mNil, ev_mVar, List.getElem?_cons_zero, List.getElem?_cons_succ, bind_ok, ev_mCallF, List.length_cons, List.length_nil, if_true, e1, ev_mTup, ev_mCall, e2, if_pos z1, ev_mCon, if_pos z2, if_pos z4, e3]
    rfl
  have el := lst_hpX es (by simp [six])
  obtain ⟨v, k2, m2, j2, e4, g0, g1, hv⟩ := (pick_go (ns := ns) (m := m1) (j := J2 ++ [.lst six]) (xs := six) (L := J2.length) h0 (by omega) (by rw [j_new]; rfl) (by simp [six]) (by simp [six])).ok
  refine ⟨v, k2, m2, J2 ++ [.lst six] ++ j2, ?_, g0, by omega, ?_⟩
  · unfold mW3
    unfold sl at el ⊢
    simp only [ev_mIf, ev_mTest, ev_mBin, ev_mVar, List.getElem?_cons_zero, List.getElem?_cons_succ, bind_ok, ev_mCon, q0, ev_asB, cond_true, ev_mRet, ev_mCallF, ev_mCons, ev_mNil, el, List.length_cons, List.length_nil, if_true]
    rw [e4]
    rfl
  · have ej : J2 ++ [.lst six] ++ j2 = (j ++ j1) ++ ([O.dic [(Sum.inr "num", .int 0)]] ++ ([.lst six] ++ j2)) := by simp only [J2, List.append_assoc]
    rw [ej]
    have hd : ((j ++ j1) ++ ([O.dic [(Sum.inr "num", .int 0)]] ++ ([.lst six] ++ j2)))[(j ++ j1).length]? = some (.dic [(Sum.inr "num", .int 0)]) := by rw [j_new]; rfl
    have L2 := L1.old (l := [O.dic [(Sum.inr "num", .int 0)]] ++ ([.lst six] ++ j2))
    have q2 := q.old (l := [O.dic [(Sum.inr "num", .int 0)]] ++ ([.lst six] ++ j2))
    have hl : (A.str w :: xs).length ≤ 5 := by have := L.len; simp; omega
    have hv2 : v ∈ six := hv
    simp only [six, List.mem_cons, List.not_mem_nil, or_false] at hv2
    rcases hv2 with rfl | rfl | rfl | rfl | rfl | rfl
    · exact .lst p _ L2.at' hl L2.el
    · exact .el _ q2
    · exact .tup2 _ hl L2.el
    · refine .tup _ (by decide) fun x hx => ?_
      simp only [List.mem_cons, List.not_mem_nil, or_false] at hx
      rcases hx with rfl | rfl
      · exact .str _ (ws _ (by kernel_rfl))
      · exact .int _ (by unfold small; omega)
    · refine .tup _ (by decide) fun x hx => ?_
      simp only [List.mem_cons, List.not_mem_nil, or_false] at hx
      rcases hx with rfl | rfl | rfl | rfl
      · exact .str _ (ws _ (by kernel_rfl))
      · exact .int _ (by unfold small; omega)
      · exact .int _ (by unfold small; omega)
      · exact .int _ (by unfold small; omega)
    · exact .dic _ hd
theorem end_ok (h : j[p]? = some (.lst ln)) : mRet (mCall (fTupOf (B0 ns)) (mCons (mVar 2) mNil)) (sl wa p r) (hp0 ns k m j) = .ok (.rt (.tup ln)) (hp0 ns k m j) := by
  have e := tup_hp (ns := ns) (k := k) (m := m) h
  unfold sl
  simp only [ev_mRet, ev_mCall, ev_mCons, ev_mNil, ev_mVar, List.getElem?_cons_zero, List.getElem?_cons_succ, bind_ok, e]
theorem tl_ok (L : Ln j p w xs) (hk : 0 ≤ k) (hk2 : k < 999999900) : ∃ v k' m' j', mTl (B0 ns) (sl wa p r) (hp0 ns k m j) = .ok (.rt v) (hp0 ns k' m' j') ∧ 0 ≤ k' ∧ k' ≤ k + 2 ∧ Cv j' v := by
  unfold mTl
  by_cases r0 : r = 0
  · subst r0
    obtain ⟨T, e, k', m', j', ln, rfl, h0, h1, hp, hl, hx⟩ := w0_yes (ns := ns) (m := m) (wa := wa) L hk hk2
    refine ⟨.tup ln, k', m', j', ?_, h0, h1, .tup ln hl hx⟩
    rw [ev_mSeq, e, bind_ok, ev_then_nx, ev_mSeq, w1_no (by decide), bind_ok, ev_then_nx, ev_mSeq, w2_no (by decide), bind_ok, ev_then_nx, ev_mSeq, w3_no (by decide), bind_ok, ev_then_nx, end_ok hp]
  · by_cases r1 : r = 1
    · subst r1
      obtain ⟨T, e, k', m', j', ln, rfl, h0, h1, hp, hl, hx⟩ := w1_yes (ns := ns) (m := m) (wa := wa) L hk hk2
      refine ⟨.tup ln, k', m', j', ?_, h0, h1, .tup ln hl hx⟩
      rw [ev_mSeq, w0_no r0, bind_ok, ev_then_nx, ev_mSeq, e, bind_ok, ev_then_nx, ev_mSeq, w2_no (by decide), bind_ok, ev_then_nx, ev_mSeq, w3_no (by decide), bind_ok, ev_then_nx, end_ok hp]
    · by_cases r2 : r = 2
      · subst r2
        obtain ⟨T, e, k', m', j', ln, rfl, h0, h1, hp, hl, hx⟩ := w2_yes (ns := ns) (m := m) (wa := wa) L hk hk2
        refine ⟨.tup ln, k', m', j', ?_, h0, h1, .tup ln hl hx⟩
        rw [ev_mSeq, w0_no r0, bind_ok, ev_then_nx, ev_mSeq, w1_no r1, bind_ok, ev_then_nx, ev_mSeq, e, bind_ok, ev_then_nx, ev_mSeq, w3_no (by decide), bind_ok, ev_then_nx, end_ok hp]
      · by_cases r3 : r = 3
        · subst r3
          obtain ⟨v, k', m', j', e, h0, h1, hv⟩ := w3_yes (ns := ns) (m := m) (wa := wa) L hk hk2
          refine ⟨v, k', m', j', ?_, h0, h1, hv⟩
          rw [ev_mSeq, w0_no r0, bind_ok, ev_then_nx, ev_mSeq, w1_no r1, bind_ok, ev_then_nx, ev_mSeq, w2_no r2, bind_ok, ev_then_nx, ev_mSeq, e, bind_ok, ev_then_rt]
        · have hl : (A.str w :: xs).length ≤ 5 := by have := L.len; simp; omega
          refine ⟨.tup (.str w :: xs), k, m, j, ?_, hk, by omega, .tup _ hl L.el⟩
          rw [ev_mSeq, w0_no r0, bind_ok, ev_then_nx, ev_mSeq, w1_no r1, bind_ok, ev_then_nx, ev_mSeq, w2_no r2, bind_ok, ev_then_nx, ev_mSeq, w3_no r3, bind_ok, ev_then_nx, end_ok L.at']
/-- the line is made -/
theorem line_ok {w : Str} (hw : w ∈ words) (hk : 0 ≤ k) (hk2 : k < 999999900) : ∃ k' m' j' p xs, mLine (B0 ns) [some (.ref 3), some (.str w), none, none, none] (hp0 ns k m j) = .ok (.ref (p + 4)) (hp0 ns k' m' (j ++ j')) ∧ 0 ≤ k' ∧ k' ≤ k + 6 ∧ Ln (j ++ j') p w xs := by
  have hws : w ∈ WS := List.mem_append_right _ hw
  have hlook : ∃ a, tab_FORMS.lookup w = some a := by
    have h := List.all_eq_true.mp (show (words.all fun w => (tab_FORMS.lookup w).isSome) = true from by kernel_rfl) w hw
    exact Option.isSome_iff_exists.mp h
  obtain ⟨a, ha⟩ := hlook
  obtain ⟨f, rfl, hf, hF, hfl⟩ := look_forms ha
  let s0 : Sl := [some (.ref 3), some (.str w), none, none, none]
  have el : mLst (B0 ns) (mCons (mVar 1) mNil) s0 (hp0 ns k m j) = .ok (.ref (j.length + 4)) (hp0 ns k m (j ++ [.lst [.str w]])) := lst_hpX (by simp [s0]) (by simp)
  let J1 := j ++ [O.lst [.str w]]
  have ef := forms_hp (ns := ns) (k := k) (m := m) (j := J1)
  let J2 := J1 ++ .dic formsD :: junkD
  have eg : fDGet (B0 ns) (.ref (J1.length + 4)) (.str w) (hp0 ns k m J2) = .ok (.str f) (hp0 ns k m J2) := dget_forms1 (by rw [hp_get]; show (J1 ++ _)[J1.length]? = _; rw [j_new]; rfl) ha
  have ei : mIStr (mBin (fDGet (B0 ns)) (mCallF0 (B0 ns) f__law_forms) (mVar 1)) s0 (hp0 ns k m J1) = .ok (itL (Ev.signs f)) (hp0 ns k m J2) := by
    unfold mIStr
    rw [ev_mBin, ev_mCallF0, ef, bind_ok]
    have ev : mVar 1 s0 (hp0 ns k m J2) = .ok (.str w) (hp0 ns k m J2) := rfl
    rw [ev, bind_ok, eg]
    rfl
  have hsl : (Ev.signs f).length = f.length := by simp [Ev.signs, Str.length]
  have hm : ∀ y ∈ Ev.signs f, ∀ k m j, 0 ≤ k → k < 999999990 → Go ns 2 k j (fun a _ => Pv a) (mCallF (B0 ns) 2 f__law_part (mCons (mVar 0) (mCons (mVar 3) mNil)) (s0.set 3 (some y)) (hp0 ns k m j)) := by
    intro y hy k m j hk hk2
    obtain ⟨c, hc, rfl⟩ := List.mem_map.mp hy
    have e : mCallF (B0 ns) 2 f__law_part (mCons (mVar 0) (mCons (mVar 3) mNil)) (s0.set 3 (some (.str ⟨#[c]⟩))) (hp0 ns k m j) = f__law_part (B0 ns) [.ref 3, .str ⟨#[c]⟩] (hp0 ns k m j) := rfl
    rw [e]
    exact part_go (hF c hc) hk hk2
  obtain ⟨xs, k2, m2, j2, e2, g0, g1, q1, q2⟩ := (lc_go hm [] (Ev.signs f) k m J2 rfl hk (by rw [hsl]; omega)).ok
  have elc : mLc (B0 ns) [3] (mIStr (mBin (fDGet (B0 ns)) (mCallF0 (B0 ns) f__law_forms) (mVar 1))) (gN 3) mYes (mCallF (B0 ns) 2 f__law_part (mCons (mVar 0) (mCons (mVar 3) mNil))) s0 (hp0 ns k m J1) = .ok (.ref ((J2 ++ j2).length + 4)) (hp0 ns k2 m2 ((J2 ++ j2) ++ [O.lst xs])) := by
    unfold mLc
    have hn : (itL (Ev.signs f)).n = (Ev.signs f).length := rfl
    rw [ei, bind_ok, hn, if_pos (by rw [hsl]; exact Nat.le_trans hfl (by decide))]
    have ew : wipeA s0 [3] = s0 := rfl
    rw [ew, e2, noX_ok, bind_ok, mk_hp]
  have g1' : ((J2 ++ j2) ++ [O.lst xs])[j.length]? = some (.lst [.str w]) := by
    have : (J2 ++ j2) ++ [O.lst xs] = j ++ ([O.lst [.str w]] ++ (O.dic formsD :: junkD ++ (j2 ++ [O.lst xs]))) := by simp only [J2, J1, List.append_assoc]
    rw [this, j_new]; rfl
  have g2' : ((J2 ++ j2) ++ [O.lst xs])[(J2 ++ j2).length]? = some (.lst xs) := by rw [j_new]; rfl
  have ea := add_hp (ns := ns) (k := k2) (m := m2) g1' g2' (by rw [q1, hsl]; simp; omega)
  refine ⟨k2, m2, [O.lst [.str w]] ++ (O.dic formsD :: junkD ++ (j2 ++ ([O.lst xs] ++ [O.lst ([A.str w] ++ xs)]))), ((J2 ++ j2) ++ [O.lst xs]).length, xs, ?_, g0, by rw [hsl] at g1; omega, ⟨?_, hws, by rw [q1, hsl]; exact hfl, q2⟩⟩
  · unfold mLine
    rw [ev_mBin, el, bind_ok, elc, bind_ok, ea]
    simp only [J2, J1, List.append_assoc]
  · have : j ++ ([O.lst [.str w]] ++ (O.dic formsD :: junkD ++ (j2 ++ ([O.lst xs] ++ [O.lst ([A.str w] ++ xs)])))) = ((J2 ++ j2) ++ [O.lst xs]) ++ [O.lst ([A.str w] ++ xs)] := by simp only [J2, J1, List.append_assoc]
    rw [this, j_new]; rfl
end
end K01
end
section
set_option Elab.async false
set_option linter.all false
set_option maxRecDepth 100000
set_option maxHeartbeats 1000000
namespace K01
open PySem PySem.Spec PyProof.Rows L2 Ev
section
variable {ns : List Int} {k m : Int}
theorem cand_go (hk : 0 ≤ k) (hk2 : k < 999999000) : Go ns 10 k [] (fun v J => Cv J v) (f__law_candidate (B0 ns) [.ref 3] (hp0 ns k m [])) := by
  refine gc_goX ?_ (fun a j' h hb => h.cut0 hb)
  have st : startA 5 [A.ref 3] = [some (.ref 3), none, none, none, none] := rfl
  obtain ⟨J, L, e1, hL⟩ := words_ok (ns := ns) (k := k) (m := m) (j := []) (a := .ref 3) (b := none) (c := none) (d := none) (e := none)
  obtain ⟨a, k1, m1, j1, e2, h0, h1, ha⟩ := (pick_go (ns := ns) (m := m) (j := [] ++ J) hk (by omega) hL (by simp [words]) (by simp [words])).ok
  obtain ⟨w, hw, rfl⟩ := List.mem_map.mp ha
  obtain ⟨k2, m2, j2, p, xs, e3, g0, g1, L3⟩ := line_ok (ns := ns) (m := m1) (j := ([] ++ J) ++ j1) hw h0 (by omega)
  obtain ⟨b, k3, m3, j3, e4, f0, f1, r, rfl, r0, r1⟩ := (draw_go (ns := ns) (m := m2) (j := (([] ++ J) ++ j1) ++ j2) (many := 8) g0 (by omega) (by decide) (by decide)).ok
  obtain ⟨v, k4, m4, j4, e5, t0, t1, hv⟩ := tl_ok (ns := ns) (m := m3) (wa := .str w) (r := r) (L3.old (l := j3)) f0 (by omega)
  refine ⟨v, k4, m4, j4, ?_, t0, by omega, by rw [List.nil_append]; exact hv⟩
  rw [ev_runF, st, cand_eq, ev_mSeq, ev_mAsg, ev_mCallF, List.nil_append]
  have v0 : ∀ (b c d e : Option A) T, mVar 0 [some (.ref 3), b, c, d, e] T = .ok (.ref 3) T := fun _ _ _ _ _ => rfl
  rw [ev_mCons, v0, bind_ok, ev_mCons, e1, bind_ok, ev_mNil]
  simp only [bind_ok, List.length_cons, List.length_nil, if_true]
  rw [e2]
  simp only [bind_ok, ev_gN, List.set_cons_succ, List.set_cons_zero, ev_then_nx, ev_mSeq, ev_mAsg, e3, ev_mCallF, ev_mCons, ev_mNil, ev_mCon, v0, List.length_cons, List.length_nil, if_true, e4]
  unfold sl at e5
  rw [e5]
  rfl
end
end K01
end
section
set_option Elab.async false
set_option linter.all false
set_option maxRecDepth 100000
set_option maxHeartbeats 1000000
namespace K01
open PySem PySem.Spec PyProof.Rows L2 Ev
/-! texts of code points -/
theorem so_of {x : Str} (h : ∀ c ∈ x.cps.toList, c < 1114112) : PyData.strOk x = true := by
  unfold PyData.strOk
  rw [Array.all_eq_true']
  intro c hc
  exact decide_eq_true (h c (by simpa using hc))
theorem so_to {x : Str} (h : PyData.strOk x = true) : ∀ c ∈ x.cps.toList, c < 1114112 := by
  intro c hc
  unfold PyData.strOk at h
  rw [Array.all_eq_true'] at h
  exact of_decide_eq_true (h c (by simpa using hc))
theorem so_app {x y : Str} (hx : PyData.strOk x = true) (hy : PyData.strOk y = true) : PyData.strOk (x ++ y) = true := by
  refine so_of fun c hc => ?_
  have hc' : c ∈ (x.cps ++ y.cps).toList := hc
  rw [Array.toList_append, List.mem_append] at hc'
  rcases hc' with h | h
  · exact so_to hx c h
  · exact so_to hy c h
theorem so_str (s : String) : PyData.strOk (Str.ofString s) = true := by
  refine so_of fun c hc => ?_
  rw [Str.ofString_eq_toList] at hc
  obtain ⟨d, _, rfl⟩ := List.mem_map.mp hc
  have := d.valid
  rcases d.valid with h | h <;> simp only [Char.toNat] <;> omega
theorem so_from : ∀ (ts : List Str) (k : Nat) (acc : Str), PyData.strOk acc = true → (∀ t ∈ ts, PyData.strOk t = true) → PyData.strOk (textFrom k acc ts) = true
  | [], _, _, h, _ => h
  | t :: ts, k, acc, h, hs => so_from ts (k + 1) _ (so_app (so_app h (so_str _)) (hs t (by simp))) fun u hu => hs u (by simp [hu])
theorem so_join : ∀ (ts : List Str), (∀ t ∈ ts, PyData.strOk t = true) → PyData.strOk (Str.join ", " ts) = true
  | [], _ => by kernel_rfl
  | [x], hs => hs x (by simp)
  | x :: y :: ts, hs => so_app (so_app (hs x (by simp)) (so_str _)) (so_join (y :: ts) fun t ht => hs t (List.mem_cons_of_mem _ ht))
mutual
def gd : PyData → Bool
  | .none | .bool _ => true
  | .int i => decide (-(10 ^ 60) < i) && decide (i < 10 ^ 60)
  | .str x => (x.cps.toList.all fun c => decide (c < 16 ^ 8)) && PyData.strOk (reprText x)
  | .list xs | .tuple xs => gdAll xs
  | .dict kvs => gdKv kvs
def gdAll : List PyData → Bool
  | [] => true
  | x :: xs => gd x && gdAll xs
def gdKv : List (PyData × PyData) → Bool
  | [] => true
  | (k, v) :: r => gd k && gd v && gdKv r
end
theorem int_len {i : Int} (h1 : -(10 ^ 60) < i) (h2 : i < 10 ^ 60) : (PyData.shown (.int i)).length ≤ 64 := by
  have h : i.natAbs < 10 ^ 60 := by omega
  have e := int_text_length_le10 (a := i) (k := 60) (by decide) h
  have e2 : (PyData.shown (.int i)).length = (toString i).length := by
    show (Str.ofString (toString i)).length = _
    rw [Str.ofString_eq_toList]
    show ((toString i).toList.map Char.toNat).toArray.size = _
    rw [List.size_toArray, List.length_map]
    first | exact String.length_toList | rfl
  omega
theorem int_log {i : Int} (h1 : -(10 ^ 60) < i) (h2 : i < 10 ^ 60) : i.natAbs.log2 < 1920 := by
  by_cases z : i.natAbs = 0
  · rw [z]; decide
  · have h : i.natAbs < 10 ^ 60 := by omega
    exact Nat.lt_trans ((Nat.log2_lt (k := 200) z).mpr (Nat.lt_trans h (by decide))) (by decide)
mutual
theorem gd_ok : ∀ d : PyData, gd d = true → d.leavesShort 64 = true ∧ d.showable = true ∧ PyData.strOk d.shown = true
  | .none, _ => ⟨by simp only [PyData.leavesShort], by simp only [PyData.showable], by simp only [PyData.shown]; exact so_str _⟩
  | .bool b, _ => ⟨by simp only [PyData.leavesShort], by simp only [PyData.showable], by cases b <;> simp only [PyData.shown] <;> exact so_str _⟩
  | .int i, h => by
    simp only [gd, Bool.and_eq_true, decide_eq_true_eq] at h
    exact ⟨by simp only [PyData.leavesShort, decide_eq_true_eq]; exact int_len h.1 h.2, by simp only [PyData.showable, decide_eq_true_eq]; exact int_log h.1 h.2, by simp only [PyData.shown]; exact so_str _⟩
  | .str x, h => by
    simp only [gd, Bool.and_eq_true] at h
    exact ⟨by simp only [PyData.leavesShort]; exact h.1, by simp only [PyData.showable], by simp only [PyData.shown]; exact h.2⟩
  | .list xs, h => by
    simp only [gd] at h
    obtain ⟨h1, h2, h3⟩ := gdAll_ok xs h
    exact ⟨by simp only [PyData.leavesShort]; exact h1, by simp only [PyData.showable]; exact h2, by simp only [PyData.shown, listText]; exact so_app (so_from _ _ _ (so_str _) h3) (so_str _)⟩
  | .tuple xs, h => by
    simp only [gd] at h
    obtain ⟨h1, h2, h3⟩ := gdAll_ok xs h
    exact ⟨by simp only [PyData.leavesShort]; exact h1, by simp only [PyData.showable]; exact h2, by simp only [PyData.shown, tupleText]; exact so_app (so_app (so_str _) (so_join _ h3)) (so_str _)⟩
  | .dict xs, h => by
    simp only [gd] at h
    obtain ⟨h1, h2, h3⟩ := gdKv_ok xs h
    exact ⟨by simp only [PyData.leavesShort]; exact h1, by simp only [PyData.showable]; exact h2, by simp only [PyData.shown, dictText]; exact so_app (so_app (so_str _) (so_join _ h3)) (so_str _)⟩
theorem gdAll_ok : ∀ xs : List PyData, gdAll xs = true → PyData.leavesShortAll 64 xs = true ∧ PyData.showableAll xs = true ∧ ∀ t ∈ PyData.shownAll xs, PyData.strOk t = true
  | [], _ => ⟨by simp only [PyData.leavesShortAll], by simp only [PyData.showableAll], by simp only [PyData.shownAll]; intro t ht; cases ht⟩
  | x :: xs, h => by
    simp only [gdAll, Bool.and_eq_true] at h
    obtain ⟨a1, a2, a3⟩ := gd_ok x h.1
    obtain ⟨b1, b2, b3⟩ := gdAll_ok xs h.2
    refine ⟨by simp only [PyData.leavesShortAll, a1, b1, Bool.and_self], by simp only [PyData.showableAll, a2, b2, Bool.and_self], ?_⟩
    simp only [PyData.shownAll]
    intro t ht
    rcases List.mem_cons.mp ht with rfl | ht
    · exact a3
    · exact b3 t ht
theorem gdKv_ok : ∀ xs : List (PyData × PyData), gdKv xs = true → PyData.leavesShortKv 64 xs = true ∧ PyData.showableKv xs = true ∧ ∀ t ∈ PyData.shownKv xs, PyData.strOk t = true
  | [], _ => ⟨by simp only [PyData.leavesShortKv], by simp only [PyData.showableKv], by simp only [PyData.shownKv]; intro t ht; cases ht⟩
  | (k, v) :: xs, h => by
    simp only [gdKv, Bool.and_eq_true] at h
    obtain ⟨a1, a2, a3⟩ := gd_ok k h.1.1
    obtain ⟨c1, c2, c3⟩ := gd_ok v h.1.2
    obtain ⟨b1, b2, b3⟩ := gdKv_ok xs h.2
    refine ⟨by simp only [PyData.leavesShortKv, a1, b1, c1, Bool.and_self], by simp only [PyData.showableKv, a2, b2, c2, Bool.and_self], ?_⟩
    simp only [PyData.shownKv]
    intro t ht
    rcases List.mem_cons.mp ht with rfl | ht
    · exact so_app (so_app a3 (so_str _)) c3
    · exact b3 t ht
end
/-- data that can be shown -/
structure Dd (d : PyData) (b n : Nat) : Prop where
  gd : gd d = true
  bulk : d.bulk ≤ b
  deep : d.depth ≤ n
theorem Dd.show {d : PyData} {b n : Nat} (h : Dd d b n) (hb : b ≤ 100000) (hn : n ≤ 60) : showOk d = true ∧ PyData.strOk d.shown = true := by
  obtain ⟨h1, h2, h3⟩ := gd_ok d h.gd
  have h4 := PyData.shown_le_bulk 64 (by decide) d h1
  have h5 := h.bulk
  have h6 : d.shown.length ≤ sizeLine := by
    have : sizeLine = 16777216 := by decide
    omega
  exact ⟨by unfold showOk; simp only [h2, decide_eq_true h6, decide_eq_true (Nat.le_trans h.deep hn), Bool.and_self], h3⟩
theorem repr_by {B T : List O} {a : A} {d : PyData} {b n : Nat} (e : toS (B ++ T) 60 a = some d) (h : Dd d b n) (hb : b ≤ 100000) (hn : n ≤ 60) : fRepr B [a] T = .ok (.str d.shown) T := by
  simp only [fRepr, e, if_pos (h.show hb hn).1]
end K01
end
section
set_option Elab.async false
set_option linter.all false
set_option maxRecDepth 100000
set_option maxHeartbeats 1000000
namespace K01
open PySem PySem.Spec PyProof.Rows L2 Ev
def wsB : Bool := WS.all fun w => gd (.str w) && decide (w.cps.size ≤ 9) && (PyData.strOk w && decide (w ≠ "mark") && decide (w ≠ "b") && decide (w.length ≤ 100))
theorem wsB_ok : wsB = true := by kernel_rfl
theorem ws_at {w : Str} (h : w ∈ WS) : gd (.str w) = true ∧ w.cps.size ≤ 9 ∧ PyData.strOk w = true ∧ w ≠ "mark" ∧ w ≠ "b" ∧ w.length ≤ 100 := by
  have := List.all_eq_true.mp wsB_ok w h
  simp only [Bool.and_eq_true, decide_eq_true_eq] at this
  obtain ⟨⟨a, b⟩, ⟨⟨c, d⟩, e⟩, f⟩ := this
  exact ⟨a, b, c, d, e, f⟩
theorem toS_lst {hp : List O} {n p : Nat} {xs : List A} (h : hp[p]? = some (.lst xs)) : toS hp (n + 1) (.ref p) = (mapO (toS hp n) xs).map PyData.list := by
  unfold toS
  simp only [h]
theorem toS_dic {hp : List O} {n p : Nat} {xs : List (Key × A)} (h : hp[p]? = some (.dic xs)) : toS hp (n + 1) (.ref p) = (mapO (fun kv => (toS hp n kv.2).map fun d => (keyD kv.1, d)) xs).map PyData.dict := by
  conv => lhs; unfold toS
  simp only [h]
theorem toS_tup {hp : List O} {n : Nat} {xs : List A} : toS hp (n + 1) (.tup xs) = (mapO (toS hp n) xs).map PyData.tuple := by
  unfold toS
  rfl
section
variable {ns : List Int} {j : List O}
/-- the heap of our runs -/
def hpX (ns : List Int) (k m : Int) (j : List O) : List O := B0 ns ++ hp0 ns k m j
theorem x_get {k m : Int} {p : Nat} {l : List O} {o : O} (h : j[p]? = some o) : (hpX ns k m (j ++ l))[p + 4]? = some o := by
  unfold hpX
  rw [hp_get, j_old h]
theorem el_data {x : A} (h : El j x) : ∃ d, (∀ k m l n, toS (hpX ns k m (j ++ l)) (n + 2) x = some d) ∧ Dd d 9 1 := by
  cases h with
  | int i h => exact ⟨.int i, fun k m l n => rfl, by simp only [gd, h.1, h.2, decide_true, Bool.and_self], by simp only [PyData.bulk]; omega, by simp only [PyData.depth]; omega⟩
  | non => exact ⟨.none, fun k m l n => rfl, rfl, by simp only [PyData.bulk]; omega, by simp only [PyData.depth]; omega⟩
  | bl b => exact ⟨.bool b, fun k m l n => rfl, rfl, by simp only [PyData.bulk]; omega, by simp only [PyData.depth]; omega⟩
  | str w h =>
    obtain ⟨a, b, _⟩ := ws_at h
    exact ⟨.str w, fun k m l n => rfl, a, by simp only [PyData.bulk]; omega, by simp only [PyData.depth]; omega⟩
  | tup => exact ⟨.tuple [.int 0], fun k m l n => rfl, by kernel_rfl, by decide, by decide⟩
  | lst p h =>
    refine ⟨.list [.int 0], fun k m l n => ?_, by kernel_rfl, by decide, by decide⟩
    rw [toS_lst (x_get (ns := ns) (k := k) (m := m) (l := l) h)]
    rfl
  | dic p h =>
    refine ⟨.dict [], fun k m l n => ?_, by kernel_rfl, by decide, by decide⟩
    rw [toS_dic (x_get (ns := ns) (k := k) (m := m) (l := l) h)]
    rfl
theorem els_data : ∀ {xs : List A}, (∀ x ∈ xs, El j x) → ∃ ds, (∀ k m l n, mapO (toS (hpX ns k m (j ++ l)) (n + 2)) xs = some ds) ∧ gdAll ds = true ∧ PyData.bulkAll ds ≤ 10 * xs.length ∧ PyData.depthAll ds ≤ 1
  | [], _ => ⟨[], fun _ _ _ _ => rfl, rfl, by simp only [PyData.bulkAll]; omega, by simp only [PyData.depthAll]; omega⟩
  | x :: xs, h => by
    obtain ⟨d, e, a, b, c⟩ := el_data (ns := ns) (h x (by simp))
    obtain ⟨ds, e', a', b', c'⟩ := els_data (xs := xs) fun y hy => h y (by simp [hy])
    refine ⟨d :: ds, fun k m l n => ?_, by simp only [gdAll, a, a', Bool.and_self], ?_, ?_⟩
    · unfold mapO
      rw [e k m l n]
      show (mapO _ xs).map _ = _
      rw [e' k m l n]
      rfl
    · simp only [PyData.bulkAll, List.length_cons]; omega
    · simp only [PyData.depthAll]; omega
theorem cv_data {v : A} (h : Cv j v) : ∃ d, (∀ k m l n, toS (hpX ns k m (j ++ l)) (n + 4) v = some d) ∧ Dd d 60 3 := by
  cases h with
  | el _ h =>
    obtain ⟨d, e, a, b, c⟩ := el_data (ns := ns) h
    exact ⟨d, fun k m l n => e k m l (n + 2), a, by omega, by omega⟩
  | tup xs hl h =>
    obtain ⟨ds, e, a, b, c⟩ := els_data (ns := ns) h
    refine ⟨.tuple ds, fun k m l n => ?_, by simp only [gd]; exact a, by simp only [PyData.bulk]; omega, by simp only [PyData.depth]; omega⟩
    rw [toS_tup, e k m l (n + 1)]
    rfl
  | lst p xs hp hl h =>
    obtain ⟨ds, e, a, b, c⟩ := els_data (ns := ns) h
    refine ⟨.list ds, fun k m l n => ?_, by simp only [gd]; exact a, by simp only [PyData.bulk]; omega, by simp only [PyData.depth]; omega⟩
    rw [toS_lst (x_get (ns := ns) (k := k) (m := m) (l := l) hp), e k m l (n + 1)]
    rfl
  | tup2 xs hl h =>
    obtain ⟨ds, e, a, b, c⟩ := els_data (ns := ns) h
    refine ⟨.tuple [.tuple ds], fun k m l n => ?_, by simp only [gd, gdAll, a, Bool.and_self], by simp only [PyData.bulk, PyData.bulkAll]; omega, by simp only [PyData.depth, PyData.depthAll]; omega⟩
    have e2 : toS (hpX ns k m (j ++ l)) (n + 3) (.tup xs) = some (.tuple ds) := by
      rw [toS_tup, e k m l n]
      rfl
    rw [toS_tup]
    simp only [mapO, e2]
    rfl
  | dic p hp =>
    refine ⟨.dict [(.str "num", .int 0)], fun k m l n => ?_, by kernel_rfl, Nat.le_trans (Nat.le_of_eq (show _ = 5 from by kernel_rfl)) (by decide), Nat.le_trans (Nat.le_of_eq (show _ = 1 from by kernel_rfl)) (by decide)⟩
    rw [toS_dic (x_get (ns := ns) (k := k) (m := m) (l := l) hp)]
    rfl
/-- the lines as data -/
def lnsD (d : Nat) (dv : PyData) : List PyData := List.replicate d (.tuple [.str "out", .int 0]) ++ [.tuple [.str "jump", .str "b"], dv, .tuple [.str "mark", .str "a"], .tuple [.str "mark", .str "b"], .tuple [.str "stop"]]
theorem lns_data {d : Nat} {v : A} {hp : List O} {n : Nat} {dv : PyData} (hd : d < 3) (e : toS hp (n + 4) v = some dv) : mapO (toS hp (n + 4)) (lns d v) = some (lnsD d dv) := by
  match d, hd with
  | 0, _ => simp only [lns, lnsD, List.replicate, List.nil_append, mapO, e]; rfl
  | 1, _ => simp only [lns, lnsD, List.replicate, List.cons_append, List.nil_append, mapO, e]; rfl
  | 2, _ => simp only [lns, lnsD, List.replicate, List.cons_append, List.nil_append, mapO, e]; rfl
theorem lnsD_ok {d : Nat} {dv : PyData} (hd : d < 3) (h : Dd dv 60 3) : gdAll (lnsD d dv) = true ∧ PyData.bulkAll (lnsD d dv) ≤ 200 ∧ PyData.depthAll (lnsD d dv) ≤ 3 := by
  obtain ⟨a, b, c⟩ := h
  have gO : gd (.tuple [.str "out", .int 0]) = true := by kernel_rfl
  have gJ : gd (.tuple [.str "jump", .str "b"]) = true := by kernel_rfl
  have gA : gd (.tuple [.str "mark", .str "a"]) = true := by kernel_rfl
  have gB : gd (.tuple [.str "mark", .str "b"]) = true := by kernel_rfl
  have gS : gd (.tuple [.str "stop"]) = true := by kernel_rfl
  have bO : PyData.bulk (.tuple [.str "out", .int 0]) = 5 := by kernel_rfl
  have bJ : PyData.bulk (.tuple [.str "jump", .str "b"]) = 7 := by kernel_rfl
  have bA : PyData.bulk (.tuple [.str "mark", .str "a"]) = 7 := by kernel_rfl
  have bB : PyData.bulk (.tuple [.str "mark", .str "b"]) = 7 := by kernel_rfl
  have bS : PyData.bulk (.tuple [.str "stop"]) = 5 := by kernel_rfl
  have dO : PyData.depth (.tuple [.str "out", .int 0]) = 1 := by kernel_rfl
  have dJ : PyData.depth (.tuple [.str "jump", .str "b"]) = 1 := by kernel_rfl
  have dA : PyData.depth (.tuple [.str "mark", .str "a"]) = 1 := by kernel_rfl
  have dB : PyData.depth (.tuple [.str "mark", .str "b"]) = 1 := by kernel_rfl
  have dS : PyData.depth (.tuple [.str "stop"]) = 1 := by kernel_rfl
  match d, hd with
  | 0, _ => simp only [lnsD, List.replicate, List.nil_append, gdAll, PyData.bulkAll, PyData.depthAll, gJ, gA, gB, gS, bJ, bA, bB, bS, dJ, dA, dB, dS, a, Bool.and_self, true_and]; omega
  | 1, _ => simp only [lnsD, List.replicate, List.cons_append, List.nil_append, gdAll, PyData.bulkAll, PyData.depthAll, gO, gJ, gA, gB, gS, bO, bJ, bA, bB, bS, dO, dJ, dA, dB, dS, a, Bool.and_self, true_and]; omega
  | 2, _ => simp only [lnsD, List.replicate, List.cons_append, List.nil_append, gdAll, PyData.bulkAll, PyData.depthAll, gO, gJ, gA, gB, gS, bO, bJ, bA, bB, bS, dO, dJ, dA, dB, dS, a, Bool.and_self, true_and]; omega
/-- the texts of the lines and of the program -/
theorem repr_lines {v : A} {d : Nat} (h : Cv j v) (hd : d < 3) : ∃ x y : Str, PyData.strOk x = true ∧ PyData.strOk y = true ∧ (∀ k m l p, (j ++ l)[p]? = some (.lst (lns d v)) → fRepr (B0 ns) [.ref (p + 4)] (hp0 ns k m (j ++ l)) = .ok (.str x) (hp0 ns k m (j ++ l))) ∧
    ∀ k m l p, (j ++ l)[p]? = some (.dic (fzD d v)) → fRepr (B0 ns) [.ref (p + 4)] (hp0 ns k m (j ++ l)) = .ok (.str y) (hp0 ns k m (j ++ l)) := by
  obtain ⟨dv, e, D⟩ := cv_data (ns := ns) h
  obtain ⟨a, b, c⟩ := lnsD_ok hd D
  have D1 : Dd (.list (lnsD d dv)) 200 4 := ⟨by simp only [gd]; exact a, by simp only [PyData.bulk]; exact b, by simp only [PyData.depth]; omega⟩
  have gm : gd (.str "main") = true := by kernel_rfl
  have bm : PyData.bulk (.str "main") = 4 := by kernel_rfl
  have dm : PyData.depth (.str "main") = 0 := by kernel_rfl
  have D2 : Dd (.dict [(.str "main", .tuple (lnsD d dv))]) 300 6 := ⟨by simp only [gd, gdKv, a, Bool.and_true]; exact gm, by simp only [PyData.bulk, PyData.bulkKv] at bm ⊢; omega, by simp only [PyData.depth, PyData.depthKv]; omega⟩
  refine ⟨_, _, (D1.show (by decide) (by decide)).2, (D2.show (by decide) (by decide)).2, fun k m l p hp => ?_, fun k m l p hp => ?_⟩
  · have e1 : (hpX ns k m (j ++ l))[p + 4]? = some (.lst (lns d v)) := hp
    have e2 := lns_data hd (e k m l 55)
    exact repr_by (d := .list (lnsD d dv)) (by
      show toS (hpX ns k m (j ++ l)) (59 + 1) _ = _
      rw [toS_lst e1, e2]; rfl) D1 (by decide) (by decide)
  · have e1 : (hpX ns k m (j ++ l))[p + 4]? = some (.dic (fzD d v)) := hp
    have e2 := lns_data hd (e k m l 54)
    have e3 : toS (hpX ns k m (j ++ l)) (58 + 1) (.tup (lns d v)) = some (.tuple (lnsD d dv)) := by
      rw [toS_tup, e2]; rfl
    exact repr_by (d := .dict [(.str "main", .tuple (lnsD d dv))]) (by
      show toS (hpX ns k m (j ++ l)) (59 + 1) _ = _
      rw [toS_dic e1]
      simp only [fzD, mapO, e3]
      rfl) D2 (by decide) (by decide)
theorem repr_int {B T : List O} {i : Int} (h1 : -1000 ≤ i) (h2 : i ≤ 1000) : ∃ x : Str, PyData.strOk x = true ∧ fRepr B [.int i] T = .ok (.str x) T := by
  have D : Dd (.int i) 0 0 := ⟨by simp only [gd, Bool.and_eq_true, decide_eq_true_eq]; omega, by simp only [PyData.bulk]; omega, by simp only [PyData.depth]; omega⟩
  exact ⟨_, (D.show (by decide) (by decide)).2, repr_by rfl D (by decide) (by decide)⟩
end
end K01
end
section
set_option Elab.async false
set_option linter.all false
set_option maxRecDepth 100000
set_option maxHeartbeats 2000000
namespace K01
open PySem PySem.Spec PyProof.Rows L2 Ev
section
variable {B t l : List O} {n : Nat} {ls : List A}
theorem ownG {T : List O} {D : Nat} {a b : Option A} (hD : (B ++ T)[D]? = some (.fz (kvM (.tup ls)))) : mOwn B [a, b, some (.ref D), none] T = .ok (.ref (B.length + (T.length + 1))) (T ++ [.lst [.str "main"], .dic (kvM (.tup ls))]) := by
  have h1 : fSorted B [.ref D] T = .ok (.ref (B.length + T.length)) (T ++ [.lst [.str "main"]]) := by
    have e1 : rdL (B ++ T) D = none := by simp [rdL, hD]
    have e2 : dicOf (B ++ T) D = some (kvM (.tup ls)) := by simp [dicOf, hD]
    simp only [fSorted, e1, e2]
    rfl
  have r1 : rdL (B ++ (T ++ [.lst [.str "main"]])) (B.length + T.length) = some [.str "main"] := by
    unfold rdL; rw [get_new]; rfl
  have g1 : fDGet B (.ref D) (.str "main") (T ++ [.lst [.str "main"]]) = .ok (.tup ls) (T ++ [.lst [.str "main"]]) := by
    simp only [fDGet, dget, get_old hD]
    rfl
  have t1 : fTupOf B [.tup ls] (T ++ [.lst [.str "main"]]) = .ok (.tup ls) (T ++ [.lst [.str "main"]]) := rfl
  have z : 1 ≤ sizeLine := by decide
  have k : putA ([] : List (Key × A)) (Sum.inr "main") (.tup (ls)) = kvM (.tup ls) := rfl
  simp [mOwn, mDc, mISeq, h1, r1, itR, z, dcGo, wipeA, mYes, g1, t1, keyOf, k]
theorem init_runG {k : Nat} (hk : ls.length = k + 1) : ∃ j n1, B.length + (t.length + 2) ≤ n1 ∧ (B ++ (t ++ ([O.fz (kvM (.tup ls)), .ins 7 [("own_functions", .ref n1)]] ++ j)))[n1]? = some (.dic (kvM (.tup ls))) ∧
    f_Program___init__ B [.ref (B.length + (t.length + 1)), .ref (B.length + t.length)] (t ++ [O.dic (kvM (.tup ls)), .ins 7 []]) = (f_Program_need_fine B [.ref (B.length + (t.length + 1))] (t ++ ([O.fz (kvM (.tup ls)), .ins 7 [("own_functions", .ref n1)]] ++ j))).bind fun _ t1 => .ok .non t1 := by
  have hD : (B ++ (t ++ [O.dic (kvM (.tup ls)), .ins 7 []]))[B.length + t.length]? = some (.dic (kvM (.tup ls))) := by rw [get_new]; rfl
  have eS : (t ++ [O.dic (kvM (.tup ls)), .ins 7 []]).set (B.length + t.length - B.length) (.fz (kvM (.tup ls))) = t ++ [O.fz (kvM (.tup ls)), .ins 7 []] := by
    rw [Nat.add_sub_cancel_left, List.set_append_right _ _ (Nat.le_refl _), Nat.sub_self]
    rfl
  obtain ⟨j1, e1⟩ := nf_ok (k := k) (m := "tuple") (Nat.le_add_right _ _) hD (.inr rfl) rfl (by simp [lenA, hk])
  rw [eS] at e1
  have p0 := isParts (B := B) (T := t ++ [O.dic (kvM (.tup ls)), .ins 7 []]) (D := B.length + t.length) (by simp only [tyN, hD])
  have hD1 : (B ++ ((t ++ [O.fz (kvM (.tup ls)), .ins 7 []]) ++ j1))[B.length + t.length]? = some (.fz (kvM (.tup ls))) := by
    rw [List.append_assoc, get_new]; rfl
  have o1 := ownG (a := some (.ref (B.length + (t.length + 1)))) (b := some (.ref (B.length + t.length))) hD1
  unfold mOwn at o1
  -- the instance is written
  let n1 := B.length + (((t ++ [O.fz (kvM (.tup ls)), .ins 7 []]) ++ j1).length + 1)
  have hn1 : n1 = B.length + (t.length + (2 + (j1.length + 1))) := by
    show B.length + (((t ++ [O.fz (kvM (.tup ls)), .ins 7 []]) ++ j1).length + 1) = _
    simp only [List.length_append, List.length_cons, List.length_nil]
    omega
  refine ⟨j1 ++ [O.lst [.str "main"], .dic (kvM (.tup ls))], n1, by rw [hn1]; omega, ?_, ?_⟩
  · rw [hn1, get_newK]
    rw [List.getElem?_append_right (by simp)]
    simp
  · have w1 : ∀ s, gFld B [7] "own_functions" (.ref (B.length + (t.length + 1))) (.ref n1) s (((t ++ [O.fz (kvM (.tup ls)), .ins 7 []]) ++ j1) ++ [O.lst [.str "main"], .dic (kvM (.tup ls))]) = .ok (.nx s) (t ++ ([O.fz (kvM (.tup ls)), .ins 7 [("own_functions", .ref n1)]] ++ (j1 ++ [O.lst [.str "main"], .dic (kvM (.tup ls))]))) := by
      intro s
      have e : ((t ++ [O.fz (kvM (.tup ls)), .ins 7 []]) ++ j1) ++ [O.lst [.str "main"], .dic (kvM (.tup ls))] = t ++ (O.fz (kvM (.tup ls)) :: .ins 7 [] :: (j1 ++ [O.lst [.str "main"], .dic (kvM (.tup ls))])) := by simp
      rw [e]
      have hI : (B ++ (t ++ (O.fz (kvM (.tup ls)) :: .ins 7 [] :: (j1 ++ [O.lst [.str "main"], .dic (kvM (.tup ls))]))))[B.length + (t.length + 1)]? = some (.ins 7 []) := by rw [get_newK]; rfl
      simp only [gFld, if_pos (Nat.le_add_right _ _ : B.length ≤ B.length + (t.length + 1)), hI]
      have e2 : (t ++ (O.fz (kvM (.tup ls)) :: .ins 7 [] :: (j1 ++ [O.lst [.str "main"], .dic (kvM (.tup ls))]))).set (B.length + (t.length + 1) - B.length) (.ins 7 (putFA "own_functions" (.ref n1) [])) = t ++ ([O.fz (kvM (.tup ls)), .ins 7 [("own_functions", .ref n1)]] ++ (j1 ++ [O.lst [.str "main"], .dic (kvM (.tup ls))])) := by
        rw [Nat.add_sub_cancel_left, List.set_append_right _ _ (by omega), Nat.add_sub_cancel_left]
        rfl
      rw [e2]
      rfl
    have p1 := isParts (B := B) (T := t ++ ([O.fz (kvM (.tup ls)), .ins 7 [("own_functions", .ref n1)]] ++ (j1 ++ [O.lst [.str "main"], .dic (kvM (.tup ls))]))) (D := B.length + t.length) (by simp only [tyN, get_new]; rfl)
    have i1 : insOf B (t ++ ([O.fz (kvM (.tup ls)), .ins 7 [("own_functions", .ref n1)]] ++ (j1 ++ [O.lst [.str "main"], .dic (kvM (.tup ls))]))) 7 "need_fine" (.ref (B.length + (t.length + 1))) = true := by
      simp only [insOf, get_newK]
      kernel_rfl
    have o2 : mDc B [3] (mISeq B (mCall (fSorted B) (mCons (mVar 2) mNil))) (gN 3) mYes (mVar 3) (mCall (fTupOf B) (mCons (mBin (fDGet B) (mVar 2) (mVar 3)) mNil)) [some (.ref (B.length + (t.length + 1))), some (.ref (B.length + t.length)), some (.ref (B.length + t.length)), none] ((t ++ [O.fz (kvM (.tup ls)), .ins 7 []]) ++ j1) = .ok (.ref n1) (((t ++ [O.fz (kvM (.tup ls)), .ins 7 []]) ++ j1) ++ [O.lst [.str "main"], .dic (kvM (.tup ls))]) := o1
    clear o1
    generalize n1 = N1 at *
    generalize t ++ ([O.fz (kvM (.tup ls)), .ins 7 [("own_functions", .ref N1)]] ++ (j1 ++ [O.lst [.str "main"], .dic (kvM (.tup ls))])) = T4 at *
    generalize ((t ++ [O.fz (kvM (.tup ls)), .ins 7 []]) ++ j1) ++ [O.lst [.str "main"], .dic (kvM (.tup ls))] = T3 at *
    generalize (t ++ [O.fz (kvM (.tup ls)), .ins 7 []]) ++ j1 = T2 at *
    generalize t ++ [O.dic (kvM (.tup ls)), .ins 7 []] = T0 at *
    show runF 4 m_Program___init__ B _ T0 = _
    simp [m_Program___init__, p0, e1, mFld, o2, w1, p1, mMethF0, i1]
    cases f_Program_need_fine B [.ref (B.length + (t.length + 1))] T4 <;> rfl
def lsE : List A := [yA, yO, yA, yS]
def TE2 (t : List O) (m : List (Key × A)) : List O := t ++ [.dic m, .lst [.str "a", .str "a"]]
theorem TE_dic {m : List (Key × A)} : (B ++ TE2 t m)[B.length + t.length]? = some (.dic m) := by unfold TE2; rw [get_new]; rfl
theorem TE_set {m m' : List (Key × A)} : (TE2 t m).set (B.length + t.length - B.length) (.dic m') = TE2 t m' := by
  unfold TE2
  rw [Nat.add_sub_cancel_left, List.set_append_right _ _ (Nat.le_refl _), Nat.sub_self]
  rfl
theorem TE_in {m : List (Key × A)} : fSIn B true (.str "a") (.ref (B.length + (t.length + 1))) (TE2 t m) = .ok (.bl false) (TE2 t m) := by
  have e : seqOf (B ++ TE2 t m) (.ref (B.length + (t.length + 1))) = some [.str "a", .str "a"] := by
    show rdL _ _ = _
    unfold rdL TE2; rw [get_newK]; rfl
  unfold fSIn
  rw [e]
  show Res.ok (A.bl (!inV (.str "a") [.str "a", .str "a"])) _ = _
  have e2 : inV (.str "a") [.str "a", .str "a"] = true := by kernel_rfl
  rw [e2]; rfl
theorem labE {k : Nat} {T : List O} : mLab B [some (.ref n), some (.tup []), some (.str "main"), none, some (.tup lsE), some (.ref k), none, none] T = .ok (.ref (B.length + T.length)) (T ++ [.lst [.str "a", .str "a"]]) := by
  have hm : ∀ y ∈ lsE, y = yA ∨ y = yO ∨ y = yS := by
    intro y hy
    simp only [lsE, List.mem_cons, List.not_mem_nil, or_false] at hy
    rcases hy with h | h | h | h
    · exact .inl h
    · exact .inr (.inl h)
    · exact .inl h
    · exact .inr (.inr h)
  have e := mLc_itL (B := B) (t := T) (vs := [7]) (mi := mISeq B (mVar 4)) (g := gN 7) (mt := mAnd (mTest (mCallF B 1 f_is_line (mCons (mVar 7) mNil))) (mTest (mBin (fEq B false) (mBin (fIx B) (mVar 7) (mCon (.int 0))) (mCon (.str "mark"))))) (me := mBin (fIx B) (mVar 7) (mCon (.int 1))) (s := [some (.ref n), some (.tup []), some (.str "main"), none, some (.tup lsE), some (.ref k), none, none])
    (c := fun y => lineB y && isMk y) (f := sec) (ys := lsE) rfl (by show 4 ≤ sizeLine; decide) (fun y hy => by
      rcases hm y hy with rfl | rfl | rfl
      · exact ⟨_, rfl, test_c cand_A rfl, fun hc => by kernel_rfl⟩
      · exact ⟨_, rfl, test_c cand_O rfl, fun hc => by rw [c_O] at hc; cases hc⟩
      · exact ⟨_, rfl, test_c cand_S rfl, fun hc => by rw [c_S] at hc; cases hc⟩)
  have e2 : (lsE.filter fun y => lineB y && isMk y).map sec = [.str "a", .str "a"] := by kernel_rfl
  rw [e2] at e
  exact e
theorem markE {lb : Nat} {T : List O} {L : A} {i : Int} {mk : Nat} (h : fDIn B false (.str "a") (.ref mk) T = .ok (.bl true) T) : mInner B (sI n lb mk L i yA) T = .exc 1 (xI i) T := by
  have h2 : fSIn B false (.str "mark") (.tup []) T = .ok (.bl false) T := by kernel_rfl
  have h4 : fEq B false (.str "mark") (.str "mark") T = .ok (.bl true) T := by kernel_rfl
  simp [mInner, sI, il_A, i0_A, h2, nm_A, h4, i1_A, h, isNonA, mRaise, copies, own_copy_str, own_copy_int, flds, xI]
theorem loopE {L : A} : mFor B (itL (numbs 0 lsE)) (gT [6, 7]) (mInner B) 4 (sX n (B.length + (t.length + 1)) (B.length + t.length) L none none) (TE2 t []) = .exc 1 (xI 2) (TE2 t [(Sum.inr "a", .bl true)]) := by
  have t0 : mInner B (sI n (B.length + (t.length + 1)) (B.length + t.length) L ((0 : Nat) : Int) yA) (TE2 t []) = .ok (.nx (sI n (B.length + (t.length + 1)) (B.length + t.length) L ((0 : Nat) : Int) yA)) (TE2 t [(Sum.inr "a", .bl true)]) := by
    have h := inner_mark (n := n) (L := L) (i := ((0 : Nat) : Int)) (y := yA) (Nat.le_add_right _ _) (TE_dic (B := B) (t := t) (m := [])) (z := "a") rfl (by decide) il_A i0_A nm_A lb_A i1_A TE_in
    rw [TE_set] at h
    exact h
  have t1 : mInner B (sI n (B.length + (t.length + 1)) (B.length + t.length) L ((1 : Nat) : Int) yO) (TE2 t [(Sum.inr "a", .bl true)]) = .ok (.nx (sI n (B.length + (t.length + 1)) (B.length + t.length) L ((1 : Nat) : Int) yO)) (TE2 t [(Sum.inr "a", .bl true)]) :=
    inner_pass il_O i0_O nb_out (.inl nm_O) nk_out (.inl lb_O)
  have t2 : mInner B (sI n (B.length + (t.length + 1)) (B.length + t.length) L ((2 : Nat) : Int) yA) (TE2 t [(Sum.inr "a", .bl true)]) = .exc 1 (xI 2) (TE2 t [(Sum.inr "a", .bl true)]) := by
    refine markE ?_
    have e : valA [((Sum.inr "a" : Key), A.bl true)] (Sum.inr "a") = some (.bl true) := by kernel_rfl
    simp [fDIn, dget, TE_dic, keyOf, e]
  refine (loop_nx (ys := numbs 0 lsE) (zs := []) (us := [numb 1 yO, numb 2 yA, numb 3 yS]) (i := 0) (y := yA) rfl t0).trans ?_
  refine (loop_nx (ys := numbs 0 lsE) (zs := [numb 0 yA]) (us := [numb 2 yA, numb 3 yS]) (i := 1) (y := yO) rfl t1).trans ?_
  exact loop_exc (ys := numbs 0 lsE) (zs := [numb 0 yA, numb 1 yO]) (us := [numb 3 yS]) (i := 2) (y := yA) rfl t2
theorem nlE (hb : B.length ≤ n) (hn : (B ++ t)[n]? = some (.dic (kvM (.tup lsE)))) : ∃ T', f_need_lines B [.ref n, .tup []] t = .exc 1 (xI 2) (t.set (n - B.length) (.fz (kvM (.tup lsE))) ++ T') := by
  have h1 : onN B ksA (.ref n) t = .ok (itL [.str "main"]) (t.set (n - B.length) (.fz (kvM (.tup lsE)))) := by
    simp only [onN, if_pos hb, hn]
    rfl
  have h2 : (B ++ t.set (n - B.length) (.fz (kvM (.tup lsE))))[n]? = some (.fz (kvM (.tup lsE))) := by
    rw [← set_top hb, List.getElem?_set_self]
    exact (List.getElem?_eq_some_iff.mp hn).1
  refine ⟨[.dic [(Sum.inr "a", .bl true)], .lst [.str "a", .str "a"]], gc_exc ?_⟩
  generalize t.set (n - B.length) (.fz (kvM (.tup lsE))) = t1 at *
  have h3 : fDGet B (.ref n) (.str "main") t1 = .ok (.tup lsE) t1 := by
    simp only [fDGet, dget, h2]
    rfl
  have h4 := labE (B := B) (T := t1 ++ [.dic []]) (n := n) (k := B.length + t1.length)
  unfold mLab at h4
  have e5 : (B.length + (t1 ++ [O.dic []]).length) = B.length + (t1.length + 1) := by simp
  have e6 : (t1 ++ [O.dic []]) ++ [.lst [.str "a", .str "a"]] = TE2 t1 [] := by simp [TE2]
  rw [e5, e6] at h4
  have h5 : mForS B (mIEnum B (mCons (mVar 4) mNil)) (gT [6, 7]) (mInner B) (sX n (B.length + (t1.length + 1)) (B.length + t1.length) (.tup lsE) none none) (TE2 t1 []) = .exc 1 (xI 2) (TE2 t1 [(Sum.inr "a", .bl true)]) := by
    rw [← loopE (B := B) (t := t1) (n := n) (L := .tup lsE)]
    rfl
  rw [ev_runF, need_lines_eq]
  have hs : startA 8 [A.ref n, .tup []] = [some (.ref n), some (.tup []), none, none, none, none, none, none] := rfl
  rw [hs]
  unfold sX at h5
  simp [mForS, mIN, h1, mFor, itL, h3, h4, h5]
  unfold mForS at h5
  rw [h5]
  rfl
theorem initE : ∃ T', f_Program___init__ B [.ref (B.length + (t.length + 1)), .ref (B.length + t.length)] (t ++ [O.dic (kvM (.tup lsE)), .ins 7 []]) = .exc 1 (xI 2) (t ++ T') := by
  obtain ⟨j, n1, hn1, hn, e⟩ := init_runG (B := B) (t := t) (ls := lsE) (k := 3) rfl
  have hb : B.length ≤ n1 := by omega
  have es := set_new (B := B) (t := t) (l := []) (o := .fz (kvM (.tup lsE))) hn1 (O.fz (kvM (.tup lsE))) (.ins 7 [("own_functions", .ref n1)]) j
  have hS : (B ++ (t ++ ([O.fz (kvM (.tup lsE)), .ins 7 [("own_functions", .ref n1)]] ++ j)))[B.length + (t.length + 1)]? = some (.ins 7 [("own_functions", .ref n1)]) := by rw [get_newK]; rfl
  obtain ⟨T', key⟩ := nlE hb hn
  rw [e, fine_exc hS key, es, List.append_assoc]
  exact ⟨_, rfl⟩
end
end K01
end
section
set_option Elab.async false
set_option linter.all false
set_option maxRecDepth 100000
set_option maxHeartbeats 1000000
namespace K01
open PySem PySem.Spec PyProof.Rows L2 Ev
section
variable {ns : List Int} {k m : Int} {j l : List O} {v : A} {s : Sl}
theorem Cv.old (h : Cv j v) : Cv (j ++ l) v := by
  cases h with
  | el _ h => exact .el _ h.old
  | tup xs hl h => exact .tup xs hl fun x hx => (h x hx).old
  | lst p xs hp hl h => exact .lst p xs (j_old hp) hl fun x hx => (h x hx).old
  | tup2 xs hl h => exact .tup2 xs hl fun x hx => (h x hx).old
  | dic p hp => exact .dic p (j_old hp)
theorem el_pt {x : A} (h : El j x) : Pt (B0 ns ++ hp0 ns k m j) x := by
  cases h with
  | int i h => exact ⟨⟨_, rfl⟩, rfl⟩
  | non => exact ⟨⟨_, rfl⟩, rfl⟩
  | bl b => exact ⟨⟨_, rfl⟩, rfl⟩
  | str w h =>
    obtain ⟨_, _, a, _, _, b⟩ := ws_at h
    exact ⟨⟨_, rfl⟩, by simp only [okS, a, decide_eq_true b, Bool.and_self]⟩
  | tup => exact ⟨⟨_, rfl⟩, rfl⟩
  | lst p h => exact ⟨⟨"list", by simp only [tyN, hp_get, h]⟩, rfl⟩
  | dic p h => exact ⟨⟨"dict", by simp only [tyN, hp_get, h]⟩, rfl⟩
theorem cv_cand (h : Cv j v) : Cand (B0 ns ++ hp0 ns k m j) v := by
  cases h with
  | el _ h =>
    refine ⟨(el_pt h).1, fun xs e => ?_, fun xs e x hx => ?_⟩
    · subst e; cases h
    · subst e
      cases h
      rw [List.mem_singleton.mp hx]
      exact ⟨⟨_, rfl⟩, rfl⟩
  | tup xs hl h => exact ⟨⟨_, rfl⟩, (fun _ e => by cases e), fun ys e x hx => by cases e; exact el_pt (h x hx)⟩
  | lst p xs hp hl h => exact ⟨⟨"list", by simp only [tyN, hp_get, hp]⟩, (fun _ e => by cases e), fun ys e => by cases e⟩
  | tup2 xs hl h => exact ⟨⟨_, rfl⟩, (fun _ e => by cases e), fun ys e x hx => by
      cases e
      rw [List.mem_singleton.mp hx]
      exact ⟨⟨_, rfl⟩, rfl⟩⟩
  | dic p hp => exact ⟨⟨"dict", by simp only [tyN, hp_get, hp]⟩, (fun _ e => by cases e), fun ys e => by cases e⟩
theorem el_nb {x : A} (h : El j x) : x ≠ .str "b" := by
  rintro rfl
  cases h with
  | str w h => exact (ws_at h).2.2.2.2.1 rfl
theorem cv_good (h : Cv j v) : Good v := by
  intro w xs e
  subst e
  cases h with
  | el _ h => cases h
  | tup _ hl h =>
    have h1 := h (.str w) (by simp)
    refine ⟨?_, fun x hx => el_nb (h x (by simp [hx]))⟩
    cases h1 with
    | str _ h1 => exact (ws_at h1).2.2.2.1
/-! the body of the loop -/
def sB (x v : A) (d : Int) (a b c : Option A) : Sl := [some (.ref 0), some (.ref 3), some x, a, b, some v, some (.int d), c, none]
def mLns (B : List O) : ME := (mBin (fAdd B) (mBin (fRep B) (mLst B (mCons (mTup (mCons (mCon (.str "out")) (mCons (mCon (.int 0)) mNil))) mNil)) (mVar 6)) (mLst B (mCons (mTup (mCons (mCon (.str "jump")) (mCons (mCon (.str "b")) mNil))) (mCons (mVar 5) (mCons (mTup (mCons (mCon (.str "mark")) (mCons (mCon (.str "a")) mNil))) (mCons (mTup (mCons (mCon (.str "mark")) (mCons (mCon (.str "b")) mNil))) (mCons (mTup (mCons (mCon (.str "stop")) mNil)) mNil)))))))
noncomputable def mNo (B : List O) : MS := (mIf (mOr (mTest (mBin (fEq B true) (mGcE B (mTry1 1 (fIx2 "name" "index") (mMakeF B 7 2 f_Program___init__ (mCons (mDisp B [((mCon (.str "main")), (mVar 3))]) mNil)))) (mTup (mCons (mCon (.str "main")) (mCons (mBin (fAdd B) (mVar 6) (mCon (.int 1))) mNil))))) (mTest (mBin (fEq B true) (mCall (fRepr B) (mCons (mVar 3) mNil)) (mVar 4)))) (mRet (mCon (.bl false))) mNext)
noncomputable def mYesA (B : List O) : MS := (mIf (mOr (mTest (mBin (fEq B true) (mCall (fRepr B) (mCons (mProp B 7 f_Program_functions (mVar 7)) mNil)) (mCall (fRepr B) (mCons (mDisp B [((mCon (.str "main")), (mCall (fTupOf B) (mCons (mVar 3) mNil)))]) mNil)))) (mTest (mBin (fEq B true) (mCall (fRepr B) (mCons (mVar 3) mNil)) (mVar 4)))) (mRet (mCon (.bl false))) mNext)
noncomputable def mYesB (B : List O) : MS := (mIf (mOr (mTest (mBin (fEq B true) (mCall (fRepr B) (mCons (mProp B 7 f_Program_size (mVar 7)) mNil)) (mCall (fRepr B) (mCons (mBin (fAdd B) (mBin (fAdd B) (mBin (fAdd B) (mVar 6) (mCon (.int 2))) (mCallF B 1 f__law_size (mCons (mVar 5) mNil))) (mCon (.int 1))) mNil)))) (mTest (mBin (fEq B true) (mSMeth B 7 1 f_Program_size_of_line (mCon (.glo 7)) (mCons (mVar 5) mNil)) (mCallF B 1 f__law_size (mCons (mVar 5) mNil))))) (mRet (mCon (.bl false))) mNext)
noncomputable def mMade (B : List O) : ME := (mMakeF B 7 2 f_Program___init__ (mCons (mDisp B [((mCon (.str "main")), (mCall (fTupOf B) (mCons (mVar 3) mNil)))]) mNil))
noncomputable def mBody (B : List O) : MS := (mSeq (mPar [5, 6] (mCons (mCallF B 1 f__law_candidate (mCons (mVar 1) mNil)) (mCons (mCallF B 2 f__law_draw (mCons (mVar 1) (mCons (mCon (.int 3)) mNil))) mNil))) (mSeq (mAsg (gN 3) (mLns B)) (mSeq (mAsg (gN 4) (mCall (fRepr B) (mCons (mVar 3) mNil))) (mIf (mNot (mTest (mCallF B 1 f__law_is_line (mCons (mVar 5) mNil)))) (mNo B) (mSeq (mAsg (gN 7) (mMade B)) (mSeq (mYesA B) (mYesB B)))))))
noncomputable def mEnd (B : List O) : MS := (mSeq (mAsg (gN 8) (mLst B (mCons (mTup (mCons (mCon (.str "mark")) (mCons (mCon (.str "a")) mNil))) (mCons (mTup (mCons (mCon (.str "out")) (mCons (mCon (.int 0)) mNil))) (mCons (mTup (mCons (mCon (.str "mark")) (mCons (mCon (.str "a")) mNil))) (mCons (mTup (mCons (mCon (.str "stop")) mNil)) mNil)))))) (mRet (mBin (fEq B false) (mGcE B (mTry1 1 (fIx2 "name" "index") (mCMeth B 7 f_Program_of (mCon (.glo 7)) (mCons (mBin (fIx B) (mVar 8) (mCon (.int 0))) (mCons (mBin (fIx B) (mVar 8) (mCon (.int 1))) (mCons (mBin (fIx B) (mVar 8) (mCon (.int 2))) (mCons (mBin (fIx B) (mVar 8) (mCon (.int 3))) mNil))))))) (mTup (mCons (mCon (.str "main")) (mCons (mCon (.int 2)) mNil))))))
theorem law_eq {B : List O} : m_law B = mSeq (mAsg (gN 1) (mCallF B 1 f__law_pen (mCons (mVar 0) mNil))) (mSeq (mForS B (mIRng1 (mCons (mBin (fAdd B) (mCon (.int 20)) (mCall (fI2 fun i j => if j < i then j else i) (mCons (mCon (.int 20)) (mCons (mCall (fLen B) (mCons (mVar 0) mNil)) mNil)))) mNil)) (gN 2) (mScope B [5, 6, 3, 4, 7] (mBody B))) (mEnd B)) := rfl
theorem lns_ok {x : A} {d : Nat} {a b c : Option A} (hd : d < 3) : ∃ p l, mLns (B0 ns) (sB x v d a b c) (hp0 ns k m j) = .ok (.ref (p + 4)) (hp0 ns k m (j ++ l)) ∧ (j ++ l)[p]? = some (.lst (lns d v)) := by
  have z1 : 0 + 1 ≤ sizeLine := by decide
  have z2 : 0 + 1 + 1 ≤ sizeLine := by decide
  have e1 : mLst (B0 ns) (mCons (mTup (mCons (mCon (.str "out")) (mCons (mCon (.int 0)) mNil))) mNil) (sB x v d a b c) (hp0 ns k m j) = .ok (.ref (j.length + 4)) (hp0 ns k m (j ++ [.lst [yO]])) := lst_hpX (by simp only [ev_mCons, ev_mTup, ev_mCon, ev_mNil, bind_ok, List.length_cons, List.length_nil, if_pos z2]; rfl) (by simp)
  have hfl : ∀ d : Nat, (List.replicate d [yO]).flatten = List.replicate d yO := by
    intro d
    induction d with
    | zero => rfl
    | succ d ih => rw [List.replicate_succ, List.flatten_cons, ih]; rfl
  have e2 : fRep (B0 ns) (.ref (j.length + 4)) (.int d) (hp0 ns k m (j ++ [.lst [yO]])) = .ok (.ref ((j ++ [O.lst [yO]]).length + 4)) (hp0 ns k m ((j ++ [.lst [yO]]) ++ [.lst (List.replicate d yO)])) := by
    have hg : (j ++ [O.lst [yO]])[j.length]? = some (.lst [yO]) := by rw [j_new]; rfl
    have hz : (decide (-(2 ^ 63) ≤ (d : Int)) && decide ((d : Int) < 2 ^ 63) && decide ([yO].length * (d : Int).toNat ≤ sizeLine)) = true := by
      have : sizeLine = 16777216 := by decide
      simp only [Bool.and_eq_true, decide_eq_true_eq, List.length_cons, List.length_nil, Int.toNat_natCast, this]
      omega
    simp only [fRep, hp_get, hg]
    rw [if_pos hz, Int.toNat_natCast, hfl, mk_hp]
  let J2 := (j ++ [O.lst [yO]]) ++ [O.lst (List.replicate d yO)]
  have e3 : mLst (B0 ns) (mCons (mTup (mCons (mCon (.str "jump")) (mCons (mCon (.str "b")) mNil))) (mCons (mVar 5) (mCons (mTup (mCons (mCon (.str "mark")) (mCons (mCon (.str "a")) mNil))) (mCons (mTup (mCons (mCon (.str "mark")) (mCons (mCon (.str "b")) mNil))) (mCons (mTup (mCons (mCon (.str "stop")) mNil)) mNil))))) (sB x v d a b c) (hp0 ns k m J2) = .ok (.ref (J2.length + 4)) (hp0 ns k m (J2 ++ [.lst [yJ, v, yA, yB, yS]])) :=
    lst_hpX (by
      have ev : mVar 5 (sB x v d a b c) (hp0 ns k m J2) = .ok v (hp0 ns k m J2) := rfl
      simp only [ev_mCons, ev_mTup, ev_mCon, ev_mNil, bind_ok, List.length_cons, List.length_nil, if_pos z2, if_pos z1, ev]; rfl) (by simp)
  have g1 : (J2 ++ [.lst [yJ, v, yA, yB, yS]])[(j ++ [O.lst [yO]]).length]? = some (.lst (List.replicate d yO)) := by
    have : J2 ++ [.lst [yJ, v, yA, yB, yS]] = (j ++ [O.lst [yO]]) ++ ([O.lst (List.replicate d yO)] ++ [.lst [yJ, v, yA, yB, yS]]) := by simp only [J2, List.append_assoc]
    rw [this, j_new]; rfl
  have g2 : (J2 ++ [.lst [yJ, v, yA, yB, yS]])[J2.length]? = some (.lst [yJ, v, yA, yB, yS]) := by rw [j_new]; rfl
  have e4 := add_hp (ns := ns) (k := k) (m := m) g1 g2 (by simp; omega)
  refine ⟨(J2 ++ [O.lst [yJ, v, yA, yB, yS]]).length, [O.lst [yO]] ++ ([O.lst (List.replicate d yO)] ++ ([O.lst [yJ, v, yA, yB, yS]] ++ [O.lst (List.replicate d yO ++ [yJ, v, yA, yB, yS])])), ?_, ?_⟩
  · have ev : ∀ T, mVar 6 (sB x v d a b c) T = .ok (.int d) T := fun _ => rfl
    unfold mLns
    rw [ev_mBin, ev_mBin, e1, bind_ok, ev, bind_ok, e2, bind_ok, e3, bind_ok, e4]
    simp only [J2, List.append_assoc]
  · have : j ++ ([O.lst [yO]] ++ ([O.lst (List.replicate d yO)] ++ ([O.lst [yJ, v, yA, yB, yS]] ++ [O.lst (List.replicate d yO ++ [yJ, v, yA, yB, yS])]))) = (J2 ++ [O.lst [yJ, v, yA, yB, yS]]) ++ [O.lst (List.replicate d yO ++ [yJ, v, yA, yB, yS])] := by simp only [J2, List.append_assoc]
    rw [this, j_new]; rfl
end
end K01
end
section
set_option Elab.async false
set_option linter.all false
set_option maxRecDepth 100000
set_option maxHeartbeats 1000000
namespace K01
open PySem PySem.Spec PyProof.Rows L2 Ev
section
variable {B T : List O} {ns : List Int} {k m : Int} {j l : List O} {v : A} {s : Sl}
theorem ne_str {x : Str} (h : PyData.strOk x = true) : fEq B true (.str x) (.str x) T = .ok (.bl false) T := by
  rw [eq_str h h]; simp
theorem ne_int {i : Int} : fEq B true (.int i) (.int i) T = .ok (.bl false) T := by
  rw [Ev.eq_int]; simp
theorem ne_pair {d : Nat} (hd : d < 3) : fEq B true (.tup [.str "main", .int ((d : Int) + 1)]) (.tup [.str "main", .int ((d : Int) + 1)]) T = .ok (.bl false) T := by
  match d, hd with
  | 0, _ => kernel_rfl
  | 1, _ => kernel_rfl
  | 2, _ => kernel_rfl
theorem disp_main {X : A} {me : ME} (h : me s T = .ok X T) : mDisp B [((mCon (.str "main")), me)] s T = .ok (.ref (B.length + T.length)) (T ++ [.dic (kvM X)]) := by
  have e : mPairs [((mCon (.str "main")), me)] s T = .ok [((Sum.inr "main" : Key), X)] T := by
    simp only [mPairs, ev_mCon, bind_ok, h]
    rfl
  have e2 : mergeA [] [((Sum.inr "main" : Key), X)] = kvM X := by kernel_rfl
  unfold mDisp
  rw [e, bind_ok, if_pos (show [((Sum.inr "main" : Key), X)].length ≤ 15 from by simp), e2, ev_mkO]
/-- the try around a program that is refused -/
theorem try_exc {d : Nat} {X : A} {me : ME} (hme : me s T = .ok X T) (hX : Lns (B ++ T) d v X) (hd : d < 3) (c : Cand (B ++ T) v) (g : Good v) (h : lawLine v = false) :
    mGcE B (mTry1 1 (fIx2 "name" "index") (mMakeF B 7 2 f_Program___init__ (mCons (mDisp B [((mCon (.str "main")), me)]) mNil))) s T = .ok (.tup [.str "main", .int ((d : Int) + 1)]) T := by
  obtain ⟨T', e⟩ := init_exc hX hd c g h
  have e1 := disp_main (B := B) hme
  have em : mMakeF B 7 2 f_Program___init__ (mCons (mDisp B [((mCon (.str "main")), me)]) mNil) s T = .exc 1 (xI ((d : Int) + 1)) (T ++ T') := by
    unfold mMakeF
    rw [ev_mCons, e1, bind_ok, ev_mNil, bind_ok, bind_ok, if_pos (show [A.ref (B.length + T.length)].length + 1 = 2 from rfl)]
    have z1 : B.length + (T ++ [O.dic (kvM X)]).length = B.length + (T.length + 1) := by simp
    have z2 : (T ++ [O.dic (kvM X)]) ++ [O.ins 7 []] = T ++ [O.dic (kvM X), .ins 7 []] := by simp
    rw [z1, z2, e]
    rfl
  have et : mTry1 1 (fIx2 "name" "index") (mMakeF B 7 2 f_Program___init__ (mCons (mDisp B [((mCon (.str "main")), me)]) mNil)) s T = .ok (.tup [.str "main", .int ((d : Int) + 1)]) (T ++ T') := by
    unfold mTry1
    rw [em]
    simp only [if_true]
    have l1 : (xI ((d : Int) + 1)).lookup ("name" : Str) = some (A.str "main") := by kernel_rfl
    have l2 : (xI ((d : Int) + 1)).lookup ("index" : Str) = some (A.int ((d : Int) + 1)) := by kernel_rfl
    simp only [fIx2, l1, l2]
  unfold mGcE
  rw [et]
  exact cutR_same rfl (by simp)
theorem no_ok {x : A} {d p : Nat} {t : Str} (hd : d < 3) (c : Cv j v) (hp : (j ++ l)[p]? = some (.lst (lns d v))) (h : lawLine v = false) (hs : PyData.strOk t = true) (hr : fRepr (B0 ns) [.ref (p + 4)] (hp0 ns k m (j ++ l)) = .ok (.str t) (hp0 ns k m (j ++ l))) :
    mNo (B0 ns) (sB x v d (some (.ref (p + 4))) (some (.str t)) none) (hp0 ns k m (j ++ l)) = .ok (.nx (sB x v d (some (.ref (p + 4))) (some (.str t)) none)) (hp0 ns k m (j ++ l)) := by
  have e1 := try_exc (B := B0 ns) (T := hp0 ns k m (j ++ l)) (s := sB x v d (some (.ref (p + 4))) (some (.str t)) none) (X := .ref (p + 4)) (me := mVar 3) rfl (.inr ⟨p + 4, rfl, hp⟩) hd (cv_cand c.old) (cv_good c) h
  have e2 := ne_pair (B := B0 ns) (T := hp0 ns k m (j ++ l)) hd
  have e3 := ne_str (B := B0 ns) (T := hp0 ns k m (j ++ l)) hs
  have z2 : 0 + 1 + 1 ≤ sizeLine := by decide
  have v3 : ∀ T, mVar 3 (sB x v d (some (.ref (p + 4))) (some (.str t)) none) T = .ok (.ref (p + 4)) T := fun _ => rfl
  have v4 : ∀ T, mVar 4 (sB x v d (some (.ref (p + 4))) (some (.str t)) none) T = .ok (.str t) T := fun _ => rfl
  have v6 : ∀ T, mVar 6 (sB x v d (some (.ref (p + 4))) (some (.str t)) none) T = .ok (.int d) T := fun _ => rfl
  unfold mNo
  rw [ev_mIf, ev_mOr, ev_mTest, ev_mBin, e1]
  simp only [bind_ok, ev_mTup, ev_mCons, ev_mCon, ev_mNil, ev_mBin, v6, ev_fAddI, List.length_cons, List.length_nil, if_pos z2, e2, ev_asB, cond_false, ev_mTest, ev_mCall, v3, hr, v4, e3, ev_mNext]
theorem made_ok {x : A} {d p : Nat} {a b : Option A} (hd : d < 3) (c : Cv j v) (hp : (j ++ l)[p]? = some (.lst (lns d v))) (s : Sh v) (hl : lineB v = true) : ∃ S n1 l1, mMade (B0 ns) (sB x v d (some (.ref (p + 4))) a b) (hp0 ns k m (j ++ l)) = .ok (.ref (S + 4)) (hp0 ns k m ((j ++ l) ++ l1)) ∧
    ((j ++ l) ++ l1)[S]? = some (.ins 7 [("own_functions", .ref (n1 + 4))]) ∧ ((j ++ l) ++ l1)[n1]? = some (.fz (fzD d v)) := by
  obtain ⟨j1, n1, hn, hg, e⟩ := init_ok (B := B0 ns) (t := hp0 ns k m (j ++ l)) (X := .tup (lns d v)) (.inl rfl) hd (cv_cand c.old) s hl
  have v3 : ∀ T, mVar 3 (sB x v d (some (.ref (p + 4))) a b) T = .ok (.ref (p + 4)) T := fun _ => rfl
  have e1 := disp_main (B := B0 ns) (T := hp0 ns k m (j ++ l)) (s := sB x v d (some (.ref (p + 4))) a b) (X := .tup (lns d v)) (me := mCall (fTupOf (B0 ns)) (mCons (mVar 3) mNil)) (by
    rw [ev_mCall, ev_mCons, v3, bind_ok, ev_mNil, bind_ok, bind_ok, tup_hp hp])
  have hlen : (B0 ns).length + ((hp0 ns k m (j ++ l)).length + 1) = ((j ++ l).length + 1) + 4 := by
    have := hp_len (ns := ns) (k := k) (m := m) (j := j ++ l)
    omega
  have hn4 : ∃ n2, n1 = n2 + 4 := by
    have := hp_len (ns := ns) (k := k) (m := m) (j := j ++ l)
    exact ⟨n1 - 4, by omega⟩
  obtain ⟨n2, rfl⟩ := hn4
  refine ⟨(j ++ l).length + 1, n2, [O.fz (kvM (.tup (lns d v))), .ins 7 [("own_functions", .ref (n2 + 4))]] ++ j1, ?_, ?_, ?_⟩
  · unfold mMade mMakeF
    rw [ev_mCons, e1, bind_ok, ev_mNil, bind_ok, bind_ok, if_pos (show [A.ref ((B0 ns).length + (hp0 ns k m (j ++ l)).length)].length + 1 = 2 from rfl)]
    have z1 : (B0 ns).length + (hp0 ns k m (j ++ l) ++ [O.dic (kvM (.tup (lns d v)))]).length = (B0 ns).length + ((hp0 ns k m (j ++ l)).length + 1) := by simp
    have z2 : (hp0 ns k m (j ++ l) ++ [O.dic (kvM (.tup (lns d v)))]) ++ [O.ins 7 []] = hp0 ns k m (j ++ l) ++ [O.dic (kvM (.tup (lns d v))), .ins 7 []] := by simp
    rw [z1, z2, e, bind_ok, hlen, hp_app]
  · rw [List.getElem?_append_right (by omega), Nat.add_sub_cancel_left]; rfl
  · exact hg
end
end K01
end
section
set_option Elab.async false
set_option linter.all false
set_option maxRecDepth 100000
set_option maxHeartbeats 1000000
namespace K01
open PySem PySem.Spec PyProof.Rows L2 Ev
section
variable {B T : List O} {ns : List Int} {k m : Int} {j l : List O} {v : A}
theorem prop_hp {S n : Nat} {mf : MF} {mo : ME} {s : Sl} {fs : List (Str × A)} {r : A} {T' : List O} (ho : mo s (hp0 ns k m j) = .ok (.ref (S + 4)) (hp0 ns k m j)) (hS : j[S]? = some (.ins 7 fs)) (hf : mf (B0 ns) [.ref (S + 4)] (hp0 ns k m j) = .ok r T') : mProp (B0 ns) 7 mf mo s (hp0 ns k m j) = .ok r T' := by
  unfold mProp
  rw [ho, bind_ok]
  simp only [hp_get, hS, if_true, hf, noX_ok]
theorem yesA_ok {x : A} {d p S n1 : Nat} {t y : Str} (hd : d < 3) (hp : (j ++ l)[p]? = some (.lst (lns d v))) (hS : (j ++ l)[S]? = some (.ins 7 [("own_functions", .ref (n1 + 4))])) (hn : (j ++ l)[n1]? = some (.fz (fzD d v))) (hs : PyData.strOk t = true) (hy : PyData.strOk y = true)
    (r1 : ∀ k m l p, (j ++ l)[p]? = some (.lst (lns d v)) → fRepr (B0 ns) [.ref (p + 4)] (hp0 ns k m (j ++ l)) = .ok (.str t) (hp0 ns k m (j ++ l))) (r2 : ∀ k m l p, (j ++ l)[p]? = some (.dic (fzD d v)) → fRepr (B0 ns) [.ref (p + 4)] (hp0 ns k m (j ++ l)) = .ok (.str y) (hp0 ns k m (j ++ l))) :
    ∃ l2, mYesA (B0 ns) (sB x v d (some (.ref (p + 4))) (some (.str t)) (some (.ref (S + 4)))) (hp0 ns k m (j ++ l)) = .ok (.nx (sB x v d (some (.ref (p + 4))) (some (.str t)) (some (.ref (S + 4))))) (hp0 ns k m (j ++ (l ++ l2))) := by
  let s := sB x v d (some (.ref (p + 4))) (some (.str t)) (some (.ref (S + 4)))
  have v3 : ∀ T, mVar 3 s T = .ok (.ref (p + 4)) T := fun _ => rfl
  have v4 : ∀ T, mVar 4 s T = .ok (.str t) T := fun _ => rfl
  have v7 : ∀ T, mVar 7 s T = .ok (.ref (S + 4)) T := fun _ => rfl
  have e1 := pfun_ok (B := B0 ns) (T := hp0 ns k m (j ++ l)) (S := S + 4) (n := n1 + 4) (d := d) (v := v) hS hn
  rw [hp_len, hp_app, List.append_assoc] at e1
  have e2 := prop_hp (S := S) (n := n1) (mo := mVar 7) (s := s) (v7 _) hS e1
  have q1 : (j ++ (l ++ [.dic (fzD d v)]))[(j ++ l).length]? = some (.dic (fzD d v)) := by rw [← List.append_assoc, j_new]; rfl
  have e3 := r2 k m (l ++ [.dic (fzD d v)]) (j ++ l).length q1
  let l1 := l ++ [O.dic (fzD d v)]
  have hp1 : (j ++ l1)[p]? = some (.lst (lns d v)) := by
    show (j ++ (l ++ _))[p]? = _
    rw [← List.append_assoc]; exact j_old hp
  have e4 := disp_main (B := B0 ns) (T := hp0 ns k m (j ++ l1)) (s := s) (X := .tup (lns d v)) (me := mCall (fTupOf (B0 ns)) (mCons (mVar 3) mNil)) (by
    rw [ev_mCall, ev_mCons, v3, bind_ok, ev_mNil, bind_ok, bind_ok, tup_hp hp1])
  rw [hp_len, hp_app, List.append_assoc] at e4
  have q2 : (j ++ (l1 ++ [O.dic (kvM (.tup (lns d v)))]))[(j ++ l1).length]? = some (.dic (fzD d v)) := by rw [← List.append_assoc, j_new]; rfl
  have e5 := r2 k m (l1 ++ [O.dic (kvM (.tup (lns d v)))]) (j ++ l1).length q2
  have hp2 : (j ++ (l1 ++ [O.dic (kvM (.tup (lns d v)))]))[p]? = some (.lst (lns d v)) := by rw [← List.append_assoc]; exact j_old hp1
  have e6 := r1 k m (l1 ++ [O.dic (kvM (.tup (lns d v)))]) p hp2
  have e7 := ne_str (B := B0 ns) (T := hp0 ns k m (j ++ (l1 ++ [O.dic (kvM (.tup (lns d v)))]))) hy
  have e8 := ne_str (B := B0 ns) (T := hp0 ns k m (j ++ (l1 ++ [O.dic (kvM (.tup (lns d v)))]))) hs
  refine ⟨[O.dic (fzD d v)] ++ [O.dic (kvM (.tup (lns d v)))], ?_⟩
  rw [← List.append_assoc l]
  show mYesA (B0 ns) s _ = .ok (.nx s) _
  unfold mYesA
  rw [ev_mIf, ev_mOr, ev_mTest, ev_mBin, ev_mCall, ev_mCons, e2]
  simp only [bind_ok, ev_mNil, e3, ev_mCall, ev_mCons]
  rw [e4]
  simp only [bind_ok, e5, e7, ev_asB, cond_false, ev_mTest, ev_mBin, ev_mCall, ev_mCons, ev_mNil, v3, e6, v4, e8, ev_mNext]
  rfl
theorem yesB_ok {x : A} {d S n1 : Nat} {a b : Option A} (hd : d < 3) (sh : Sh v) (hS : j[S]? = some (.ins 7 [("own_functions", .ref (n1 + 4))])) (hn : j[n1]? = some (.fz (fzD d v))) :
    mYesB (B0 ns) (sB x v d a b (some (.ref (S + 4)))) (hp0 ns k m j) = .ok (.nx (sB x v d a b (some (.ref (S + 4))))) (hp0 ns k m j) := by
  obtain ⟨z, ⟨z0, z3⟩, h1, h2⟩ := size_sh sh
  let s := sB x v d a b (some (.ref (S + 4)))
  have v5 : ∀ T, mVar 5 s T = .ok v T := fun _ => rfl
  have v6 : ∀ T, mVar 6 s T = .ok (.int d) T := fun _ => rfl
  have v7 : ∀ T, mVar 7 s T = .ok (.ref (S + 4)) T := fun _ => rfl
  have e1 := psize_ok (B := B0 ns) (T := hp0 ns k m j) (S := S + 4) (n := n1 + 4) (d := d) (v := v) hd h1 (by show 1 ≤ _; omega) hS hn
  have e2 := prop_hp (S := S) (n := n1) (mo := mVar 7) (s := s) (v7 _) hS e1
  obtain ⟨t, ht, e3⟩ := repr_int (B := B0 ns) (T := hp0 ns k m j) (i := (d : Int) + 2 + z + 1) (by omega) (by omega)
  have e4 := ne_str (B := B0 ns) (T := hp0 ns k m j) ht
  have e5 : f_Program_size_of_line (B0 ns) [v] (hp0 ns k m j) = .ok (.int z) (hp0 ns k m j) := by
    refine gc_ok0 ?_ rfl
    have h1' := h1 (B0 ns) (hp0 ns k m j)
    simp [m_Program_size_of_line, h1']
  have e6 := h2 (B0 ns) (hp0 ns k m j)
  have e7 := ne_int (B := B0 ns) (T := hp0 ns k m j) (i := z)
  have g7 : isGlo 7 (.glo 7) = true := rfl
  show mYesB (B0 ns) s _ = .ok (.nx s) _
  unfold mYesB
  rw [ev_mIf, ev_mOr, ev_mTest, ev_mBin, ev_mCall, ev_mCons, e2]
  simp only [bind_ok, ev_mNil, e3, ev_mCall, ev_mCons, ev_mBin, v6, ev_mCon, ev_fAddI, ev_mCallF, v5, List.length_cons, List.length_nil, if_true, e6, e4, ev_asB, cond_false, ev_mTest, mSMeth, g7, e5, e7, ev_mNext]
/-- the body -/
theorem body_ok {x : A} (hk : 0 ≤ k) (hk2 : k < 999998000) : ∃ k' m' J s', mBody (B0 ns) [some (.ref 0), some (.ref 3), some x, none, none, none, none, none, none] (hp0 ns k m []) = .ok (.nx s') (hp0 ns k' m' J) ∧ 0 ≤ k' ∧ k' ≤ k + 11 ∧ kill [5, 6, 3, 4, 7] s' = [some (.ref 0), some (.ref 3), some x, none, none, none, none, none, none] := by
  obtain ⟨v, k1, m1, j1, e1, h0, h1, hv⟩ := (cand_go (ns := ns) (m := m) hk (by omega)).ok
  obtain ⟨b, k2, m2, j2, e2, g0, g1, r, rfl, r0, r1⟩ := (draw_go (ns := ns) (m := m1) (j := [] ++ j1) (many := 3) h0 (by omega) (by decide) (by decide)).ok
  obtain ⟨d, rfl⟩ : ∃ d : Nat, r = (d : Int) := ⟨r.toNat, by omega⟩
  have hd : d < 3 := by omega
  have hv2 : Cv (([] ++ j1) ++ j2) v := hv.old
  generalize ([] ++ j1) ++ j2 = j at *
  let s0 : Sl := [some (.ref 0), some (.ref 3), some x, none, none, none, none, none, none]
  have ep : mPar [5, 6] (mCons (mCallF (B0 ns) 1 f__law_candidate (mCons (mVar 1) mNil)) (mCons (mCallF (B0 ns) 2 f__law_draw (mCons (mVar 1) (mCons (mCon (.int 3)) mNil))) mNil)) s0 (hp0 ns k m []) = .ok (.nx (sB x v d none none none)) (hp0 ns k2 m2 j) := by
    have v1 : ∀ T, mVar 1 s0 T = .ok (.ref 3) T := fun _ => rfl
    rw [ev_mPar, ev_mCons, ev_mCallF, ev_mCons, v1, bind_ok, ev_mNil, bind_ok, bind_ok, if_pos (show [A.ref 3].length = 1 from rfl), e1, bind_ok, ev_mCons, ev_mCallF, ev_mCons, v1, bind_ok, ev_mCons, ev_mCon, bind_ok, ev_mNil, bind_ok, bind_ok, bind_ok, if_pos (show [A.ref 3, A.int 3].length = 2 from rfl), e2, bind_ok, ev_mNil, bind_ok, bind_ok, bind_ok]
    rfl
  obtain ⟨p, l, e3, hp⟩ := lns_ok (ns := ns) (k := k2) (m := m2) (j := j) (v := v) (x := x) (a := none) (b := none) (c := none) hd
  obtain ⟨t, y, ht, hy, q1, q2⟩ := repr_lines (ns := ns) hv2 hd
  have e4 := q1 k2 m2 l p hp
  have e5 := law_is_line_ok (cv_cand (ns := ns) (k := k2) (m := m2) (hv2.old (l := l)))
  have pre : mBody (B0 ns) s0 (hp0 ns k m []) = mIf (mNot (mTest (mCallF (B0 ns) 1 f__law_is_line (mCons (mVar 5) mNil)))) (mNo (B0 ns)) (mSeq (mAsg (gN 7) (mMade (B0 ns))) (mSeq (mYesA (B0 ns)) (mYesB (B0 ns)))) (sB x v d (some (.ref (p + 4))) (some (.str t)) none) (hp0 ns k2 m2 (j ++ l)) := by
    unfold mBody
    rw [ev_mSeq, ep, bind_ok, ev_then_nx, ev_mSeq, ev_mAsg, e3, bind_ok, ev_gN, bind_ok, bind_ok, ev_then_nx, ev_mSeq, ev_mAsg, ev_mCall, ev_mCons]
    have w3 : ∀ T, mVar 3 ((sB x v d none none none).set 3 (some (.ref (p + 4)))) T = .ok (.ref (p + 4)) T := fun _ => rfl
    rw [w3, bind_ok, ev_mNil, bind_ok, bind_ok, e4, bind_ok, ev_gN, bind_ok, bind_ok, ev_then_nx]
    rfl
  have v5 : ∀ T, mVar 5 (sB x v d (some (.ref (p + 4))) (some (.str t)) none) T = .ok v T := fun _ => rfl
  have pre2 : mNot (mTest (mCallF (B0 ns) 1 f__law_is_line (mCons (mVar 5) mNil))) (sB x v d (some (.ref (p + 4))) (some (.str t)) none) (hp0 ns k2 m2 (j ++ l)) = .ok (!lawLine v) (hp0 ns k2 m2 (j ++ l)) := by
    rw [ev_mNot, ev_mTest, ev_mCallF, ev_mCons, v5, bind_ok, ev_mNil, bind_ok, bind_ok, if_pos (show [v].length = 1 from rfl), e5, bind_ok, ev_asB, bind_ok]
  show ∃ k' m' J s', mBody (B0 ns) s0 (hp0 ns k m []) = _ ∧ _
  rw [pre, ev_mIf, pre2, bind_ok]
  cases hl : lawLine v with
  | false =>
    have e6 := no_ok (ns := ns) (k := k2) (m := m2) (l := l) (x := x) hd hv2 hp hl ht e4
    exact ⟨k2, m2, j ++ l, _, e6, g0, by omega, rfl⟩
  | true =>
    obtain ⟨sh, hlb⟩ := law_sh (cv_good hv2) hl
    obtain ⟨S, n1, l1, e6, hS, hn⟩ := made_ok (ns := ns) (k := k2) (m := m2) (l := l) (x := x) (a := some (.str t)) (b := none) hd hv2 hp sh hlb
    have hp1 : (j ++ (l ++ l1))[p]? = some (.lst (lns d v)) := by rw [← List.append_assoc]; exact j_old hp
    obtain ⟨l2, e7⟩ := yesA_ok (ns := ns) (k := k2) (m := m2) (j := j) (l := l ++ l1) (x := x) (S := S) (n1 := n1) (t := t) (y := y) hd hp1 (by rw [← List.append_assoc]; exact hS) (by rw [← List.append_assoc]; exact hn) ht hy q1 q2
    have e8 := yesB_ok (ns := ns) (k := k2) (m := m2) (j := j ++ ((l ++ l1) ++ l2)) (x := x) (d := d) (S := S) (n1 := n1) (a := some (.ref (p + 4))) (b := some (.str t)) hd sh (by have := j_old (l := l2) hS; simpa only [List.append_assoc] using this) (by have := j_old (l := l2) hn; simpa only [List.append_assoc] using this)
    refine ⟨k2, m2, j ++ ((l ++ l1) ++ l2), sB x v d (some (.ref (p + 4))) (some (.str t)) (some (.ref (S + 4))), ?_, g0, by omega, rfl⟩
    show mSeq (mAsg (gN 7) (mMade (B0 ns))) (mSeq (mYesA (B0 ns)) (mYesB (B0 ns))) (sB x v d (some (.ref (p + 4))) (some (.str t)) none) (hp0 ns k2 m2 (j ++ l)) = _
    rw [ev_mSeq, ev_mAsg, e6, bind_ok, ev_gN, bind_ok, bind_ok, ev_then_nx]
    show mSeq (mYesA (B0 ns)) (mYesB (B0 ns)) (sB x v d (some (.ref (p + 4))) (some (.str t)) (some (.ref (S + 4)))) _ = _
    rw [List.append_assoc, ev_mSeq, e7, bind_ok, ev_then_nx, e8]
end
end K01
end
section
set_option Elab.async false
set_option linter.all false
set_option maxRecDepth 100000
set_option maxHeartbeats 1000000
namespace K01
open PySem PySem.Spec PyProof.Rows L2 Ev
section
variable {ns : List Int} {k m : Int}
def s9 (x : Option A) : Sl := [some (.ref 0), some (.ref 3), x, none, none, none, none, none, none]
theorem refs_ints : ∀ (ns : List Int), refsAs (ns.map A.int) = []
  | [] => rfl
  | n :: ns => by
    rw [List.map_cons]
    show refsA (.int n) ++ refsAs (ns.map A.int) = []
    rw [refs_ints ns]; rfl
theorem scope_ok {x : A} {k' m' : Int} {J : List O} {s' : Sl} (e : mBody (B0 ns) (s9 (some x)) (hp0 ns k m []) = .ok (.nx s') (hp0 ns k' m' J)) (hs : kill [5, 6, 3, 4, 7] s' = s9 (some x)) (hx : below 4 x = true) : mScope (B0 ns) [5, 6, 3, 4, 7] (mBody (B0 ns)) (s9 (some x)) (hp0 ns k m []) = .ok (.nx (s9 (some x))) (hp0 ns k' m' []) := by
  unfold mScope
  rw [e, bind_ok]
  have hk : killFl [5, 6, 3, 4, 7] (.nx s') = .nx (s9 (some x)) := by
    show Fl.nx (kill [5, 6, 3, 4, 7] s') = _
    rw [hs]
  rw [hk]
  unfold cutR
  have ht : (hp0 ns k' m' J).take (hp0 ns k m []).length = hp0 ns k' m' [] := hp_take (j := []) (j' := J)
  have hl : (B0 ns).length + (hp0 ns k m []).length = 4 := rfl
  simp only [ht, hl]
  have c1 : okFl 4 (.nx (s9 (some x))) = true := by
    show belowS 4 (s9 (some x)) = true
    unfold belowS s9
    simp only [List.all_cons, List.all_nil, belowN, hx, Bool.and_true]
    rfl
  have c2 : (B0 ns ++ hp0 ns k' m' []).all (belowO 4) = true := by
    have b1 : belowO 4 (.ro (ns.map A.int)) = true := by
      unfold belowO
      show (refsAs (ns.map A.int)).all _ = true
      rw [refs_ints]; rfl
    have b2 : belowO 4 (.lst (ns.map A.int)) = true := by
      unfold belowO
      show (refsAs (ns.map A.int)).all _ = true
      rw [refs_ints]; rfl
    have b3 : belowO 4 (penD 2 k' m') = true := rfl
    show (belowO 4 (.ro (ns.map A.int)) && (belowO 4 (.lst (ns.map A.int)) && (belowO 4 (.lst (ns.map A.int)) && (belowO 4 (penD 2 k' m') && true)))) = true
    rw [b1, b2, b3]; rfl
  rw [c1, c2]
  rfl
theorem loop_ok {ys : List A} (hy : ∀ y ∈ ys, below 4 y = true) : ∀ (us zs : List A) (k m : Int) (x : Option A), ys = zs ++ us → 0 ≤ k → k + 11 * us.length < 999990000 → ∃ k' m' x', mFor (B0 ns) (itL ys) (gN 2) (mScope (B0 ns) [5, 6, 3, 4, 7] (mBody (B0 ns))) us.length (s9 x) (hp0 ns k m []) = .ok (.nx (s9 x')) (hp0 ns k' m' [])
  | [], zs, k, m, x, e, hk, hk2 => ⟨k, m, x, rfl⟩
  | u :: us, zs, k, m, x, e, hk, hk2 => by
    have hl : (u :: us).length = us.length + 1 := rfl
    rw [hl] at hk2
    obtain ⟨k1, m1, J, s', e1, h0, h1, hs⟩ := body_ok (ns := ns) (m := m) (x := u) hk (by omega)
    have e2 := scope_ok (x := u) e1 hs (hy u (by rw [e]; simp))
    obtain ⟨k2, m2, x2, e3⟩ := loop_ok hy us (zs ++ [u]) k1 m1 (some u) (by rw [e]; simp) h0 (by omega)
    refine ⟨k2, m2, x2, ?_⟩
    rw [hl, for_cons e]
    have eg : gN 2 u (s9 x) (hp0 ns k m []) = .ok (s9 (some u)) (hp0 ns k m []) := rfl
    rw [eg, bind_ok, e2, bind_ok]
    exact e3
theorem of_exc {s : Sl} {ma : MA} {t : List O} (h : ma s t = .ok lsE t) : ∃ T', mCMeth (B0 ns) 7 f_Program_of (mCon (.glo 7)) ma s t = .exc 1 (xI 2) (t ++ T') := by
  obtain ⟨T', e⟩ := initE (B := B0 ns) (t := t)
  have g7 : isGlo 7 (.glo 7) = true := rfl
  have z4 : lsE.length ≤ sizeLine := by show 4 ≤ sizeLine; decide
  have e1 := disp_main (B := B0 ns) (T := t) (s := [some (.glo 7), some (.tup lsE), none]) (X := .tup lsE) (me := mVar 1) rfl
  refine ⟨T', ?_⟩
  have st : startA 3 [A.glo 7, .tup lsE] = [some (.glo 7), some (.tup lsE), none] := rfl
  have er : runF 3 m_Program_of (B0 ns) [.glo 7, .tup lsE] t = .exc 1 (xI 2) (t ++ T') := by
    rw [ev_runF, st]
    unfold m_Program_of
    rw [ev_mSeq, ev_mAsg, e1, bind_ok, ev_gN, bind_ok, bind_ok, ev_then_nx, ev_mRet]
    have em : mMakeL (B0 ns) 0 7 2 f_Program___init__ (mCons (mVar 2) mNil) ([some (.glo 7), some (.tup lsE), none].set 2 (some (.ref ((B0 ns).length + t.length)))) (t ++ [O.dic (kvM (.tup lsE))]) = .exc 1 (xI 2) (t ++ T') := by
      show mMakeF (B0 ns) 7 2 f_Program___init__ (mCons (mVar 2) mNil) [some (.glo 7), some (.tup lsE), some (.ref ((B0 ns).length + t.length))] (t ++ [O.dic (kvM (.tup lsE))]) = _
      unfold mMakeF
      have v2 : ∀ T, mVar 2 [some (.glo 7), some (.tup lsE), some (.ref ((B0 ns).length + t.length))] T = .ok (.ref ((B0 ns).length + t.length)) T := fun _ => rfl
      rw [ev_mCons, v2, bind_ok, ev_mNil, bind_ok, bind_ok, if_pos (show [A.ref ((B0 ns).length + t.length)].length + 1 = 2 from rfl)]
      have z1 : (B0 ns).length + (t ++ [O.dic (kvM (.tup lsE))]).length = (B0 ns).length + (t.length + 1) := by simp
      have z2 : (t ++ [O.dic (kvM (.tup lsE))]) ++ [O.ins 7 []] = t ++ [O.dic (kvM (.tup lsE)), .ins 7 []] := by simp
      rw [z1, z2, e]
      rfl
    rw [em]
    rfl
  unfold mCMeth
  rw [ev_mCon, bind_ok, if_pos g7, h, bind_ok, if_pos z4]
  exact er
theorem end_true {x : Option A} : ∃ t, mEnd (B0 ns) (s9 x) (hp0 ns k m []) = .ok (.rt (.bl true)) t := by
  have z1 : 0 + 1 ≤ sizeLine := by decide
  have z2 : 0 + 1 + 1 ≤ sizeLine := by decide
  have e1 : mLst (B0 ns) (mCons (mTup (mCons (mCon (.str "mark")) (mCons (mCon (.str "a")) mNil))) (mCons (mTup (mCons (mCon (.str "out")) (mCons (mCon (.int 0)) mNil))) (mCons (mTup (mCons (mCon (.str "mark")) (mCons (mCon (.str "a")) mNil))) (mCons (mTup (mCons (mCon (.str "stop")) mNil)) mNil)))) (s9 x) (hp0 ns k m []) = .ok (.ref (([] : List O).length + 4)) (hp0 ns k m ([] ++ [.lst lsE])) := lst_hpX (by
    simp only [ev_mCons, ev_mTup, ev_mCon, ev_mNil, bind_ok, List.length_cons, List.length_nil, if_pos z2, if_pos z1]; rfl) (by decide)
  let s : Sl := (s9 x).set 8 (some (.ref (([] : List O).length + 4)))
  let T := hp0 ns k m ([] ++ [.lst lsE])
  have ix : ∀ (i : Int) (y : A), atI lsE i = some y → mBin (fIx (B0 ns)) (mVar 8) (mCon (.int i)) s T = .ok y T := by
    intro i y hy
    have v8 : mVar 8 s T = .ok (.ref (0 + 4)) T := rfl
    have e1 : seqOf (B0 ns ++ T) (.ref (0 + 4)) = some lsE := rfl
    rw [ev_mBin, v8, bind_ok, ev_mCon, bind_ok]
    simp only [fIx, e1, hy]
  have ea : mCons (mBin (fIx (B0 ns)) (mVar 8) (mCon (.int 0))) (mCons (mBin (fIx (B0 ns)) (mVar 8) (mCon (.int 1))) (mCons (mBin (fIx (B0 ns)) (mVar 8) (mCon (.int 2))) (mCons (mBin (fIx (B0 ns)) (mVar 8) (mCon (.int 3))) mNil))) s T = .ok lsE T := by
    rw [ev_mCons, ix 0 yA (by kernel_rfl), bind_ok, ev_mCons, ix 1 yO (by kernel_rfl), bind_ok, ev_mCons, ix 2 yA (by kernel_rfl), bind_ok, ev_mCons, ix 3 yS (by kernel_rfl), bind_ok]
    rfl
  obtain ⟨T', eo⟩ := of_exc (ns := ns) ea
  have et : mGcE (B0 ns) (mTry1 1 (fIx2 "name" "index") (mCMeth (B0 ns) 7 f_Program_of (mCon (.glo 7)) (mCons (mBin (fIx (B0 ns)) (mVar 8) (mCon (.int 0))) (mCons (mBin (fIx (B0 ns)) (mVar 8) (mCon (.int 1))) (mCons (mBin (fIx (B0 ns)) (mVar 8) (mCon (.int 2))) (mCons (mBin (fIx (B0 ns)) (mVar 8) (mCon (.int 3))) mNil)))))) s T = .ok (.tup [.str "main", .int 2]) T := by
    unfold mGcE mTry1
    rw [eo]
    simp only [if_true]
    have l1 : (xI 2).lookup ("name" : Str) = some (A.str "main") := by kernel_rfl
    have l2 : (xI 2).lookup ("index" : Str) = some (A.int 2) := by kernel_rfl
    simp only [fIx2, l1, l2]
    exact cutR_same rfl (by simp)
  have eq : fEq (B0 ns) false (.tup [.str "main", .int 2]) (.tup [.str "main", .int 2]) T = .ok (.bl true) T := by kernel_rfl
  refine ⟨T, ?_⟩
  unfold mEnd
  rw [ev_mSeq, ev_mAsg, e1, bind_ok, ev_gN, bind_ok, bind_ok, ev_then_nx, ev_mRet, ev_mBin]
  show ((mGcE (B0 ns) _ s T).bind _).bind _ = _
  rw [et, bind_ok]
  simp only [ev_mTup, ev_mCons, ev_mCon, ev_mNil, bind_ok, List.length_cons, List.length_nil, if_pos z2]
  rw [eq]
  rfl
theorem pen_ok (hl : ns.length ≤ 63) : f__law_pen (B0 ns) [.ref 0] [] = .ok (.ref 3) (hp0 ns 0 0 []) := by
  have hc : cutA (ns.map A.int) none (some 63) = ns.map A.int := by
    unfold cutA
    have h0 : HT.sIx (ns.map A.int).length 0 none = 0 := HT.sIx_none ..
    have h1 : HT.sIx (ns.map A.int).length (ns.map A.int).length (some 63) = ns.length := by
      show (if (63 : Int) < 0 then ((63 : Int) + ((ns.map A.int).length : Int)).toNat else min (63 : Int).toNat (ns.map A.int).length) = _
      rw [if_neg (by decide), List.length_map]
      exact Nat.min_eq_right hl
    rw [h0, h1, List.drop_zero, Nat.sub_zero]
    exact List.take_of_length_le (by rw [List.length_map]; exact Nat.le_refl _)
  have e1 : mSl (B0 ns) (mVar 0) mO0 (mO1 (mCon (.int 63))) [some (.ref 0)] [] = .ok (.ref 1) [.lst (ns.map A.int)] := by
    show fSl (B0 ns) (.ref 0) none (some 63) [] = _
    have er : rdL (B0 ns ++ []) 0 = some (ns.map A.int) := rfl
    simp only [fSl, er, hc]
    rfl
  have e2 : fLstOf (B0 ns) [.ref 1] [.lst (ns.map A.int)] = .ok (.ref 2) [.lst (ns.map A.int), .lst (ns.map A.int)] := rfl
  have e3 : runF 1 m__law_pen (B0 ns) [.ref 0] [] = .ok (.ref 3) (hp0 ns 0 0 []) := by
    have st : startA 1 [A.ref 0] = [some (.ref 0)] := rfl
    rw [ev_runF, st]
    unfold m__law_pen
    rw [ev_mRet]
    have ep : mPairs [((mCon (.str "cells")), (mCall (fLstOf (B0 ns)) (mCons (mSl (B0 ns) (mVar 0) mO0 (mO1 (mCon (.int 63)))) mNil))), ((mCon (.str "turn")), (mCon (.int 0))), ((mCon (.str "left")), (mCon (.int 0)))] [some (.ref 0)] [] = .ok [((Sum.inr "cells" : Key), A.ref 2), (Sum.inr "turn", .int 0), (Sum.inr "left", .int 0)] [.lst (ns.map A.int), .lst (ns.map A.int)] := by
      simp only [mPairs, ev_mCon, bind_ok, ev_mCall, ev_mCons, e1, ev_mNil, e2, keyOf]
    have em : mergeA [] [((Sum.inr "cells" : Key), A.ref 2), (Sum.inr "turn", .int 0), (Sum.inr "left", .int 0)] = [((Sum.inr "cells" : Key), A.ref 2), (Sum.inr "turn", .int 0), (Sum.inr "left", .int 0)] := by kernel_rfl
    unfold mDisp
    rw [ep, bind_ok, if_pos (by decide), em]
    rfl
  unfold f__law_pen gcF
  rw [e3]
  unfold cutR
  have hb : below ((B0 ns).length + ([] : List O).length) (.ref 3) = false := rfl
  simp only [hb, Bool.false_and, Bool.false_eq_true, if_false, false_and]
theorem rg_below : ∀ (n : Nat) (i : Int), ∀ y ∈ rgA i n, below 4 y = true := by
  intro n i y hy
  obtain ⟨z, _, rfl⟩ := List.mem_map.mp hy
  rfl
theorem plain (ns : List Int) (hl : ns.length ≤ 63) : ∃ t, runF 9 m_law [.ro (ns.map .int)] [.ref 0] [] = .ok (.bl true) t := by
  have st : startA 9 [A.ref 0] = [some (.ref 0), none, none, none, none, none, none, none, none] := rfl
  let q : Int := 20 + (if (ns.length : Int) < 20 then (ns.length : Int) else 20)
  have hq : 0 ≤ q ∧ q ≤ 40 := by
    show 0 ≤ 20 + (if (ns.length : Int) < 20 then (ns.length : Int) else 20) ∧ 20 + (if (ns.length : Int) < 20 then (ns.length : Int) else 20) ≤ 40
    split <;> omega
  have hrl : (rgA 0 q.toNat).length ≤ 40 := by
    simp only [rgA, List.length_map, List.length_range]
    omega
  obtain ⟨k', m', x', e⟩ := loop_ok (ns := ns) (ys := rgA 0 q.toNat) (rg_below _ _) (rgA 0 q.toNat) [] 0 0 none rfl (by decide) (by omega)
  obtain ⟨t, e2⟩ := end_true (ns := ns) (k := k') (m := m') (x := x')
  refine ⟨t, ?_⟩
  show runF 9 m_law (B0 ns) [.ref 0] [] = _
  have v0 : ∀ T, mVar 0 [some (.ref 0), none, none, none, none, none, none, none, none] T = .ok (.ref 0) T := fun _ => rfl
  rw [ev_runF, st, law_eq, ev_mSeq, ev_mAsg, ev_mCallF, ev_mCons, v0, bind_ok, ev_mNil, bind_ok, bind_ok, if_pos (show [A.ref 0].length = 1 from rfl), pen_ok hl, bind_ok, ev_gN, bind_ok, bind_ok, ev_then_nx]
  show ((mSeq _ (mEnd (B0 ns)) (s9 none) (hp0 ns 0 0 [])).bind endF) = _
  rw [ev_mSeq]
  have ei : mIRng1 (mCons (mBin (fAdd (B0 ns)) (mCon (.int 20)) (mCall (fI2 fun i j => if j < i then j else i) (mCons (mCon (.int 20)) (mCons (mCall (fLen (B0 ns)) (mCons (mVar 0) mNil)) mNil)))) mNil) (s9 none) (hp0 ns 0 0 []) = .ok (itL (rgA 0 q.toNat)) (hp0 ns 0 0 []) := by
    have w0 : ∀ T, mVar 0 (s9 none) T = .ok (.ref 0) T := fun _ => rfl
    have el : fLen (B0 ns) [.ref 0] (hp0 ns 0 0 []) = .ok (.int ns.length) (hp0 ns 0 0 []) := by
      show (match lenA (B0 ns ++ hp0 ns 0 0 []) (.ref 0) with
        | some n => Res.ok (A.int n) (hp0 ns 0 0 [])
        | none => .bad) = _
      have : lenA (B0 ns ++ hp0 ns 0 0 []) (.ref 0) = some ns.length := by
        show some (ns.map A.int).length = _
        rw [List.length_map]
      rw [this]
    have e2 : fI2 (fun i j => if j < i then j else i) [.int 20, .int ns.length] (hp0 ns 0 0 []) = .ok (.int (if (ns.length : Int) < 20 then (ns.length : Int) else 20)) (hp0 ns 0 0 []) := rfl
    have hs : smallI q = true := by
      unfold smallI
      simp only [Bool.and_eq_true, decide_eq_true_eq]
      omega
    unfold mIRng1
    simp only [ev_mCons, ev_mBin, ev_mCon, bind_ok, ev_mCall, w0, ev_mNil, el, e2, ev_fAddI]
    show (if smallI q = true then Res.ok (itL (rgA 0 q.toNat)) (hp0 ns 0 0 []) else .bad) = _
    rw [if_pos hs]
  have ef : mForS (B0 ns) (mIRng1 (mCons (mBin (fAdd (B0 ns)) (mCon (.int 20)) (mCall (fI2 fun i j => if j < i then j else i) (mCons (mCon (.int 20)) (mCons (mCall (fLen (B0 ns)) (mCons (mVar 0) mNil)) mNil)))) mNil)) (gN 2) (mScope (B0 ns) [5, 6, 3, 4, 7] (mBody (B0 ns))) (s9 none) (hp0 ns 0 0 []) = .ok (.nx (s9 x')) (hp0 ns k' m' []) := by
    unfold mForS
    rw [ei, bind_ok]
    exact e
  rw [ef, bind_ok, ev_then_nx, e2]
  rfl
end
end K01
end
set_option maxRecDepth 100000 in
theorem PySem.Challenge.cw_foldlines_k01_lines_looked_at_holds : PySem.Challenge.rw_foldlines_k01_lines_looked_at.Holds := by
  exact K01.holds_of K01.run fun ns h _ => K01.plain ns h
