import PyProof.Rows.All
import Wide.All
import OpenK.AllK
import Wide.FinOn
import HandS.ForMost
import HandS.ForExc
import HandS.Wide
import HandS.IsInst
import HandS.Walk
import HandS.TupLen
import HandS.Deep
import HandS.Replace
import KE.SortData
import HandS.Conv
import KE.KDictSum
import HandS.TryOnly
import HandS.ExcOwn
import HandS.Codes
import HandS.ExcIs
import KE.KExcIs
import HandS.HotCalls
import HandS.ExcInit
import HandS.ExcField
import HandS.TupAny
import PySem.Challenge.RW_creasecurve_k06_no_texts_of_roofs
set_option Elab.async false
set_option linter.all false
set_option maxRecDepth 100000
set_option maxHeartbeats 4000000
set_option maxHeartbeats 1000000
/-! # Qa: pure data over the hand layer's abstract heap; what an expression, a test, a statement computes of pure data -/
namespace Q
open PySem L2

/-- pure data -/
abbrev D := PyData
/-- a result -/
inductive R (α : Type) where
  | ok (a : α)
  | exc (c : String) (a : D)
  | bad
def R.bind {α β : Type} (x : R α) (f : α → R β) : R β := match x with
  | .ok a => f a
  | .exc c a => .exc c a
  | .bad => .bad
def R.of {α : Type} : Option α → R α
  | some a => .ok a
  | none => .bad
@[simp] theorem R.bind_ok {α β : Type} (a : α) (f : α → R β) : (R.ok a).bind f = f a := rfl
@[simp] theorem R.bind_exc {α β : Type} (c : String) (x : D) (f : α → R β) : (R.exc c x).bind f = .exc c x := rfl
@[simp] theorem R.bind_bad {α β : Type} (f : α → R β) : (R.bad).bind f = .bad := rfl
@[simp] theorem R.of_some {α : Type} (a : α) : R.of (some a) = .ok a := rfl
@[simp] theorem R.of_none {α : Type} : (R.of none : R α) = .bad := rfl

/-- what a slot holds: nothing told, data that never changes, a list or dict of one's own -/
inductive Slot where
  | no
  | dat (d : D)
  | ol (ds : List D)
  | od (es : List (D × D))
  | fx (c : String) (x : D)
abbrev Env := List Slot

def kD : Key → D
  | .inl i => .int i
  | .inr x => .str x
mutual
/-- a value shows data, by the objects of G -/
inductive Rp (K : PySem.W.Frag) (G : Hp) : V → D → Prop
  | non : Rp K G .non .none
  | bl (b : Bool) : Rp K G (.bl b) (.bool b)
  | int (i : Int) : Rp K G (.int i) (.int i)
  | str (x : Str) : Rp K G (.str x) (.str x)
  | lst {a : Addr} {xs : List V} {ds : List D} : SqL K G a xs → RpA K G xs ds → Rp K G (.ref a) (.list ds)
  | tup {a : Addr} {xs : List V} {ds : List D} : G a = some (.tup xs) → RpA K G xs ds → Rp K G (.ref a) (.tuple ds)
  | dict {a : Addr} {kvs : List (List Key × V)} {es : List (D × D)} : G a = some (.dT kvs) → RpD K G kvs es → Rp K G (.ref a) (.dict es)
inductive RpA (K : PySem.W.Frag) (G : Hp) : List V → List D → Prop
  | nil : RpA K G [] []
  | cons {v : V} {vs : List V} {d : D} {ds : List D} : Rp K G v d → RpA K G vs ds → RpA K G (v :: vs) (d :: ds)
inductive RpD (K : PySem.W.Frag) (G : Hp) : List (List Key × V) → List (D × D) → Prop
  | nil : RpD K G [] []
  | cons {k : List Key} {v : V} {d : D} {kvs : List (List Key × V)} {es : List (D × D)} : Rp K G v d → RpD K G kvs es → RpD K G ((k, v) :: kvs) ((.tuple (k.map kD), d) :: es)
end

section
variable {K : PySem.W.Frag} {G G' : Hp}
mutual
theorem Rp.mono (e : Same G G') : ∀ {v : V} {d : D}, Rp K G v d → Rp K G' v d
  | _, _, .non => .non
  | _, _, .bl b => .bl b
  | _, _, .int i => .int i
  | _, _, .str x => .str x
  | _, _, .lst h r => .lst (e.seq h) (RpA.mono e r)
  | _, _, .tup h r => .tup (e _ _ h) (RpA.mono e r)
  | _, _, .dict h r => .dict (e _ _ h) (RpD.mono e r)
theorem RpA.mono (e : Same G G') : ∀ {vs : List V} {ds : List D}, RpA K G vs ds → RpA K G' vs ds
  | _, _, .nil => .nil
  | _, _, .cons a b => .cons (Rp.mono e a) (RpA.mono e b)
theorem RpD.mono (e : Same G G') : ∀ {kvs : List (List Key × V)} {es : List (D × D)}, RpD K G kvs es → RpD K G' kvs es
  | _, _, .nil => .nil
  | _, _, .cons a b => .cons (Rp.mono e a) (RpD.mono e b)
end
theorem RpA.len : ∀ {vs : List V} {ds : List D}, RpA K G vs ds → vs.length = ds.length
  | _, _, .nil => rfl
  | _, _, .cons _ b => by rw [List.length_cons, List.length_cons, RpA.len b]
theorem RpA.get : ∀ {vs : List V} {ds : List D} {i : Nat} {d : D}, RpA K G vs ds → ds[i]? = some d → ∃ v, vs[i]? = some v ∧ Rp K G v d
  | _, _, i, _, .nil, h => by simp at h
  | _, _, 0, _, .cons a b, h => by simp at h; subst h; exact ⟨_, rfl, a⟩
  | _, _, i + 1, _, .cons a b, h => by
    obtain ⟨v, h1, h2⟩ := RpA.get (i := i) b (by simpa using h)
    exact ⟨v, by simpa using h1, h2⟩
theorem RpA.getV : ∀ {vs : List V} {ds : List D} {i : Nat} {v : V}, RpA K G vs ds → vs[i]? = some v → ∃ d, ds[i]? = some d ∧ Rp K G v d
  | _, _, i, _, .nil, h => by simp at h
  | _, _, 0, _, .cons a b, h => by simp at h; subst h; exact ⟨_, rfl, a⟩
  | _, _, i + 1, _, .cons a b, h => by
    obtain ⟨v, h1, h2⟩ := RpA.getV (i := i) b (by simpa using h)
    exact ⟨v, by simpa using h1, h2⟩
theorem RpA.append : ∀ {vs ws : List V} {ds es : List D}, RpA K G vs ds → RpA K G ws es → RpA K G (vs ++ ws) (ds ++ es)
  | _, _, _, _, .nil, q => q
  | _, _, _, _, .cons a b, q => .cons a (RpA.append b q)
theorem RpA.take : ∀ {vs : List V} {ds : List D} (n : Nat), RpA K G vs ds → RpA K G (vs.take n) (ds.take n)
  | _, _, 0, _ => .nil
  | _, _, _ + 1, .nil => .nil
  | _, _, n + 1, .cons a b => .cons a (RpA.take n b)
theorem RpA.drop : ∀ {vs : List V} {ds : List D} (n : Nat), RpA K G vs ds → RpA K G (vs.drop n) (ds.drop n)
  | _, _, 0, r => r
  | _, _, _ + 1, .nil => .nil
  | _, _, n + 1, .cons a b => RpA.drop n b
theorem RpA.one {v : V} {d : D} (h : Rp K G v d) : RpA K G [v] [d] := .cons h .nil
theorem RpA.ints : ∀ (ns : List Int), RpA K G (ns.map V.int) (ns.map PyData.int)
  | [] => .nil
  | n :: r => .cons (.int n) (RpA.ints r)
theorem RpA.strs : ∀ (ns : List Str), RpA K G (ns.map V.str) (ns.map PyData.str)
  | [] => .nil
  | n :: r => .cons (.str n) (RpA.strs r)
theorem RpA.bls : ∀ (ns : List Bool), RpA K G (ns.map V.bl) (ns.map PyData.bool)
  | [] => .nil
  | n :: r => .cons (.bl n) (RpA.bls r)
theorem RpA.setI : ∀ {vs : List V} {ds : List D} {v : V} {d : D} (i : Nat), RpA K G vs ds → Rp K G v d → RpA K G (vs.set i v) (ds.set i d)
  | _, _, _, _, _, .nil, _ => .nil
  | _, _, _, _, 0, .cons _ b, q => .cons q b
  | _, _, _, _, i + 1, .cons a b, q => .cons a (RpA.setI i b q)
theorem RpA.reverse {vs : List V} {ds : List D} (h : RpA K G vs ds) : RpA K G vs.reverse ds.reverse := by
  induction vs generalizing ds with
  | nil => cases h; exact .nil
  | cons v vs ih =>
    cases h with
    | cons a b => rw [List.reverse_cons, List.reverse_cons]; exact (ih b).append (.one a)
theorem RpD.len : ∀ {kvs : List (List Key × V)} {es : List (D × D)}, RpD K G kvs es → kvs.length = es.length
  | _, _, .nil => rfl
  | _, _, .cons _ b => by rw [List.length_cons, List.length_cons, RpD.len b]
end

/-- from (G, H) to (G', H'): all stays, what G' has more is new -/
structure Gr (G H G' H' : Hp) : Prop where
  g : Same G G'
  gh : Same G' H'
  h : Same H H'
  fr : ∀ p, G' p ≠ none → G p ≠ none ∨ H p = none ∨ ∃ xs, H p = some (.tup xs)
theorem Gr.refl {G H : Hp} (e : Same G H) : Gr G H G H := ⟨Same.refl G, e, Same.refl H, fun _ h => .inl h⟩
theorem Gr.trans {G H G1 H1 G2 H2 : Hp} (a : Gr G H G1 H1) (b : Gr G1 H1 G2 H2) : Gr G H G2 H2 :=
  ⟨a.g.trans b.g, b.gh, a.h.trans b.h, fun p hp => by
    rcases b.fr p hp with h | h | ⟨xs, h⟩
    · exact a.fr p h
    · exact .inr (.inl (a.h.free h))
    · cases e : H p with
      | none => exact .inr (.inl rfl)
      | some o => rw [a.h _ _ e] at h; cases h; exact .inr (.inr ⟨xs, rfl⟩)⟩
/-- a new object, known -/
theorem Gr.new {G H : Hp} {p : Addr} {o : HO} (e : Same G H) (hp : H p = none) : Gr G H (upd G p o) (upd H p o) :=
  ⟨fun b u h => by rw [upd_ne (ne_of_none (e b u h) hp)]; exact h,
   fun b u h => by
    by_cases hb : b = p
    · subst hb; rw [upd_same] at h ⊢; exact h
    · rw [upd_ne hb] at h ⊢; exact e b u h,
   fun b u h => by rw [upd_ne (ne_of_none h hp)]; exact h,
   fun b h => by
    by_cases hb : b = p
    · subst hb; exact .inr (.inl hp)
    · rw [upd_ne hb] at h; exact .inl h⟩
/-- a new object of one's own -/
theorem Gr.own {G H : Hp} {p : Addr} {o : HO} (e : Same G H) (hp : H p = none) : Gr G H G (upd H p o) :=
  ⟨Same.refl G, fun b u h => by rw [upd_ne (ne_of_none (e b u h) hp)]; exact e b u h, fun b u h => by rw [upd_ne (ne_of_none h hp)]; exact h, fun _ h => .inl h⟩
/-- one's own object becomes known -/
theorem Gr.freeze {G H G' H' : Hp} {p : Addr} {o : HO} (a : Gr G H G' H') (h0 : H p = none) (hg : G' p = none) (hp : H' p = some o) : Gr G H (upd G' p o) H' :=
  ⟨fun b u h => by rw [upd_ne (ne_of_none (a.g b u h) hg)]; exact a.g b u h,
   fun b u h => by
    by_cases hb : b = p
    · subst hb; rw [upd_same] at h; rw [hp]; exact h
    · rw [upd_ne hb] at h; exact a.gh b u h,
   a.h,
   fun b h => by
    by_cases hb : b = p
    · subst hb; exact .inr (.inl h0)
    · rw [upd_ne hb] at h; exact a.fr b h⟩

/-- where a def's body began: what was known, what there was -/
structure Bs where
  G0 : Hp
  H0 : Hp
  /-- the refusal that is held: its address, its class's name, its fields' dict -/
  X : Addr → String → Option Addr → Prop := fun _ _ _ => False
/-- the field of a refusal -/
def Fld (K : PySem.W.Frag) (G : Hp) (dd : Option Addr) : D → Prop
  | .tuple [.str f, x] => ∃ d v, dd = some d ∧ G d = some (.xd [(f, v)]) ∧ Rp K G v x
  | _ => dd = none
theorem Fld.mono {K : PySem.W.Frag} {G G' : Hp} {dd : Option Addr} {x : D} (g : Same G G') (h : Fld K G dd x) : Fld K G' dd x := by
  unfold Fld at *
  split at h
  · obtain ⟨d, v, e, h1, h2⟩ := h
    exact ⟨d, v, e, g _ _ h1, h2.mono g⟩
  · exact h

def Ow : Option Slot → Prop
  | some (.ol _) => True
  | some (.od _) => True
  | _ => False
/-- the slots hold the environment -/
structure Sl (K : PySem.W.Frag) (B : Bs) (ρ : Env) (G : Hp) (σ : St) (H : Hp) : Prop where
  gr : Gr B.G0 B.H0 G H
  len : σ.length = ρ.length
  dat : ∀ (i : Nat) d, ρ[i]? = some (.dat d) → ∃ v, σ[i]? = some (some v) ∧ Rp K G v d
  ol : ∀ (i : Nat) ds, ρ[i]? = some (.ol ds) → ∃ p vs, σ[i]? = some (some (.ref p)) ∧ B.H0 p = none ∧ G p = none ∧ H p = some (.lst vs) ∧ RpA K G vs ds
  od : ∀ (i : Nat) es, ρ[i]? = some (.od es) → ∃ p kvs, σ[i]? = some (some (.ref p)) ∧ B.H0 p = none ∧ G p = none ∧ H p = some (.dT kvs) ∧ RpD K G kvs es
  ne : ∀ (i j : Nat) p, i ≠ j → Ow ρ[i]? → Ow ρ[j]? → σ[i]? = some (some (.ref p)) → σ[j]? ≠ some (some (.ref p))
  fx : ∀ (i : Nat) c x, ρ[i]? = some (.fx c x) → ∃ a dd, σ[i]? = some (some (.ref a)) ∧ B.X a c dd ∧ Fld K G dd x

section
variable {K : PySem.W.Frag} {B : Bs} {ρ : Env} {G H G' H' : Hp} {σ : St} {W : WX}
theorem Gr.keeps {p : Addr} {o : HO} (a : Gr G H G' H') (h3 : G p = none) (h4 : H p = some o) (ho : ∀ xs, o ≠ .tup xs) : G' p = none := by
  cases q : G' p with
  | none => rfl
  | some u =>
    rcases a.fr p (by rw [q]; simp) with z | z | ⟨xs, z⟩
    · exact absurd h3 z
    · rw [z] at h4; cases h4
    · rw [z] at h4; cases h4; exact absurd rfl (ho xs)
theorem Sl.fxs (s : Sl K B ρ G σ H) {sl : Slot} (hn : ∀ c x, sl ≠ .fx c x) (i : Nat) (w : Option V) : ∀ (j : Nat) c x, (ρ.set i sl)[j]? = some (.fx c x) → ∃ a dd, (σ.set i w)[j]? = some (some (.ref a)) ∧ B.X a c dd ∧ Fld K G dd x := by
  intro j c x h
  by_cases hji : i = j
  · subst hji
    by_cases hl : i < ρ.length
    · rw [List.getElem?_set_self hl] at h; cases h; exact absurd rfl (hn c x)
    · rw [List.getElem?_eq_none (by simpa using hl)] at h; cases h
  · rw [List.getElem?_set_ne hji] at h ⊢; exact s.fx j c x h
theorem Sl.step (s : Sl K B ρ G σ H) (a : Gr G H G' H') : Sl K B ρ G' σ H' := by
  refine ⟨s.gr.trans a, s.len, fun i d h => let ⟨v, h1, h2⟩ := s.dat i d h; ⟨v, h1, h2.mono a.g⟩, fun i ds h => ?_, fun i ds h => ?_, s.ne, fun i c x h => let ⟨a1, dd, h1, h2, h3⟩ := s.fx i c x h; ⟨a1, dd, h1, h2, h3.mono a.g⟩⟩
  · obtain ⟨p, vs, h1, h2, h3, h4, h5⟩ := s.ol i ds h
    exact ⟨p, vs, h1, h2, a.keeps h3 h4 (fun _ z => by cases z), a.h _ _ h4, h5.mono a.g⟩
  · obtain ⟨p, vs, h1, h2, h3, h4, h5⟩ := s.od i ds h
    exact ⟨p, vs, h1, h2, a.keeps h3 h4 (fun _ z => by cases z), a.h _ _ h4, h5.mono a.g⟩
theorem Sl.same (s : Sl K B ρ G σ H) : Same G H := s.gr.gh
/-- an owned address: of which slots -/
theorem Sl.owH (s : Sl K B ρ G σ H) {i : Nat} (h : Ow ρ[i]?) : ∃ p, σ[i]? = some (some (.ref p)) ∧ G p = none ∧ H p ≠ none ∧ B.H0 p = none := by
  cases e : ρ[i]? with
  | none => rw [e] at h; exact h.elim
  | some sl =>
    cases sl with
    | no => rw [e] at h; exact h.elim
    | dat d => rw [e] at h; exact h.elim
    | fx c x => rw [e] at h; exact h.elim
    | ol ds => obtain ⟨p, vs, h1, h2, h3, h4, h5⟩ := s.ol i ds e; exact ⟨p, h1, h3, by rw [h4]; simp, h2⟩
    | od ds => obtain ⟨p, vs, h1, h2, h3, h4, h5⟩ := s.od i ds e; exact ⟨p, h1, h3, by rw [h4]; simp, h2⟩
/-- a slot takes data -/
theorem Sl.set (s : Sl K B ρ G σ H) {v : V} {d : D} (r : Rp K G v d) (i : Nat) : Sl K B (ρ.set i (.dat d)) G (σ.set i (some v)) H := by
  refine ⟨s.gr, by simp [s.len], fun j e h => ?_, fun j e h => ?_, fun j e h => ?_, fun j k p hjk hj hk hp => ?_, s.fxs (fun _ _ z => by cases z) i _⟩
  · by_cases hji : i = j
    · subst hji
      by_cases hl : i < ρ.length
      · rw [List.getElem?_set_self hl] at h
        cases h
        exact ⟨v, List.getElem?_set_self (by rw [s.len]; exact hl), r⟩
      · rw [List.getElem?_eq_none (by simpa using hl)] at h; cases h
    · rw [List.getElem?_set_ne hji] at h ⊢
      exact s.dat j e h
  · by_cases hji : i = j
    · subst hji
      by_cases hl : i < ρ.length
      · rw [List.getElem?_set_self hl] at h; cases h
      · rw [List.getElem?_eq_none (by simpa using hl)] at h; cases h
    · rw [List.getElem?_set_ne hji] at h ⊢
      exact s.ol j e h
  · by_cases hji : i = j
    · subst hji
      by_cases hl : i < ρ.length
      · rw [List.getElem?_set_self hl] at h; cases h
      · rw [List.getElem?_eq_none (by simpa using hl)] at h; cases h
    · rw [List.getElem?_set_ne hji] at h ⊢
      exact s.od j e h
  · have nj : i ≠ j := by
      intro z; subst z
      by_cases hl : i < ρ.length
      · rw [List.getElem?_set_self hl] at hj; exact hj
      · rw [List.getElem?_eq_none (by simpa using hl)] at hj; exact hj
    have nk : i ≠ k := by
      intro z; subst z
      by_cases hl : i < ρ.length
      · rw [List.getElem?_set_self hl] at hk; exact hk
      · rw [List.getElem?_eq_none (by simpa using hl)] at hk; exact hk
    rw [List.getElem?_set_ne nj] at hj hp
    rw [List.getElem?_set_ne nk] at hk ⊢
    exact s.ne j k p hjk hj hk hp
/-- a slot is forgotten -/
theorem Sl.forget (s : Sl K B ρ G σ H) (i : Nat) : Sl K B (ρ.set i .no) G (σ.set i none) H := by
  have key : ∀ {j : Nat} {x : Slot}, x ≠ .no → (ρ.set i .no)[j]? = some x → i ≠ j ∧ ρ[j]? = some x := fun {j x} hx h => by
    by_cases hji : i = j
    · subst hji
      by_cases hl : i < ρ.length
      · rw [List.getElem?_set_self hl] at h; cases h; exact absurd rfl hx
      · rw [List.getElem?_eq_none (by simpa using hl)] at h; cases h
    · rw [List.getElem?_set_ne hji] at h; exact ⟨hji, h⟩
  have kow : ∀ {j : Nat}, Ow (ρ.set i .no)[j]? → i ≠ j ∧ Ow ρ[j]? := fun {j} h => by
    by_cases hji : i = j
    · subst hji
      by_cases hl : i < ρ.length
      · rw [List.getElem?_set_self hl] at h; exact h.elim
      · rw [List.getElem?_eq_none (by simpa using hl)] at h; exact h.elim
    · rw [List.getElem?_set_ne hji] at h; exact ⟨hji, h⟩
  refine ⟨s.gr, by simp [s.len], fun j e h => ?_, fun j e h => ?_, fun j e h => ?_, fun j k p hjk hj hk hp => ?_, s.fxs (fun _ _ z => by cases z) i _⟩
  · obtain ⟨n, h⟩ := key (by intro z; cases z) h
    rw [List.getElem?_set_ne n]; exact s.dat j e h
  · obtain ⟨n, h⟩ := key (by intro z; cases z) h
    rw [List.getElem?_set_ne n]; exact s.ol j e h
  · obtain ⟨n, h⟩ := key (by intro z; cases z) h
    rw [List.getElem?_set_ne n]; exact s.od j e h
  · obtain ⟨nj, hj⟩ := kow hj
    obtain ⟨nk, hk⟩ := kow hk
    rw [List.getElem?_set_ne nj] at hp
    rw [List.getElem?_set_ne nk]
    exact s.ne j k p hjk hj hk hp
/-- a slot takes a list of one's own -/
theorem Sl.setL (s : Sl K B ρ G σ H) {p : Addr} {vs : List V} {ds : List D} (h0 : B.H0 p = none) (hg : G p = none) (hp : H p = some (.lst vs)) (r : RpA K G vs ds) (i : Nat) (hn : ∀ j, j ≠ i → Ow ρ[j]? → σ[j]? ≠ some (some (.ref p))) :
    Sl K B (ρ.set i (.ol ds)) G (σ.set i (some (.ref p))) H := by
  have S := s.forget i
  have e1 : ρ.set i (.ol ds) = (ρ.set i .no).set i (.ol ds) := by simp
  have e2 : σ.set i (some (.ref p)) = (σ.set i none).set i (some (.ref p)) := by simp
  have hn' : ∀ j, j ≠ i → Ow (ρ.set i .no)[j]? → (σ.set i none)[j]? ≠ some (some (.ref p)) := fun j hj ho => by
    rw [List.getElem?_set_ne (Ne.symm hj)] at ho ⊢
    exact hn j hj ho
  refine ⟨s.gr, by simp [s.len], fun j e h => ?_, fun j e h => ?_, fun j e h => ?_, fun j k q hjk hj hk hq => ?_, s.fxs (fun _ _ z => by cases z) i _⟩
  · by_cases hji : i = j
    · subst hji
      by_cases hl : i < ρ.length
      · rw [List.getElem?_set_self hl] at h; cases h
      · rw [List.getElem?_eq_none (by simpa using hl)] at h; cases h
    · rw [List.getElem?_set_ne hji] at h ⊢; exact s.dat j e h
  · by_cases hji : i = j
    · subst hji
      by_cases hl : i < ρ.length
      · rw [List.getElem?_set_self hl] at h; cases h
        exact ⟨p, vs, List.getElem?_set_self (by rw [s.len]; exact hl), h0, hg, hp, r⟩
      · rw [List.getElem?_eq_none (by simpa using hl)] at h; cases h
    · rw [List.getElem?_set_ne hji] at h ⊢; exact s.ol j e h
  · by_cases hji : i = j
    · subst hji
      by_cases hl : i < ρ.length
      · rw [List.getElem?_set_self hl] at h; cases h
      · rw [List.getElem?_eq_none (by simpa using hl)] at h; cases h
    · rw [List.getElem?_set_ne hji] at h ⊢; exact s.od j e h
  · by_cases hij : i = j
    · subst hij
      have hki : i ≠ k := hjk
      rw [List.getElem?_set_ne hki] at hk ⊢
      by_cases hl : i < σ.length
      · rw [List.getElem?_set_self hl] at hq
        cases hq
        exact hn k (Ne.symm hki) hk
      · rw [List.getElem?_eq_none (by simpa using hl)] at hq; cases hq
    · rw [List.getElem?_set_ne hij] at hj hq
      by_cases hik : i = k
      · subst hik
        by_cases hl : i < σ.length
        · rw [List.getElem?_set_self hl]
          intro z; cases z
          exact hn j (Ne.symm hij) hj hq
        · rw [List.getElem?_eq_none (by simpa using hl)]; simp
      · rw [List.getElem?_set_ne hik] at hk ⊢
        exact s.ne j k q hjk hj hk hq
/-- a slot takes a dict of one's own -/
theorem Sl.setD (s : Sl K B ρ G σ H) {p : Addr} {kvs : List (List Key × V)} {es : List (D × D)} (h0 : B.H0 p = none) (hg : G p = none) (hp : H p = some (.dT kvs)) (r : RpD K G kvs es) (i : Nat) (hn : ∀ j, j ≠ i → Ow ρ[j]? → σ[j]? ≠ some (some (.ref p))) :
    Sl K B (ρ.set i (.od es)) G (σ.set i (some (.ref p))) H := by
  refine ⟨s.gr, by simp [s.len], fun j e h => ?_, fun j e h => ?_, fun j e h => ?_, fun j k q hjk hj hk hq => ?_, s.fxs (fun _ _ z => by cases z) i _⟩
  · by_cases hji : i = j
    · subst hji
      by_cases hl : i < ρ.length
      · rw [List.getElem?_set_self hl] at h; cases h
      · rw [List.getElem?_eq_none (by simpa using hl)] at h; cases h
    · rw [List.getElem?_set_ne hji] at h ⊢; exact s.dat j e h
  · by_cases hji : i = j
    · subst hji
      by_cases hl : i < ρ.length
      · rw [List.getElem?_set_self hl] at h; cases h
      · rw [List.getElem?_eq_none (by simpa using hl)] at h; cases h
    · rw [List.getElem?_set_ne hji] at h ⊢; exact s.ol j e h
  · by_cases hji : i = j
    · subst hji
      by_cases hl : i < ρ.length
      · rw [List.getElem?_set_self hl] at h; cases h
        exact ⟨p, kvs, List.getElem?_set_self (by rw [s.len]; exact hl), h0, hg, hp, r⟩
      · rw [List.getElem?_eq_none (by simpa using hl)] at h; cases h
    · rw [List.getElem?_set_ne hji] at h ⊢; exact s.od j e h
  · by_cases hij : i = j
    · subst hij
      have hki : i ≠ k := hjk
      rw [List.getElem?_set_ne hki] at hk ⊢
      by_cases hl : i < σ.length
      · rw [List.getElem?_set_self hl] at hq
        cases hq
        exact hn k (Ne.symm hki) hk
      · rw [List.getElem?_eq_none (by simpa using hl)] at hq; cases hq
    · rw [List.getElem?_set_ne hij] at hj hq
      by_cases hik : i = k
      · subst hik
        by_cases hl : i < σ.length
        · rw [List.getElem?_set_self hl]
          intro z; cases z
          exact hn j (Ne.symm hij) hj hq
        · rw [List.getElem?_eq_none (by simpa using hl)]; simp
      · rw [List.getElem?_set_ne hik] at hk ⊢
        exact s.ne j k q hjk hj hk hq
/-- a slot takes the refusal that is held -/
theorem Sl.setX (s : Sl K B ρ G σ H) {a : Addr} {dd : Option Addr} {c : String} {x : D} (hx : B.X a c dd) (hf : Fld K G dd x) (i : Nat) : Sl K B (ρ.set i (.fx c x)) G (σ.set i (some (.ref a))) H := by
  have S := s.forget i
  have no : ∀ {j : Nat} {sl : Slot}, (∀ c x, sl ≠ .fx c x) → sl ≠ .no → (ρ.set i (.fx c x))[j]? = some sl → (ρ.set i .no)[j]? = some sl ∧ i ≠ j := fun {j sl} hn h0 h => by
    by_cases hji : i = j
    · subst hji
      by_cases hl : i < ρ.length
      · rw [List.getElem?_set_self hl] at h; cases h; exact absurd rfl (hn c x)
      · rw [List.getElem?_eq_none (by simpa using hl)] at h; cases h
    · rw [List.getElem?_set_ne hji] at h ⊢; exact ⟨h, hji⟩
  have ow : ∀ {j : Nat}, Ow (ρ.set i (.fx c x))[j]? → Ow (ρ.set i .no)[j]? ∧ i ≠ j := fun {j} h => by
    by_cases hji : i = j
    · subst hji
      by_cases hl : i < ρ.length
      · rw [List.getElem?_set_self hl] at h; exact h.elim
      · rw [List.getElem?_eq_none (by simpa using hl)] at h; exact h.elim
    · rw [List.getElem?_set_ne hji] at h ⊢; exact ⟨h, hji⟩
  refine ⟨s.gr, by simp [s.len], fun j d h => ?_, fun j d h => ?_, fun j d h => ?_, fun j k p hjk hj hk hp => ?_, fun j c' x' h => ?_⟩
  · obtain ⟨h, n⟩ := no (by intro _ _ z; cases z) (by intro z; cases z) h
    obtain ⟨v, h1, h2⟩ := S.dat j d h
    rw [List.getElem?_set_ne n] at h1 ⊢; exact ⟨v, h1, h2⟩
  · obtain ⟨h, n⟩ := no (by intro _ _ z; cases z) (by intro z; cases z) h
    obtain ⟨p, vs, h1, h2⟩ := S.ol j d h
    rw [List.getElem?_set_ne n] at h1 ⊢; exact ⟨p, vs, h1, h2⟩
  · obtain ⟨h, n⟩ := no (by intro _ _ z; cases z) (by intro z; cases z) h
    obtain ⟨p, vs, h1, h2⟩ := S.od j d h
    rw [List.getElem?_set_ne n] at h1 ⊢; exact ⟨p, vs, h1, h2⟩
  · obtain ⟨hj, nj⟩ := ow hj
    obtain ⟨hk, nk⟩ := ow hk
    have := S.ne j k p hjk hj hk
    rw [List.getElem?_set_ne nj] at this hp
    rw [List.getElem?_set_ne nk] at this ⊢
    exact this hp
  · by_cases hji : i = j
    · subst hji
      by_cases hl : i < ρ.length
      · rw [List.getElem?_set_self hl] at h; cases h
        exact ⟨a, dd, List.getElem?_set_self (by rw [s.len]; exact hl), hx, hf⟩
      · rw [List.getElem?_eq_none (by simpa using hl)] at h; cases h
    · rw [List.getElem?_set_ne hji] at h ⊢; exact s.fx j c' x' h
/-- one's own list at slot i changes -/
theorem Sl.write (s : Sl K B ρ G σ H) {i : Nat} {p : Addr} {o : HO} (hi : Ow ρ[i]?) (hp : σ[i]? = some (some (.ref p))) (r : (∃ vs ds, o = .lst vs ∧ RpA K G vs ds ∧ ρ' = ρ.set i (.ol ds)) ∨ (∃ kvs es, o = .dT kvs ∧ RpD K G kvs es ∧ ρ' = ρ.set i (.od es))) :
    Sl K B ρ' G σ (upd H p o) := by
  obtain ⟨p', hp', hg, hH, h0⟩ := s.owH hi
  rw [hp] at hp'; cases hp'
  have gr : Gr B.G0 B.H0 G (upd H p o) := ⟨s.gr.g, fun b u h => by rw [upd_ne (ne_of_none h hg)]; exact s.gr.gh b u h, fun b u h => by rw [upd_ne (ne_of_none h h0)]; exact s.gr.h b u h, s.gr.fr⟩
  have S : Sl K B (ρ.set i .no) G (σ.set i none) (upd H p o) := by
    have S0 := s.forget i
    refine ⟨gr, S0.len, S0.dat, fun j ds h => ?_, fun j ds h => ?_, S0.ne, S0.fx⟩
    · obtain ⟨q, vs, h1, h2, h3, h4, h5⟩ := S0.ol j ds h
      have hj : i ≠ j := by
        intro z; subst z
        by_cases hl : i < ρ.length
        · rw [List.getElem?_set_self hl] at h; cases h
        · rw [List.getElem?_eq_none (by simpa using hl)] at h; cases h
      have hjo : Ow ρ[j]? := by rw [List.getElem?_set_ne hj] at h; rw [h]; trivial
      refine ⟨q, vs, h1, h2, h3, ?_, h5⟩
      rw [upd_ne]; exact h4
      intro z; subst z
      rw [List.getElem?_set_ne hj] at h1
      exact s.ne i j q hj hi hjo hp h1
    · obtain ⟨q, vs, h1, h2, h3, h4, h5⟩ := S0.od j ds h
      have hj : i ≠ j := by
        intro z; subst z
        by_cases hl : i < ρ.length
        · rw [List.getElem?_set_self hl] at h; cases h
        · rw [List.getElem?_eq_none (by simpa using hl)] at h; cases h
      have hjo : Ow ρ[j]? := by rw [List.getElem?_set_ne hj] at h; rw [h]; trivial
      refine ⟨q, vs, h1, h2, h3, ?_, h5⟩
      rw [upd_ne]; exact h4
      intro z; subst z
      rw [List.getElem?_set_ne hj] at h1
      exact s.ne i j q hj hi hjo hp h1
  have hl : i < σ.length := by
    by_cases hl : i < σ.length
    · exact hl
    · rw [List.getElem?_eq_none (by simpa using hl)] at hp; cases hp
  have e2 : σ = (σ.set i none).set i (some (.ref p)) := by
    apply List.ext_getElem?
    intro j
    by_cases hij : i = j
    · subst hij; rw [List.getElem?_set_self (by simpa using hl)]; exact hp
    · rw [List.getElem?_set_ne hij, List.getElem?_set_ne hij]
  have hn : ∀ j, j ≠ i → Ow (ρ.set i .no)[j]? → (σ.set i none)[j]? ≠ some (some (.ref p)) := fun j hj ho => by
    rw [List.getElem?_set_ne (Ne.symm hj)] at ho ⊢
    exact s.ne i j p (Ne.symm hj) hi ho hp
  rcases r with ⟨vs, ds, rfl, r, rfl⟩ | ⟨kvs, es, rfl, r, rfl⟩
  · have := S.setL (i := i) h0 hg upd_same r hn
    rw [← e2] at this
    simpa using this
  · have := S.setD (i := i) h0 hg upd_same r hn
    rw [← e2] at this
    simpa using this
/-- one's own becomes known -/
def frz (i : Nat) (ρ : Env) : Env := match ρ[i]? with
  | some (.ol ds) => ρ.set i (.dat (.list ds))
  | some (.od es) => ρ.set i (.dat (.dict es))
  | _ => ρ
/-- .. and the address that it does so by (none: none does) -/
theorem Sl.frz (s : Sl K B ρ G σ H) (i : Nat) : (∃ p o, σ[i]? = some (some (.ref p)) ∧ Ow ρ[i]? ∧ H p = some o ∧ G p = none ∧ B.H0 p = none ∧ Sl K B (frz i ρ) (upd G p o) σ H) ∨ (frz i ρ = ρ) := by
  have fin : ∀ {p : Addr} {o : HO} {d : D}, Ow ρ[i]? → σ[i]? = some (some (.ref p)) → H p = some o → G p = none → B.H0 p = none → Rp K (upd G p o) (.ref p) d → Sl K B (ρ.set i (.dat d)) (upd G p o) σ H := fun {p o d} hi hp hH hg h0 r => by
    have S := s.forget i
    have gr : Gr B.G0 B.H0 (upd G p o) H := s.gr.freeze h0 hg hH
    have sm : Same G (upd G p o) := fun b u h => by rw [upd_ne (ne_of_none h hg)]; exact h
    have S1 : Sl K B (ρ.set i .no) (upd G p o) (σ.set i none) H := by
      refine ⟨gr, S.len, fun j d h => let ⟨v, h1, h2⟩ := S.dat j d h; ⟨v, h1, h2.mono sm⟩, fun j ds h => ?_, fun j ds h => ?_, S.ne, fun j c x h => let ⟨a1, dd, h1, h2, h3⟩ := S.fx j c x h; ⟨a1, dd, h1, h2, h3.mono sm⟩⟩
      · obtain ⟨q, vs, h1, h2, h3, h4, h5⟩ := S.ol j ds h
        have hj : i ≠ j := by
          intro z; subst z
          by_cases hl : i < ρ.length
          · rw [List.getElem?_set_self hl] at h; cases h
          · rw [List.getElem?_eq_none (by simpa using hl)] at h; cases h
        have hjo : Ow ρ[j]? := by rw [List.getElem?_set_ne hj] at h; rw [h]; trivial
        refine ⟨q, vs, h1, h2, ?_, h4, h5.mono sm⟩
        rw [upd_ne]; exact h3
        intro z; subst z
        rw [List.getElem?_set_ne hj] at h1
        exact s.ne i j q hj hi hjo hp h1
      · obtain ⟨q, vs, h1, h2, h3, h4, h5⟩ := S.od j ds h
        have hj : i ≠ j := by
          intro z; subst z
          by_cases hl : i < ρ.length
          · rw [List.getElem?_set_self hl] at h; cases h
          · rw [List.getElem?_eq_none (by simpa using hl)] at h; cases h
        have hjo : Ow ρ[j]? := by rw [List.getElem?_set_ne hj] at h; rw [h]; trivial
        refine ⟨q, vs, h1, h2, ?_, h4, h5.mono sm⟩
        rw [upd_ne]; exact h3
        intro z; subst z
        rw [List.getElem?_set_ne hj] at h1
        exact s.ne i j q hj hi hjo hp h1
    have S2 := S1.set r i
    have hl : i < σ.length := by
      by_cases hl : i < σ.length
      · exact hl
      · rw [List.getElem?_eq_none (by simpa using hl)] at hp; cases hp
    have e2 : (σ.set i none).set i (some (.ref p)) = σ := by
      apply List.ext_getElem?
      intro j
      by_cases hij : i = j
      · subst hij; rw [List.getElem?_set_self (by simpa using hl)]; exact hp.symm
      · rw [List.getElem?_set_ne hij, List.getElem?_set_ne hij]
    rw [e2] at S2
    simpa using S2
  cases e : ρ[i]? with
  | none => exact .inr (by unfold Q.frz; rw [e])
  | some sl =>
    cases sl with
    | no => exact .inr (by unfold Q.frz; rw [e])
    | dat d => exact .inr (by unfold Q.frz; rw [e])
    | fx c x => exact .inr (by unfold Q.frz; rw [e])
    | ol ds =>
      obtain ⟨p, vs, h1, h2, h3, h4, h5⟩ := s.ol i ds e
      have hi : Ow ρ[i]? := by rw [e]; trivial
      refine .inl ⟨p, _, h1, trivial, h4, h3, h2, ?_⟩
      have sm : Same G (upd G p (.lst vs)) := fun b u h => by rw [upd_ne (ne_of_none h h3)]; exact h
      have := fin hi h1 h4 h3 h2 (Rp.lst (SqL.of upd_same) (h5.mono sm))
      unfold Q.frz; rw [e]; exact this
    | od es =>
      obtain ⟨p, kvs, h1, h2, h3, h4, h5⟩ := s.od i es e
      have hi : Ow ρ[i]? := by rw [e]; trivial
      refine .inl ⟨p, _, h1, trivial, h4, h3, h2, ?_⟩
      have sm : Same G (upd G p (.dT kvs)) := fun b u h => by rw [upd_ne (ne_of_none h h3)]; exact h
      have := fin hi h1 h4 h3 h2 (Rp.dict upd_same (h5.mono sm))
      unfold Q.frz; rw [e]; exact this
end
end Q

set_option maxHeartbeats 1000000
/-! # Qb: expressions and tests -/
namespace Q
open PySem L2

/-- how a refusal of class c with its field lies: `.none` no field; `.tuple [.str f, x]` a field f of value x -/
def Xc (K : PySem.W.Frag) (mg : Str → Option Value) (c : String) (a : D) (cls : Value) (dd : Option Addr) (G H : Hp) : Prop :=
  ∃ C, mg (Str.ofString c) = some (.ref C) ∧ cls = .ref C ∧ Fld K G dd a
structure Kx where
  K : PySem.W.Frag
  mg : Str → Option Value
  B : Bs
  W : WX
abbrev kx (X : Cx) (B : Bs) (W : WX) : Kx := ⟨X.K, X.mg, B, W⟩
/-- what is wanted behind a result -/
def Af {α : Type} (k : Kx) (σ : St) (G H : Hp) (r : R α) (P : α → Hp → Hp → Prop) : Prop := match r with
  | .ok a => ∀ G' H', Gr G H G' H' → P a G' H'
  | .exc c x => ∀ cls dd G' H', Gr G H G' H' → Xc k.K k.mg c x cls dd G' H' → k.W cls dd σ H'
  | .bad => False
theorem Af.mono {α : Type} {k : Kx} {σ : St} {G H G' H' : Hp} {r : R α} {P : α → Hp → Hp → Prop} (g : Gr G H G' H') (h : Af k σ G H r P) : Af k σ G' H' r P := by
  cases r with
  | ok a => exact fun G2 H2 g2 => h G2 H2 (g.trans g2)
  | exc c x => exact fun cls dd G2 H2 g2 xc => h cls dd G2 H2 (g.trans g2) xc
  | bad => exact h
theorem Af.imp {α : Type} {k : Kx} {σ : St} {G H : Hp} {r : R α} {P P' : α → Hp → Hp → Prop} (h : Af k σ G H r P) (i : ∀ a G' H', Gr G H G' H' → P a G' H' → P' a G' H') : Af k σ G H r P' := by
  cases r with
  | ok a => exact fun G2 H2 g2 => i a G2 H2 g2 (h G2 H2 g2)
  | exc c x => exact h
  | bad => exact h
theorem Af.bind {α β : Type} {k : Kx} {σ : St} {G H : Hp} {r : R α} {f : α → R β} {P : β → Hp → Hp → Prop} (h : Af k σ G H (r.bind f) P) : Af k σ G H r fun a G' H' => Af k σ G' H' (f a) P := by
  cases r with
  | ok a => exact fun G2 H2 g2 => Af.mono g2 h
  | exc c x => exact h
  | bad => exact h
theorem Af.of {α : Type} {k : Kx} {σ : St} {G H : Hp} {o : Option α} {P : α → Hp → Hp → Prop} (h : Af k σ G H (R.of o) P) : ∃ a, o = some a ∧ ∀ G' H', Gr G H G' H' → P a G' H' := by
  cases o with
  | some a => exact ⟨a, rfl, h⟩
  | none => exact h.elim

def tS (k : Kx) (m : Env → R D) : TE := fun σ H Q => ∃ ρ G, Sl k.K k.B ρ G σ H ∧ Af k σ G H (m ρ) fun d G' H' => ∀ v, Rp k.K G' v d → Q v H'
def tT (k : Kx) (m : Env → R Bool) : TT := fun σ H Q => ∃ ρ G, Sl k.K k.B ρ G σ H ∧ Af k σ G H (m ρ) fun b _ H' => Q b H'
def tA (k : Kx) (m : Env → R (List D)) : TA := fun σ H Q => ∃ ρ G, Sl k.K k.B ρ G σ H ∧ Af k σ G H (m ρ) fun ds G' H' => ∀ vs, RpA k.K G' vs ds → Q vs H'
/-- a new list of one's own -/
def tO (k : Kx) (m : Env → R (List D)) : TE := fun σ H Q => ∃ ρ G, Sl k.K k.B ρ G σ H ∧ Af k σ G H (m ρ) fun ds G' H' => ∀ p vs, H p = none → G' p = none → H' p = some (.lst vs) → RpA k.K G' vs ds → Q (.ref p) H'

/-- an expression computes -/
structure SE (X : Cx) (B : Bs) (W : WX) (e : Expr) (m : Env → R D) : Prop where
  pe : PE X e (tS (kx X B W) m)
structure ST (X : Cx) (B : Bs) (W : WX) (e : Expr) (m : Env → R Bool) : Prop where
  pt : PT X e (tT (kx X B W) m)
structure SWt (X : Cx) (B : Bs) (W : WX) (e : Expr) (m : Env → R Bool) : Prop where
  pw : PW X e (tT (kx X B W) m)
structure SA (X : Cx) (B : Bs) (W : WX) (es : List Expr) (m : Env → R (List D)) : Prop where
  pa : PA X es (tA (kx X B W) m)
structure SO (X : Cx) (B : Bs) (W : WX) (e : Expr) (m : Env → R (List D)) : Prop where
  pe : PE X e (tO (kx X B W) m)

section
variable {X : Cx} {B : Bs} {W : WX} {a b c e : Expr} {ma mb mc : Env → R D} {pos : Pos}
theorem _root_.L2.PE.imp {X : Cx} {e : Expr} {t t' : TE} (h : PE X e t) (i : ∀ σ H Q, t' σ H Q → t σ H Q) : PE X e t' := ⟨fun pins s σ H Q I q => h.run pins s σ H Q I (i σ H Q q)⟩
theorem _root_.L2.PT.imp {X : Cx} {e : Expr} {t t' : TT} (h : PT X e t) (i : ∀ σ H Q, t' σ H Q → t σ H Q) : PT X e t' := ⟨fun pins s σ H Q I q => h.run pins s σ H Q I (i σ H Q q)⟩
theorem _root_.L2.PW.imp {X : Cx} {e : Expr} {t t' : TT} (h : PW X e t) (i : ∀ σ H Q, t' σ H Q → t σ H Q) : PW X e t' := ⟨fun wh pins s σ H Q I q => h.run wh pins s σ H Q I (i σ H Q q)⟩
theorem _root_.L2.PA.imp {X : Cx} {e : List Expr} {t t' : TA} (h : PA X e t) (i : ∀ σ H Q, t' σ H Q → t σ H Q) : PA X e t' := ⟨fun pos pins s σ H Q I q => h.run pos pins s σ H Q I (i σ H Q q)⟩
theorem _root_.L2.PS.imp {X : Cx} {e : Stmt} {t t' : TS} (h : PS X e t) (i : ∀ D σ H, t' D σ H → t D σ H) : PS X e t' := ⟨fun pins s σ H D I q => h.run pins s σ H D I (i D σ H q)⟩
theorem _root_.L2.PSs.imp {X : Cx} {e : List Stmt} {t t' : TS} (h : PSs X e t) (i : ∀ D σ H, t' D σ H → t D σ H) : PSs X e t' := ⟨fun pins s σ H D I q => h.run pins s σ H D I (i D σ H q)⟩

/-! ### names, constants -/
/-- the i-th name -/
def v (i : Nat) : Env → R D := fun ρ => match ρ[i]? with
  | some (.dat d) => .ok d
  | _ => .bad
def k (d : D) : Env → R D := fun _ => .ok d
theorem se_v (i : Nat) {x : Str} (hN : X.N[i]? = some x := by rfl) (hv : Vis X.env.scope x := by first | exact Or.inl rfl | exact Or.inr (Or.inl rfl) | exact Or.inr (Or.inr rfl)) (hd : (x == ("__debug__" : Str)) = false := by decide)
    (hcd : (x == ("__classdict__" : Str)) = false := by decide) : SE X B W (.Name x pos) (v i) := ⟨(pe_var hN hv hd hcd).imp fun σ H Q ⟨ρ, G, s, h⟩ => by
  unfold v at h
  cases e : ρ[i]? with
  | none => rw [e] at h; exact h.elim
  | some sl =>
    rw [e] at h
    cases sl with
    | dat d => obtain ⟨w, h1, h2⟩ := s.dat i d e; exact ⟨w, h1, h G H (Gr.refl s.same) w h2⟩
    | no => exact h.elim
    | ol _ => exact h.elim
    | od _ => exact h.elim
    | fx _ _ => exact h.elim⟩
theorem se_c {e : Expr} {w : V} {d : D} (h : PE X e (tC w)) (r : ∀ G, Rp X.K G w d) : SE X B W e (k d) := ⟨h.imp fun σ H Q ⟨ρ, G, s, h⟩ => h G H (Gr.refl s.same) w (r G)⟩
theorem se_i {i : Int} {j : Nat} : SE X B W (.Constant (.int i) j pos) (k (.int i)) := se_c pe_int fun _ => .int i
theorem se_b {i : Bool} {j : Nat} : SE X B W (.Constant (.bool i) j pos) (k (.bool i)) := se_c pe_bl fun _ => .bl i
theorem se_n {j : Nat} : SE X B W (.Constant .none j pos) (k .none) := se_c pe_non fun _ => .non
theorem se_s {i : Str} {j : Nat} : SE X B W (.Constant (.str i) j pos) (k (.str i)) := se_c pe_str fun _ => .str i
/-- a text or a number of the module -/
theorem se_gs {x z : Str} (hm : ∃ t, X.mg x = some (.str z t)) (hg : Gl X x := by rfl) (hdb : (x == ("__debug__" : Str)) = false := by decide) : SE X B W (.Name x pos) (k (.str z)) := se_c (pe_glob (v := V.str z) hg hm.choose_spec ⟨_, rfl⟩ hdb) fun _ => .str z
theorem se_gi {x : Str} {z : Int} (hm : ∃ t, X.mg x = some (.int z t)) (hg : Gl X x := by rfl) (hdb : (x == ("__debug__" : Str)) = false := by decide) : SE X B W (.Name x pos) (k (.int z)) := se_c (pe_glob (v := V.int z) hg hm.choose_spec ⟨_, rfl⟩ hdb) fun _ => .int z

/-! ### operators -/
def e2 (f : D → D → Option D) (ma mb : Env → R D) : Env → R D := fun ρ => (ma ρ).bind fun x => (mb ρ).bind fun y => R.of (f x y)
def e1 (f : D → Option D) (ma : Env → R D) : Env → R D := fun ρ => (ma ρ).bind fun x => R.of (f x)
/-- a reading by values does what f does -/
def OkOp (K : PySem.W.Frag) (r : R2) (f : D → D → Option D) : Prop := ∀ (G H : Hp) (x y : V) (d e z : D) (Q : VK), Same G H → Rp K G x d → Rp K G y e → f d e = some z → (∀ G' H', Gr G H G' H' → ∀ w, Rp K G' w z → Q w H') → r x y H Q
def OkUn (K : PySem.W.Frag) (r : V → Hp → VK → Prop) (f : D → Option D) : Prop := ∀ (G H : Hp) (x : V) (d z : D) (Q : VK), Same G H → Rp K G x d → f d = some z → (∀ G' H', Gr G H G' H' → ∀ w, Rp K G' w z → Q w H') → r x H Q
theorem op2 {r : R2} {f : D → D → Option D} (ok : OkOp X.K r f) {σ : St} {H : Hp} {Q : VK} (h : tS (kx X B W) (e2 f ma mb) σ H Q) : tOp r (tS (kx X B W) ma) (tS (kx X B W) mb) σ H Q := by
  obtain ⟨ρ, G, s, h⟩ := h
  refine ⟨ρ, G, s, (Af.bind h).imp fun d G1 H1 g1 h1 v1 r1 => ?_⟩
  refine ⟨ρ, G1, s.step g1, (Af.bind h1).imp fun d2 G2 H2 g2 h2 v2 r2 => ?_⟩
  obtain ⟨z, hz, hq⟩ := Af.of h2
  exact ok G2 H2 v1 v2 d d2 z Q g2.gh (r1.mono g2.g) r2 hz hq
theorem un1 {r : V → Hp → VK → Prop} {f : D → Option D} (ok : OkUn X.K r f) {σ : St} {H : Hp} {Q : VK} (h : tS (kx X B W) (e1 f ma) σ H Q) : tUn r (tS (kx X B W) ma) σ H Q := by
  obtain ⟨ρ, G, s, h⟩ := h
  refine ⟨ρ, G, s, (Af.bind h).imp fun d G1 H1 g1 h1 v1 r1 => ?_⟩
  obtain ⟨z, hz, hq⟩ := Af.of h1
  exact ok G1 H1 v1 d z Q g1.gh r1 hz hq
theorem se_bin {op : Operator} {r : R2} {f : D → D → Option D} (ho : OpR X (binaryOp op) r) (ok : OkOp X.K r f) (ha : SE X B W a ma) (hb : SE X B W b mb) : SE X B W (.BinOp a op b pos) (e2 f ma mb) := ⟨(pe_op ho ha.pe hb.pe).imp fun _ _ _ h => op2 ok h⟩
theorem se_un {op : UnaryOp} {r : V → Hp → VK → Prop} {f : D → Option D} (ho : UnR X (unaryOp op) r) (ok : OkUn X.K r f) (ha : SE X B W a ma) : SE X B W (.UnaryOp op a pos) (e1 f ma) := ⟨(pe_un ho ha.pe).imp fun _ _ _ h => un1 ok h⟩
theorem se_cmpG {op : CmpOp} {r : R2} {f : D → D → Option D} (ho : OpR X (compareOp op) r) (ok : OkOp X.K r f) (hm : behindInMarks op b = false) (ha : SE X B W a ma) (hb : SE X B W b mb) : SE X B W (.Compare a [op] [b] pos) (e2 f ma mb) := ⟨(pe_cmpR ho ha.pe hb.pe hm).imp fun _ _ _ h => op2 ok h⟩
/-- a bool as a test -/
def asB : D → Option Bool
  | .bool b => some b
  | _ => none
def tst (m : Env → R D) : Env → R Bool := fun ρ => (m ρ).bind fun d => R.of (asB d)
theorem tst_of {k : Kx} {m : Env → R D} {σ : St} {H : Hp} {Q : Bool → Hp → Prop} (h : tT k (tst m) σ H Q) : tS k m σ H fun x H' => ∃ b, x = .bl b ∧ Q b H' := by
  obtain ⟨ρ, G, s, h⟩ := h
  refine ⟨ρ, G, s, (Af.bind h).imp fun d G1 H1 g1 h1 v1 r1 => ?_⟩
  obtain ⟨z, hz, hq⟩ := Af.of h1
  cases r1 with
  | bl b' => exact ⟨z, congrArg V.bl (Option.some.inj hz), hq G1 H1 (Gr.refl g1.gh)⟩
  | _ => cases hz
theorem st_cmpG {op : CmpOp} {r : R2} {f : D → D → Option D} (ho : OpR X (compareOp op) r) (ok : OkOp X.K r f) (hm : behindInMarks op b = false) (ha : SE X B W a ma) (hb : SE X B W b mb) : ST X B W (.Compare a [op] [b] pos) (tst (e2 f ma mb)) :=
  ⟨(pt_cmpR ho ha.pe hb.pe hm).imp fun _ _ _ h => op2 ok (tst_of h)⟩
/-- an expression that gives True or False, as a test -/
theorem st_val (h : SE X B W e ma) (he : ∀ whole, isTrue e X.env whole = (do let v ← whole; standAt e.pos; holding [v] (truthy v)) := by intro _; rfl) : ST X B W e (tst ma) := ⟨(pt_val h.pe he).imp fun _ _ _ h => tst_of h⟩

/-! ### tests -/
variable {m n : Env → R Bool} {rest : List Expr}
def tand (m n : Env → R Bool) : Env → R Bool := fun ρ => (m ρ).bind fun b => if b = true then n ρ else .ok false
def tor (m n : Env → R Bool) : Env → R Bool := fun ρ => (m ρ).bind fun b => if b = true then .ok true else n ρ
def tnot (m : Env → R Bool) : Env → R Bool := fun ρ => (m ρ).bind fun b => .ok (!b)
theorem st_w (h : SWt X B W e m) : ST X B W e m := ⟨h.pw.pt⟩
theorem sw_and1 (h : ST X B W a m) : SWt X B W (.BoolOp .And [a] pos) m := ⟨pw_and1 h.pt⟩
theorem sw_or1 (h : ST X B W a m) : SWt X B W (.BoolOp .Or [a] pos) m := ⟨pw_or1 h.pt⟩
theorem sw_and (h : ST X B W a m) (h2 : SWt X B W (.BoolOp .And (b :: rest) pos) n) : SWt X B W (.BoolOp .And (a :: b :: rest) pos) (tand m n) := ⟨(pw_and h.pt h2.pw).imp fun σ H Q ⟨ρ, G, s, h⟩ => by
  refine ⟨ρ, G, s, (Af.bind h).imp fun d G1 H1 g1 h1 => ?_⟩
  cases d with
  | true => exact iteT ⟨ρ, G1, s.step g1, h1⟩
  | false => exact iteF (h1 G1 H1 (Gr.refl g1.gh))⟩
theorem sw_or (h : ST X B W a m) (h2 : SWt X B W (.BoolOp .Or (b :: rest) pos) n) : SWt X B W (.BoolOp .Or (a :: b :: rest) pos) (tor m n) := ⟨(pw_or h.pt h2.pw).imp fun σ H Q ⟨ρ, G, s, h⟩ => by
  refine ⟨ρ, G, s, (Af.bind h).imp fun d G1 H1 g1 h1 => ?_⟩
  cases d with
  | true => exact iteT (h1 G1 H1 (Gr.refl g1.gh))
  | false => exact iteF ⟨ρ, G1, s.step g1, h1⟩⟩
theorem st_not (h : ST X B W a m) : ST X B W (.UnaryOp .Not a pos) (tnot m) := ⟨(pt_not h.pt).imp fun σ H Q ⟨ρ, G, s, h⟩ => ⟨ρ, G, s, (Af.bind h).imp fun d G1 H1 g1 h1 => h1 G1 H1 (Gr.refl g1.gh)⟩⟩
/-! .. as values -/
def ofB (m : Env → R Bool) : Env → R D := fun ρ => (m ρ).bind fun b => .ok (.bool b)
def eand (m n : Env → R D) : Env → R D := fun ρ => (tst m ρ).bind fun b => if b = true then n ρ else .ok (.bool false)
def eor (m n : Env → R D) : Env → R D := fun ρ => (tst m ρ).bind fun b => if b = true then .ok (.bool true) else n ρ
def enot (m : Env → R D) : Env → R D := fun ρ => (tst m ρ).bind fun b => .ok (.bool (!b))
theorem af_tst {kk : Kx} {σ : St} {G H : Hp} {m : Env → R D} {ρ : Env} {α : Type} {f : Bool → R α} {P : α → Hp → Hp → Prop} (h : Af kk σ G H ((tst m ρ).bind f) P) : Af kk σ G H (m ρ) fun d G' H' => ∀ w, Rp kk.K G' w d → ∃ b, w = .bl b ∧ Af kk σ G' H' (f b) P := by
  have h := Af.bind h
  unfold tst at h
  refine (Af.bind h).imp fun d G1 H1 g1 h1 w r => ?_
  obtain ⟨z, hz, hq⟩ := Af.of h1
  cases r with
  | bl b' => exact ⟨z, congrArg V.bl (Option.some.inj hz), hq G1 H1 (Gr.refl g1.gh)⟩
  | _ => cases hz
theorem se_and1 {op : BoolOp} (h : SE X B W a ma) : SE X B W (.BoolOp op [a] pos) ma := ⟨pe_one h.pe⟩
theorem se_and (h : SE X B W a ma) (h2 : SE X B W (.BoolOp .And (b :: rest) pos) mb) : SE X B W (.BoolOp .And (a :: b :: rest) pos) (eand ma mb) := ⟨(pe_and h.pe h2.pe).imp fun σ H Q ⟨ρ, G, s, h⟩ => by
  refine ⟨ρ, G, s, (af_tst h).imp fun d G1 H1 g1 h1 w r => ?_⟩
  obtain ⟨b, rfl, h2⟩ := h1 w r
  refine ⟨b, rfl, ?_⟩
  cases b with
  | true => exact iteT ⟨ρ, G1, s.step g1, h2⟩
  | false => exact iteF (h2 G1 H1 (Gr.refl g1.gh) _ (.bl false))⟩
theorem se_or (h : SE X B W a ma) (h2 : SE X B W (.BoolOp .Or (b :: rest) pos) mb) : SE X B W (.BoolOp .Or (a :: b :: rest) pos) (eor ma mb) := ⟨(pe_or h.pe h2.pe).imp fun σ H Q ⟨ρ, G, s, h⟩ => by
  refine ⟨ρ, G, s, (af_tst h).imp fun d G1 H1 g1 h1 w r => ?_⟩
  obtain ⟨b, rfl, h2⟩ := h1 w r
  refine ⟨b, rfl, ?_⟩
  cases b with
  | true => exact iteT (h2 G1 H1 (Gr.refl g1.gh) _ (.bl true))
  | false => exact iteF ⟨ρ, G1, s.step g1, h2⟩⟩
theorem se_not (h : SE X B W a ma) : SE X B W (.UnaryOp .Not a pos) (enot ma) := ⟨(pe_not h.pe).imp fun σ H Q ⟨ρ, G, s, h⟩ => by
  refine ⟨ρ, G, s, (af_tst h).imp fun d G1 H1 g1 h1 w r => ?_⟩
  obtain ⟨b, rfl, h2⟩ := h1 w r
  exact ⟨b, rfl, h2 G1 H1 (Gr.refl g1.gh) _ (.bl _)⟩⟩
def eif (m : Env → R Bool) (a b : Env → R D) : Env → R D := fun ρ => (m ρ).bind fun c => if c = true then a ρ else b ρ
theorem se_if (h : ST X B W c m) (ha : SE X B W a ma) (hb : SE X B W b mb) : SE X B W (.IfExp c a b pos) (eif m ma mb) := ⟨(pe_ifExp h.pt ha.pe hb.pe).imp fun σ H Q ⟨ρ, G, s, h⟩ => by
  refine ⟨ρ, G, s, (Af.bind h).imp fun d G1 H1 g1 h1 => ?_⟩
  cases d with
  | true => exact iteT ⟨ρ, G1, s.step g1, h1⟩
  | false => exact iteF ⟨ρ, G1, s.step g1, h1⟩⟩

/-! ### arguments, displays -/
def anil : Env → R (List D) := fun _ => .ok []
def acons (m : Env → R D) (n : Env → R (List D)) : Env → R (List D) := fun ρ => (m ρ).bind fun d => (n ρ).bind fun ds => .ok (d :: ds)
variable {es : List Expr} {mas : Env → R (List D)}
theorem sa_nil : SA X B W [] anil := ⟨pa_nil.imp fun σ H Q ⟨ρ, G, s, h⟩ => h G H (Gr.refl s.same) [] .nil⟩
theorem sa_cons (ha : SE X B W a ma) (hs : SA X B W es mas) (he : starEach (a :: es) X.env = (false, eval a X.env) :: starEach es X.env := by rfl) : SA X B W (a :: es) (acons ma mas) := ⟨(pa_cons ha.pe hs.pa he).imp fun σ H Q ⟨ρ, G, s, h⟩ => by
  refine ⟨ρ, G, s, (Af.bind h).imp fun d G1 H1 g1 h1 v1 r1 => ?_⟩
  refine ⟨ρ, G1, s.step g1, (Af.bind h1).imp fun ds G2 H2 g2 h2 vs r2 => ?_⟩
  exact h2 G2 H2 (Gr.refl g2.gh) (v1 :: vs) (.cons (r1.mono g2.g) r2)⟩
/-- the longest list, text that is spoken of -/
def most : Nat := 100000
theorem most_ok {n : Nat} (h : n ≤ most) : n ≤ sizeLine := Nat.le_trans h (by decide)
theorem most_lt {n : Nat} (h : n < most) : n < sizeLine := Nat.lt_of_lt_of_le h (by decide)
def etup (m : Env → R (List D)) : Env → R D := fun ρ => (m ρ).bind fun ds => if ds.length ≤ most then .ok (.tuple ds) else .bad
def elst (m : Env → R (List D)) : Env → R D := fun ρ => (m ρ).bind fun ds => .ok (.list ds)
def olst (m : Env → R (List D)) : Env → R (List D) := fun ρ => (m ρ).bind fun ds => if ds.length ≤ most then .ok ds else .bad
theorem se_tup {x1 : Nat} (hs : SA X B W es mas) : SE X B W (.Tuple es x1 pos) (etup mas) := ⟨(pe_tup hs.pa).imp fun σ H Q ⟨ρ, G, s, h⟩ => by
  refine ⟨ρ, G, s, (Af.bind h).imp fun ds G1 H1 g1 h1 vs r => ?_⟩
  by_cases hl : ds.length ≤ most
  · rw [if_pos hl] at h1
    refine ⟨by rw [r.len]; exact most_ok hl, fun p hp => ?_⟩
    have g2 := Gr.new (o := .tup vs) g1.gh hp
    exact h1 _ _ g2 _ (.tup upd_same (r.mono g2.g))
  · rw [if_neg hl] at h1; exact h1.elim⟩
theorem so_lst (hs : SA X B W es mas) : SO X B W (.List es pos) (olst mas) := ⟨(pe_lst hs.pa).imp fun σ H Q ⟨ρ, G, s, h⟩ => by
  refine ⟨ρ, G, s, (Af.bind h).imp fun ds G1 H1 g1 h1 vs r => ?_⟩
  by_cases hl : ds.length ≤ most
  · rw [if_pos hl] at h1
    refine ⟨by rw [r.len]; exact most_ok hl, fun p hp => ?_⟩
    have g2 := Gr.own (o := .lst vs) g1.gh hp
    refine h1 _ _ g2 p vs (g1.h.free hp) ?_ upd_same r
    cases q : G1 p with
    | none => rfl
    | some o => rw [g1.gh _ _ q] at hp; cases hp
  · rw [if_neg hl] at h1; exact h1.elim⟩
/-- one's own list, made known -/
theorem se_o {mo : Env → R (List D)} (h : SO X B W e mo) : SE X B W e (elst mo) := ⟨h.pe.imp fun σ H Q ⟨ρ, G, s, h⟩ => by
  refine ⟨ρ, G, s, ?_⟩
  unfold elst at h
  cases em : mo ρ with
  | ok ds =>
    rw [em] at h
    intro G1 H1 g1 p vs h0 hg hp r
    have sm : Same G1 (upd G1 p (.lst vs)) := fun b u q => by rw [upd_ne (ne_of_none q hg)]; exact q
    exact h _ _ (g1.freeze h0 hg hp) _ (.lst (SqL.of upd_same) (r.mono sm))
  | exc c x => rw [em] at h; exact h
  | bad => rw [em] at h; exact h⟩
end
end Q

set_option maxHeartbeats 1000000
/-! # Qc: statements, blocks, stores, targets, loops, comprehensions -/
namespace Q
open PySem L2

/-- what a def's body or a block stands in -/
structure Cxt (X : Cx) (W : WX) : Prop where
  calm : X.calm = true
  nd : X.N.Nodup
  tk : Takes X W
  po : PassesOwn (model X.prog X.w) X.A X.env X.xe

/-- how a statement ends -/
inductive Out where
  | nx (ρ : Env)
  | bk (ρ : Env)
  | ct (ρ : Env)
  | rt (d : D)
  | rl (ds : List D)
  | exc (c : String) (a : D) (ρ : Env)
  | bad
abbrev SM := Env → Out
def AfS (k : Kx) (D' : Ends) (G : Hp) : Out → Prop
  | .nx ρ => ∀ σ G' H, Sl k.K k.B ρ G' σ H → Same G G' → D'.nx σ H
  | .bk ρ => ∀ σ G' H, Sl k.K k.B ρ G' σ H → Same G G' → D'.bk σ H
  | .ct ρ => ∀ σ G' H, Sl k.K k.B ρ G' σ H → Same G G' → D'.ct σ H
  | .rt d => ∀ v G' H, Gr k.B.G0 k.B.H0 G' H → Rp k.K G' v d → D'.rt v H
  | .rl ds => ∀ p vs G' H, Gr k.B.G0 k.B.H0 G' H → k.B.H0 p = none → G' p = none → H p = some (.lst vs) → RpA k.K G' vs ds → D'.rt (.ref p) H
  | .exc c a ρ => ∀ cls dd σ G' H, Sl k.K k.B ρ G' σ H → Same G G' → Xc k.K k.mg c a cls dd G' H → k.W cls dd σ H
  | .bad => False
theorem AfS.mono {k : Kx} {D' : Ends} {G G1 : Hp} {o : Out} (e : Same G G1) (h : AfS k D' G o) : AfS k D' G1 o := by
  cases o with
  | nx ρ => exact fun σ G' H s q => h σ G' H s (e.trans q)
  | bk ρ => exact fun σ G' H s q => h σ G' H s (e.trans q)
  | ct ρ => exact fun σ G' H s q => h σ G' H s (e.trans q)
  | rt d => exact h
  | rl d => exact h
  | exc c a ρ => exact fun cls dd σ G' H s q xc => h cls dd σ G' H s (e.trans q) xc
  | bad => exact h
def tSt (k : Kx) (m : SM) : TS := fun D' σ H => ∃ ρ G, Sl k.K k.B ρ G σ H ∧ AfS k D' G (m ρ)
structure SS (X : Cx) (B : Bs) (W : WX) (s : Stmt) (m : SM) : Prop where
  ps : PS X s (tSt (kx X B W) m)
structure SSs (X : Cx) (B : Bs) (W : WX) (s : List Stmt) (m : SM) : Prop where
  ps : PSs X s (tSt (kx X B W) m)

/-- behind an expression's result -/
def R.go {α : Type} (r : R α) (ρ : Env) (f : α → Out) : Out := match r with
  | .ok a => f a
  | .exc c x => .exc c x ρ
  | .bad => .bad
@[simp] theorem R.go_ok {α : Type} (a : α) (ρ : Env) (f : α → Out) : (R.ok a).go ρ f = f a := rfl
@[simp] theorem R.go_exc {α : Type} (c : String) (x : D) (ρ : Env) (f : α → Out) : (R.exc c x : R α).go ρ f = .exc c x ρ := rfl
@[simp] theorem R.go_bad {α : Type} (ρ : Env) (f : α → Out) : (R.bad : R α).go ρ f = .bad := rfl
theorem Af.go {α : Type} {k : Kx} {D' : Ends} {ρ : Env} {σ : St} {G H : Hp} {r : R α} {f : α → Out} (s : Sl k.K k.B ρ G σ H) (h : AfS k D' G (r.go ρ f)) : Af k σ G H r fun a G' _ => AfS k D' G' (f a) := by
  cases r with
  | ok a => exact fun _ _ g => AfS.mono g.g h
  | exc c x => exact fun cls dd G2 H2 g2 xc => h cls dd σ G2 H2 (s.step g2) g2.g xc
  | bad => exact h

section
variable {X : Cx} {B : Bs} {W : WX} {a b c e : Expr} {ma mb mc : Env → R D} {mt : Env → R Bool} {mo : Env → R (List D)} {pos : Pos} {st : Stmt} {rest sts sts' : List Stmt} {m n : SM}

/-! ### blocks -/
def pass : SM := fun ρ => .nx ρ
def seq (m n : SM) : SM := fun ρ => match m ρ with
  | .nx ρ' => n ρ'
  | o => o
theorem sb_nil : SSs X B W [] pass := ⟨pss_nil.imp fun D' σ H ⟨ρ, G, s, h⟩ => h σ G H s (Same.refl G)⟩
theorem AfS.seq {k : Kx} {D' : Ends} {G : Hp} {ρ : Env} {m n : SM} (h : AfS k D' G (Q.seq m n ρ)) : AfS k { D' with nx := tSt k n D' } G (m ρ) := by
  unfold Q.seq at h
  cases e : m ρ with
  | nx ρ' => rw [e] at h; exact fun σ G' H s q => ⟨ρ', G', s, AfS.mono q h⟩
  | bk ρ' => rw [e] at h; exact h
  | ct ρ' => rw [e] at h; exact h
  | rt d => rw [e] at h; exact h
  | rl d => rw [e] at h; exact h
  | exc c a ρ' => rw [e] at h; exact h
  | bad => rw [e] at h; exact h
theorem sb_cons (h1 : SS X B W st m) (h2 : SSs X B W rest n) : SSs X B W (st :: rest) (seq m n) := ⟨(pss_cons h1.ps h2.ps).imp fun D' σ H ⟨ρ, G, s, h⟩ => ⟨ρ, G, s, h.seq⟩⟩
theorem sb_one (h1 : SS X B W st m) : SSs X B W [st] m := ⟨pss_one h1.ps⟩
/-- ahead of a block: slot i's own becomes known -/
def fz (i : Nat) (m : SM) : SM := fun ρ => m (frz i ρ)
theorem Same.fz {G : Hp} {p : Addr} {o : HO} (h : G p = none) : Same G (upd G p o) := fun b u q => by rw [upd_ne (ne_of_none q h)]; exact q
theorem fz_t {k : Kx} {i : Nat} {m : SM} {D' : Ends} {σ : St} {H : Hp} (h : tSt k (fz i m) D' σ H) : tSt k m D' σ H := by
  obtain ⟨ρ, G, s, h⟩ := h
  rcases s.frz i with ⟨p, o, _, _, _, hg, _, s'⟩ | e
  · exact ⟨_, _, s', AfS.mono (Same.fz hg) h⟩
  · unfold fz at h; rw [e] at h; exact ⟨ρ, G, s, h⟩
theorem sb_fz (i : Nat) (h : SSs X B W sts m) : SSs X B W sts (fz i m) := ⟨h.ps.imp fun _ _ _ q => fz_t q⟩
theorem ss_fz (i : Nat) (h : SS X B W st m) : SS X B W st (fz i m) := ⟨h.ps.imp fun _ _ _ q => fz_t q⟩
/-- what is never reached -/
def never : SM := fun _ => .bad
theorem ss_never : SS X B W st never := ⟨ps_never.imp fun _ _ _ ⟨_, _, _, h⟩ => h⟩
theorem sb_never : SSs X B W sts never := ⟨pss_never.imp fun _ _ _ ⟨_, _, _, h⟩ => h⟩

/-! ### plain statements -/
theorem ss_pass : SS X B W (.Pass pos) pass := ⟨ps_pass.imp fun D' σ H ⟨ρ, G, s, h⟩ => h σ G H s (Same.refl G)⟩
def brk : SM := fun ρ => .bk ρ
def cnt : SM := fun ρ => .ct ρ
theorem ss_brk : SS X B W (.Break pos) brk := ⟨ps_break.imp fun D' σ H ⟨ρ, G, s, h⟩ => h σ G H s (Same.refl G)⟩
theorem ss_cnt : SS X B W (.Continue pos) cnt := ⟨ps_continue.imp fun D' σ H ⟨ρ, G, s, h⟩ => h σ G H s (Same.refl G)⟩
def ret (m : Env → R D) : SM := fun ρ => (m ρ).go ρ fun d => .rt d
def retO (m : Env → R (List D)) : SM := fun ρ => (m ρ).go ρ fun d => .rl d
theorem ss_ret (h : SE X B W e ma) : SS X B W (.Return (some e) pos) (ret ma) := ⟨(ps_ret h.pe).imp fun D' σ H ⟨ρ, G, s, h⟩ => ⟨ρ, G, s, (Af.go s h).imp fun d G1 H1 g1 h1 v r => h1 v G1 H1 (s.gr.trans g1) r⟩⟩
theorem ss_retO (h : SO X B W e mo) : SS X B W (.Return (some e) pos) (retO mo) := ⟨(ps_ret h.pe).imp fun D' σ H ⟨ρ, G, s, h⟩ => ⟨ρ, G, s, (Af.go s h).imp fun d G1 H1 g1 h1 p vs h0 hg hp r => h1 p vs G1 H1 (s.gr.trans g1) (s.gr.h.free h0) hg hp r⟩⟩
/-- return of one's own list by its name -/
def retV (i : Nat) : SM := fun ρ => match ρ[i]? with
  | some (.ol ds) => .rl ds
  | _ => .bad
theorem ss_retV (i : Nat) {x : Str} {p : Pos} (hN : X.N[i]? = some x := by rfl) (hv : Vis X.env.scope x := by first | exact Or.inl rfl | exact Or.inr (Or.inl rfl) | exact Or.inr (Or.inr rfl)) (hd : (x == ("__debug__" : Str)) = false := by decide)
    (hcd : (x == ("__classdict__" : Str)) = false := by decide) : SS X B W (.Return (some (.Name x p)) pos) (retV i) := ⟨(ps_ret (pe_var hN hv hd hcd)).imp fun D' σ H ⟨ρ, G, s, h⟩ => by
  unfold retV at h
  cases e : ρ[i]? with
  | none => rw [e] at h; exact h.elim
  | some sl =>
    rw [e] at h
    cases sl with
    | ol ds => obtain ⟨p, vs, h1, h2, h3, h4, h5⟩ := s.ol i ds e; exact ⟨_, h1, h p vs G H s.gr h2 h3 h4 h5⟩
    | no => exact h.elim
    | dat _ => exact h.elim
    | od _ => exact h.elim
    | fx _ _ => exact h.elim⟩
def retN : SM := fun _ => .rt .none
theorem ss_retN : SS X B W (.Return none pos) retN := ⟨ps_retN.imp fun D' σ H ⟨ρ, G, s, h⟩ => h .non G H s.gr .non⟩
def drop (m : Env → R D) : SM := fun ρ => (m ρ).go ρ fun _ => .nx ρ
theorem ss_expr (h : SE X B W e ma) (hs : swapsWith e none pos.line X.env = pure false := by rfl) : SS X B W (.Expr e pos) (drop ma) := ⟨(ps_expr h.pe hs).imp fun D' σ H ⟨ρ, G, s, h⟩ => ⟨ρ, G, s, (Af.go s h).imp fun d G1 H1 g1 h1 v r => h1 σ G1 H1 (s.step g1) (Same.refl _)⟩⟩
def ite (c : Env → R Bool) (m n : SM) : SM := fun ρ => (c ρ).go ρ fun b => if b = true then m ρ else n ρ
theorem ss_if (hc : ST X B W c mt) (h1 : SSs X B W sts m) (h2 : SSs X B W sts' n) : SS X B W (.If c sts sts' pos) (ite mt m n) := ⟨(ps_if hc.pt h1.ps h2.ps).imp fun D' σ H ⟨ρ, G, s, h⟩ => by
  refine ⟨ρ, G, s, (Af.go s h).imp fun d G1 H1 g1 h1 => ?_⟩
  cases d with
  | true => exact iteT ⟨ρ, G1, s.step g1, h1⟩
  | false => exact iteF ⟨ρ, G1, s.step g1, h1⟩⟩

/-! ### stores at names -/
def setB (i : Nat) (m : Env → R D) : SM := fun ρ => (m ρ).go ρ fun d => .nx (ρ.set i (.dat d))
theorem ss_set (i : Nat) {x : Str} {p : Pos} (C : Cxt X W) (h : SE X B W e ma) (hi : X.N[i]? = some x := by rfl) (hx : Loc X.env.scope x := by first | exact Or.inl rfl | exact Or.inr rfl) (hs : swapsWith e (some (.Name x p)) pos.line X.env = pure false := by rfl)
    (hf : X.fn x = true ∨ X.env.scope.names.lookup x = some .local := by first | exact .inl rfl | exact .inr rfl) : SS X B W (.Assign [.Name x p] e pos) (setB i ma) :=
  ⟨(ps_set C.nd hi hx h.pe hs hf).imp fun D' σ H ⟨ρ, G, s, h⟩ => ⟨ρ, G, s, (Af.go s h).imp fun d G1 H1 g1 h1 v r => h1 _ G1 H1 ((s.step g1).set r i) (Same.refl _)⟩⟩
/-- a new list of one's own -/
def setO (i : Nat) (m : Env → R (List D)) : SM := fun ρ => (m ρ).go ρ fun ds => .nx (ρ.set i (.ol ds))
theorem setO_t {k : Kx} {D' : Ends} {σ : St} {H : Hp} {i : Nat} {m : Env → R (List D)} (h : tSt k (setO i m) D' σ H) : tO k m σ H fun x H1 => gName i x σ H1 D'.nx := by
  obtain ⟨ρ, G, s, h⟩ := h
  refine ⟨ρ, G, s, (Af.go s h).imp fun ds G1 H1 g1 h1 p vs h0 hg hp r => h1 _ G1 H1 ((s.step g1).setL (s.gr.h.free h0) hg hp r i fun j hj ho z => ?_) (Same.refl _)⟩
  obtain ⟨q, hq, _, hH, _⟩ := s.owH ho
  rw [z] at hq; cases hq
  exact hH h0
theorem ss_setO (i : Nat) {x : Str} {p : Pos} (C : Cxt X W) (h : SO X B W e mo) (hi : X.N[i]? = some x := by rfl) (hx : Loc X.env.scope x := by first | exact Or.inl rfl | exact Or.inr rfl) (hs : swapsWith e (some (.Name x p)) pos.line X.env = pure false := by rfl)
    (hf : X.fn x = true ∨ X.env.scope.names.lookup x = some .local := by first | exact .inl rfl | exact .inr rfl) : SS X B W (.Assign [.Name x p] e pos) (setO i mo) :=
  ⟨(ps_set C.nd hi hx h.pe hs hf).imp fun D' σ H q => setO_t q⟩
/-- a new dict of one's own -/
def setD (i : Nat) : SM := fun ρ => .nx (ρ.set i (.od []))
theorem ss_setD (i : Nat) {x : Str} {p q : Pos} (C : Cxt X W) (hi : X.N[i]? = some x := by rfl) (hx : Loc X.env.scope x := by first | exact Or.inl rfl | exact Or.inr rfl) (hs : swapsWith (.Dict [] [] q) (some (.Name x p)) pos.line X.env = pure false := by rfl)
    (hf : X.fn x = true ∨ X.env.scope.names.lookup x = some .local := by first | exact .inl rfl | exact .inr rfl) : SS X B W (.Assign [.Name x p] (.Dict [] [] q) pos) (setD i) :=
  ⟨(ps_set C.nd hi hx pe_dnewT hs hf).imp fun D' σ H ⟨ρ, G, s, h⟩ p hp => by
    have g := Gr.own (o := .dT []) s.gr.gh hp
    refine h _ G (upd H p (.dT [])) ((s.step g).setD (s.gr.h.free hp) ?_ upd_same .nil i fun j hj ho z => ?_) (Same.refl _)
    · cases q : G p with
      | none => rfl
      | some o => rw [s.gr.gh _ _ q] at hp; cases hp
    · obtain ⟨q, hq, _, hH, _⟩ := s.owH ho
      rw [z] at hq; cases hq
      exact hH hp⟩

/-! ### targets -/
/-- where an item goes -/
abbrev Bd := D → Env → Option Env
/-- the slots but those of vs are as they were -/
def Kept (vs : List Nat) (σ σ' : St) : Prop := σ'.length = σ.length ∧ ∀ j, j ∉ vs → σ'[j]? = σ[j]?
theorem Kept.refl (vs : List Nat) (σ : St) : Kept vs σ σ := ⟨rfl, fun _ _ => rfl⟩
theorem Kept.trans {vs : List Nat} {σ σ1 σ2 : St} (a : Kept vs σ σ1) (b : Kept vs σ1 σ2) : Kept vs σ σ2 := ⟨b.1.trans a.1, fun j hj => (b.2 j hj).trans (a.2 j hj)⟩
theorem Kept.mono {vs ws : List Nat} {σ σ1 : St} (a : Kept vs σ σ1) (h : ∀ i ∈ vs, i ∈ ws) : Kept ws σ σ1 := ⟨a.1, fun j hj => a.2 j fun z => hj (h j z)⟩
theorem wipe_get {σ : St} {j : Nat} : ∀ {vs : List Nat}, j ∈ vs → (wipe σ vs)[j]? = if j < σ.length then some none else none
  | w :: vs, h => by
    unfold wipe
    by_cases e : w = j
    · subst e
      by_cases hl : w < σ.length
      · rw [List.getElem?_set_self (by rw [wipe_length]; exact hl), if_pos hl]
      · rw [List.getElem?_eq_none (by simp [wipe_length]; omega), if_neg hl]
    · rw [List.getElem?_set_ne e]
      exact wipe_get (by simpa [Ne.symm e] using h)
theorem Kept.wipe {vs : List Nat} {σ σ' : St} (h : Kept vs (wipe σ vs) σ') : L2.wipe σ' vs = L2.wipe σ vs := by
  apply List.ext_getElem?
  intro j
  by_cases hj : j ∈ vs
  · rw [wipe_get hj, wipe_get hj, h.1, wipe_length]
  · rw [wipe_out hj, h.2 j hj]
def tG (K : PySem.W.Frag) (B : Bs) (vs : List Nat) (b : Bd) : TG := fun v σ H Q => ∃ ρ G d ρ', Sl K B ρ G σ H ∧ Rp K G v d ∧ b d ρ = some ρ' ∧ ∀ σ', Sl K B ρ' G σ' H → Kept vs σ σ' → Q σ' H
def tGs (K : PySem.W.Frag) (B : Bs) (vs : List Nat) (b : List D → Env → Option Env) : TGs := fun ws σ H Q => ∃ ρ G ds ρ', Sl K B ρ G σ H ∧ RpA K G ws ds ∧ b ds ρ = some ρ' ∧ ∀ σ', Sl K B ρ' G σ' H → Kept vs σ σ' → Q σ' H
structure SG (X : Cx) (B : Bs) (vs : List Nat) (tg : Expr) (b : Bd) : Prop where
  pg : PG X tg (tG X.K B vs b)
structure SGs (X : Cx) (B : Bs) (vs : List Nat) (tgs : List Expr) (b : List D → Env → Option Env) : Prop where
  pg : PGs X tgs (tGs X.K B vs b)
theorem _root_.L2.PG.imp {X : Cx} {e : Expr} {t t' : TG} (h : PG X e t) (i : ∀ v σ H Q, t' v σ H Q → t v σ H Q) : PG X e t' := ⟨fun pins s σ H v u Q I r q => h.run pins s σ H v u Q I r (i v σ H Q q)⟩
theorem _root_.L2.PGs.imp {X : Cx} {e : List Expr} {t t' : TGs} (h : PGs X e t) (i : ∀ v σ H Q, t' v σ H Q → t v σ H Q) : PGs X e t' := ⟨fun pins s σ H v u Q I r q => h.run pins s σ H v u Q I r (i v σ H Q q)⟩
def bN (i : Nat) : Bd := fun d ρ => some (ρ.set i (.dat d))
def bsN : List D → Env → Option Env := fun ds ρ => match ds with
  | [] => some ρ
  | _ => none
def bsC (b : Bd) (bs : List D → Env → Option Env) : List D → Env → Option Env := fun ds ρ => match ds with
  | d :: r => (b d ρ).bind fun ρ' => bs r ρ'
  | [] => none
def bT (n : Nat) (bs : List D → Env → Option Env) : Bd := fun d ρ => match d with
  | .tuple ds => if ds.length = n then bs ds ρ else none
  | _ => none
theorem sg_n (i : Nat) {x : Str} (hN : X.N.Nodup) (hi : X.N[i]? = some x := by rfl) (hx : Loc X.env.scope x := by first | exact Or.inl rfl | exact Or.inr rfl) (hf : X.fn x = true ∨ X.env.scope.names.lookup x = some .local := by first | exact .inl rfl | exact .inr rfl) : SG X B [i] (.Name x pos) (bN i) :=
  ⟨(pg_name hN hi hx hf).imp fun v σ H Q ⟨ρ, G, d, ρ', s, r, e, q⟩ => by
    cases e
    exact q _ (s.set r i) ⟨by simp, fun j hj => List.getElem?_set_ne (by simpa [eq_comm] using hj)⟩⟩
theorem sgs_nil : SGs X B [] [] bsN := ⟨pgs_nil.imp fun vs σ H Q ⟨ρ, G, ds, ρ', s, r, e, q⟩ => by
  cases r with
  | nil => cases e; exact ⟨rfl, q _ s (Kept.refl _ _)⟩
  | cons => cases e⟩
theorem sgs_cons {es : List Expr} {vs ws : List Nat} {bd : Bd} {bs : List D → Env → Option Env} (h1 : SG X B vs e bd) (h2 : SGs X B ws es bs)
    (hs : (assignEach (e :: es) X.env).map (·.2) = assign e X.env :: (assignEach es X.env).map (·.2) := by rfl) : SGs X B (vs ++ ws) (e :: es) (bsC bd bs) :=
  ⟨(pgs_cons h1.pg h2.pg hs).imp fun us σ H Q ⟨ρ, G, ds, ρ', s, r, e, q⟩ => by
    cases r with
    | nil => cases e
    | @cons w ws' d ds r1 r2 =>
      refine ⟨w, ws', rfl, ρ, G, d, ?_⟩
      cases e1 : bd d ρ with
      | none => simp [bsC, e1] at e
      | some ρ1 =>
        simp [bsC, e1] at e
        exact ⟨ρ1, s, r1, rfl, fun σ' s' k1 => ⟨ρ1, G, ds, ρ', s', r2, e, fun σ2 s2 k2 => q σ2 s2 ((k1.mono fun i hi => List.mem_append_left _ hi).trans (k2.mono fun i hi => List.mem_append_right _ hi))⟩⟩⟩
theorem sg_t {es : List Expr} {vs : List Nat} {n kk : Nat} {bs : List D → Env → Option Env} (hc : X.calm = true) (h : SGs X B vs es bs) (hn : (assignEach es X.env).length = n := by rfl) (hst : (assignEach es X.env).findIdx? (·.1) = none := by rfl) : SG X B vs (.Tuple es kk pos) (bT n bs) :=
  ⟨(pg_tup hc h.pg hn hst).imp fun v σ H Q ⟨ρ, G, d, ρ', s, r, e, q⟩ => by
    cases r with
    | @tup a xs ds hG ra =>
      unfold bT at e
      by_cases hl : ds.length = n
      · simp only [if_pos hl] at e
        exact ⟨a, xs, rfl, SqT.of (s.same _ _ hG), by rw [ra.len, hl], ρ, G, ds, ρ', s, ra, e, q⟩
      · simp only [if_neg hl] at e; cases e
    | _ => cases e⟩
/-- target = e -/
def asg (b : Bd) (m : Env → R D) : SM := fun ρ => (m ρ).go ρ fun d => match b d ρ with
  | some ρ' => .nx ρ'
  | none => .bad
theorem ss_asg {tg : Expr} {vs : List Nat} {bd : Bd} (hg : SG X B vs tg bd) (h : SE X B W e ma) (hs : swapsWithSole [tg] e pos.line X.env = pure false := by rfl) (hw : swappedStores [tg] e X.env = pure none := by rfl)
    (h1 : (assignEach [tg] X.env).map (·.2) = [assign tg X.env] := by rfl) : SS X B W (.Assign [tg] e pos) (asg bd ma) :=
  ⟨(ps_asg h.pe hg.pg hs hw h1).imp fun D' σ H ⟨ρ, G, s, h⟩ => ⟨ρ, G, s, (Af.go s h).imp fun d G1 H1 g1 h1 v r => by
    cases e1 : bd d ρ with
    | none => simp only [e1] at h1; exact h1.elim
    | some ρ' =>
      simp only [e1] at h1
      exact ⟨ρ, G1, d, ρ', s.step g1, r, e1, fun σ' s' _ => h1 σ' G1 H1 s' (Same.refl _)⟩⟩⟩
/-- a, b = x, y: plain local names -/
def par (i j : Nat) (m : Env → R (List D)) : SM := fun ρ => (m ρ).go ρ fun ds => match ds with
  | [x, y] => .nx ((ρ.set i (.dat x)).set j (.dat y))
  | _ => .bad
theorem ss_par (i j : Nat) {x y : Str} {mas : Env → R (List D)} {px py pt : Pos} {kt k2 : Nat} {pt2 : Pos} (C : Cxt X W) (hij : i ≠ j) (ha : SA X B W [a, b] mas) (hi : X.N[i]? = some x := by rfl) (hj : X.N[j]? = some y := by rfl)
    (hx : X.env.scope.names.lookup x = some .local := by rfl) (hy : X.env.scope.names.lookup y = some .local := by rfl)
    (hw : swappedStores [.Tuple [.Name x px, .Name y py] kt pt] (.Tuple [a, b] k2 pt2) X.env = pure (some [x, y]) := by rfl)
    (hs : swapsWithSole [.Tuple [.Name x px, .Name y py] kt pt] (.Tuple [a, b] k2 pt2) pos.line X.env = pure false := by rfl) :
    SS X B W (.Assign [.Tuple [.Name x px, .Name y py] kt pt] (.Tuple [a, b] k2 pt2) pos) (par i j mas) :=
  ⟨(ps_par C.calm C.nd hi hj hij hx hy ha.pa hw hs).imp fun D' σ H ⟨ρ, G, s, h⟩ => ⟨ρ, G, s, (Af.go s h).imp fun ds G1 H1 g1 h1 vs r => by
    cases r with
    | nil => exact h1.elim
    | cons r1 r =>
      cases r with
      | nil => exact h1.elim
      | cons r2 r =>
        cases r with
        | nil => exact ⟨_, _, rfl, h1 _ G1 H1 (((s.step g1).set r1 i).set r2 j) (Same.refl _)⟩
        | cons => exact h1.elim⟩⟩
/-- x += e, x -= e of whole numbers -/
def aug (i : Nat) (f : Int → Int → Int) (m : Env → R D) : SM := fun ρ => match ρ[i]? with
  | some (.dat (.int x)) => (m ρ).go ρ fun d => match d with
    | .int y => .nx (ρ.set i (.dat (.int (f x y))))
    | _ => .bad
  | _ => .bad
theorem ss_aug (i : Nat) {f : Int → Int → Int} {op : Operator} {x : Str} {p : Pos} (C : Cxt X W) (ho : PIp X op (ipI f)) (h : SE X B W e ma) (hi : X.N[i]? = some x := by rfl) (hx : Loc X.env.scope x := by first | exact Or.inl rfl | exact Or.inr rfl)
    (hf : X.fn x = true ∨ X.env.scope.names.lookup x = some .local := by first | exact .inl rfl | exact .inr rfl) : SS X B W (.AugAssign (.Name x p) op e pos) (aug i f ma) :=
  ⟨(ps_aug C.nd hi hx h.pe ho hf).imp fun D' σ H ⟨ρ, G, s, h⟩ => by
    unfold aug at h
    cases e : ρ[i]? with
    | none => simp only [e] at h; exact h.elim
    | some sl =>
      simp only [e] at h
      cases sl with
      | dat d =>
        cases d with
        | int z =>
          obtain ⟨w, h1, h2⟩ := s.dat i _ e
          cases h2
          refine ⟨_, h1, ρ, G, s, (Af.go s h).imp fun d G1 H1 g1 h2 v r => ?_⟩
          cases r with
          | int y => exact ⟨z, y, rfl, rfl, h2 _ G1 H1 ((s.step g1).set (.int _) i) (Same.refl _)⟩
          | _ => exact h2.elim
        | _ => exact h.elim
      | _ => exact h.elim⟩

/-! ### what is walked -/
/-- J gives ds, one by one, while what G0 knows stands -/
structure Wk (K : PySem.W.Frag) (G0 : Hp) (J : It) (ds : List D) : Prop where
  w : ∃ Gd Y, Walk J ds.length Gd Y ∧ (∀ H, Same G0 H → Gd H) ∧ ∀ i G H x H' d, ds[i]? = some d → Same G0 G → Same G H → Y i H x H' → ∃ G', Gr G H G' H' ∧ Rp K G' x d
def tI (k : Kx) (m : Env → R (List D)) : TI := fun σ H R => ∃ ρ G, Sl k.K k.B ρ G σ H ∧ Af k σ G H (m ρ) fun ds G' H' => ∀ J G2 H2, Gr G' H' G2 H2 → Wk k.K G2 J ds → R J H2
structure SI (X : Cx) (B : Bs) (W : WX) (tg iter : Expr) (m : Env → R (List D)) : Prop where
  pi : PI X tg iter (tI (kx X B W) m)
theorem _root_.L2.PI.imp {X : Cx} {tg e : Expr} {t t' : TI} (h : PI X tg e t) (i : ∀ σ H R, t' σ H R → t σ H R) : PI X tg e t' := ⟨fun pins s σ H R I q => h.run pins s σ H R I (i σ H R q)⟩
variable {tg : Expr}
theorem wk_list {K : PySem.W.Frag} {G0 : Hp} {a : Addr} {xs : List V} {ds : List D} (h : SqL K G0 a xs) (r : RpA K G0 xs ds) : Wk K G0 (Itl K a) ds :=
  ⟨⟨_, _, by rw [← r.len]; exact walk_list, fun H e => e.seq h, fun i G H x H' d hd e1 e2 y => by
    obtain ⟨e, hx⟩ := y
    subst e
    obtain ⟨w, h1, h2⟩ := r.get hd
    rw [hx] at h1; cases h1
    exact ⟨G, Gr.refl e2, h2.mono e1⟩⟩⟩
theorem wk_tup {K : PySem.W.Frag} {G0 : Hp} {a : Addr} {xs : List V} {ds : List D} (h : G0 a = some (.tup xs)) (r : RpA K G0 xs ds) : Wk K G0 (Itt K a) ds :=
  ⟨⟨_, _, by rw [← r.len]; exact walk_tup, fun H e => SqT.of (e _ _ h), fun i G H x H' d hd e1 e2 y => by
    obtain ⟨e, hx⟩ := y
    subst e
    obtain ⟨w, h1, h2⟩ := r.get hd
    rw [hx] at h1; cases h1
    exact ⟨G, Gr.refl e2, h2.mono e1⟩⟩⟩
def asL : D → Option (List D)
  | .list ds => some ds
  | _ => none
def asT : D → Option (List D)
  | .tuple ds => some ds
  | _ => none
def signs (x : Str) : List D := x.cps.toList.map fun c => .str ⟨#[c]⟩
def asS : D → Option (List D)
  | .str x => some (signs x)
  | _ => none
def iv (f : D → Option (List D)) (m : Env → R D) : Env → R (List D) := fun ρ => (m ρ).bind fun d => R.of (f d)
theorem si_list (h : SE X B W e ma) : SI X B W tg e (iv asL ma) := ⟨(pi_list h.pe).imp fun σ H R ⟨ρ, G, s, h⟩ => ⟨ρ, G, s, (Af.bind h).imp fun d G1 H1 g1 h1 v r => by
  obtain ⟨ds, e1, h2⟩ := Af.of h1
  cases r with
  | @lst a xs ds' hq ra => cases e1; exact ⟨a, rfl, ⟨xs, g1.gh.seq hq⟩, h2 G1 H1 (Gr.refl g1.gh) _ G1 H1 (Gr.refl g1.gh) (wk_list hq ra)⟩
  | _ => cases e1⟩⟩
theorem si_tup (h : SE X B W e ma) : SI X B W tg e (iv asT ma) := ⟨(pi_tup h.pe).imp fun σ H R ⟨ρ, G, s, h⟩ => ⟨ρ, G, s, (Af.bind h).imp fun d G1 H1 g1 h1 v r => by
  obtain ⟨ds, e1, h2⟩ := Af.of h1
  cases r with
  | @tup a xs ds' hq ra => cases e1; exact ⟨a, rfl, ⟨xs, SqT.of (g1.gh _ _ hq)⟩, h2 G1 H1 (Gr.refl g1.gh) _ G1 H1 (Gr.refl g1.gh) (wk_tup hq ra)⟩
  | _ => cases e1⟩⟩
theorem wk_str {K : PySem.W.Frag} {G0 : Hp} {z : Str} : Wk K G0 (Its z) (signs z) :=
  ⟨⟨_, _, by have e : (signs z).length = z.cps.size := by simp [signs]
             rw [e]; exact walk_str, fun _ _ => trivial, fun i G H x H' d hd e1 e2 y => by
    obtain ⟨e, c, hc, rfl⟩ := y
    subst e
    have : (signs z)[i]? = some (.str ⟨#[c]⟩) := by simp [signs, hc]
    rw [this] at hd; cases hd
    exact ⟨G, Gr.refl e2, .str _⟩⟩⟩
theorem si_str (h : SE X B W e ma) : SI X B W tg e (iv asS ma) := ⟨(pi_str h.pe).imp fun σ H R ⟨ρ, G, s, h⟩ => ⟨ρ, G, s, (Af.bind h).imp fun d G1 H1 g1 h1 v r => by
  obtain ⟨ds, e1, h2⟩ := Af.of h1
  cases r with
  | str x => cases e1; exact ⟨x, rfl, h2 G1 H1 (Gr.refl g1.gh) _ G1 H1 (Gr.refl g1.gh) wk_str⟩
  | _ => cases e1⟩⟩
/-- a range -/
def intsFrom (lo : Int) (n : Nat) : List D := (List.range n).map fun i => .int (lo + (i : Nat))
theorem wk_range {K : PySem.W.Frag} {G0 : Hp} {lo : Int} {n : Nat} : Wk K G0 (Itr lo n) (intsFrom lo n) :=
  ⟨⟨_, _, by have e : (intsFrom lo n).length = n := by simp [intsFrom]
             rw [e]; exact walk_range, fun _ _ => trivial, fun i G H x H' d hd e1 e2 y => by
    obtain ⟨e, rfl⟩ := y
    subst e
    by_cases hi : i < n
    · have : (intsFrom lo n)[i]? = some (.int (lo + (i : Nat))) := by simp [intsFrom, hi]
      rw [this] at hd; cases hd
      exact ⟨G, Gr.refl e2, .int _⟩
    · rw [List.getElem?_eq_none (by simp [intsFrom]; omega)] at hd; cases hd⟩⟩
def big : Int := 1000000000000
def asR1 : List D → Option (List D)
  | [.int j] => if -big ≤ j ∧ j ≤ big then some (intsFrom 0 j.toNat) else none
  | _ => none
def asR2 : List D → Option (List D)
  | [.int i, .int j] => if (-big ≤ i ∧ i ≤ big) ∧ -big ≤ j ∧ j ≤ big then some (intsFrom i (j - i).toNat) else none
  | _ => none
def ivA (f : List D → Option (List D)) (m : Env → R (List D)) : Env → R (List D) := fun ρ => (m ρ).bind fun d => R.of (f d)
variable {mas : Env → R (List D)} {p : Pos}
theorem big_lt {j : Int} (h : -big ≤ j ∧ j ≤ big) : -(2 ^ 62) ≤ j ∧ j < 2 ^ 62 := by unfold big at h; omega
theorem si_r1 (hm : X.mg "range" = none) (ha : SA X B W [a] mas) (hg : Gl X "range" := by rfl) (hs : starEach [a] X.env = [(false, eval a X.env)] := by rfl) : SI X B W tg (.Call (.Name "range" p) [a] [] pos) (ivA asR1 mas) := ⟨(pi_range1 hg hm ha.pa hs).imp fun σ H R ⟨ρ, G, s, h⟩ => ⟨ρ, G, s, (Af.bind h).imp fun d G1 H1 g1 h1 vs r => by
  obtain ⟨ds, e1, h2⟩ := Af.of h1
  cases r with
  | nil => cases e1
  | cons r1 r =>
    cases r with
    | cons => unfold asR1 at e1; split at e1 <;> simp_all
    | nil =>
      cases r1 with
      | int j =>
        by_cases hb : -big ≤ j ∧ j ≤ big
        · simp only [asR1, if_pos hb] at e1; cases e1
          exact ⟨j, rfl, (big_lt hb).1, (big_lt hb).2, h2 G1 H1 (Gr.refl g1.gh) _ G1 H1 (Gr.refl g1.gh) wk_range⟩
        · simp only [asR1, if_neg hb] at e1; cases e1
      | _ => cases e1⟩⟩
theorem si_r2 (hm : X.mg "range" = none) (ha : SA X B W [a, b] mas) (hg : Gl X "range" := by rfl) (hs : starEach [a, b] X.env = [(false, eval a X.env), (false, eval b X.env)] := by rfl) (hs2 : starEach [b] X.env = [(false, eval b X.env)] := by rfl) : SI X B W tg (.Call (.Name "range" p) [a, b] [] pos) (ivA asR2 mas) := ⟨(pi_range2 hg hm ha.pa hs hs2).imp fun σ H R ⟨ρ, G, s, h⟩ => ⟨ρ, G, s, (Af.bind h).imp fun d G1 H1 g1 h1 vs r => by
  obtain ⟨ds, e1, h2⟩ := Af.of h1
  cases r with
  | nil => cases e1
  | cons r1 r =>
    cases r with
    | nil => unfold asR2 at e1; split at e1 <;> simp_all
    | cons r2 r =>
      cases r with
      | cons => unfold asR2 at e1; split at e1 <;> simp_all
      | nil =>
        cases r1 with
        | int i =>
          cases r2 with
          | int j =>
            by_cases hb : (-big ≤ i ∧ i ≤ big) ∧ -big ≤ j ∧ j ≤ big
            · simp only [asR2, if_pos hb] at e1; cases e1
              exact ⟨i, j, rfl, ⟨(big_lt hb.1).1, (big_lt hb.1).2, (big_lt hb.2).1, (big_lt hb.2).2⟩, h2 G1 H1 (Gr.refl g1.gh) _ G1 H1 (Gr.refl g1.gh) wk_range⟩
            · simp only [asR2, if_neg hb] at e1; cases e1
          | _ => cases e1
        | _ => cases e1⟩⟩
/-- enumerate, zip -/
def enum : Nat → List D → List D
  | _, [] => []
  | n, d :: r => .tuple [.int n, d] :: enum (n + 1) r
theorem enum_len : ∀ (n : Nat) (ds : List D), (enum n ds).length = ds.length
  | _, [] => rfl
  | n, d :: r => by simp [enum, enum_len (n + 1) r]
theorem enum_get : ∀ (n i : Nat) (ds : List D), (enum n ds)[i]? = ds[i]?.map fun d => .tuple [.int ((n + i : Nat) : Int), d]
  | n, i, [] => by simp [enum]
  | n, 0, d :: r => by simp [enum]
  | n, i + 1, d :: r => by simp [enum, enum_get (n + 1) i r, Nat.add_assoc, Nat.add_comm 1 i]
theorem wk_pair {K : PySem.W.Frag} {G H H' : Hp} {f g : Nat → Option V} {i : Nat} {v x y : V} {dx dy : D} (e : Same G H) (h : YPair f g i H v H') (hf : f i = some x) (hg : g i = some y) (rx : Rp K G x dx) (ry : Rp K G y dy) : ∃ G', Gr G H G' H' ∧ Rp K G' v (.tuple [dx, dy]) := by
  obtain ⟨T, x', y', rfl, hT, rfl, h1, h2⟩ := h
  rw [hf] at h1; cases h1
  rw [hg] at h2; cases h2
  have g := Gr.new (o := .tup [x, y]) e hT
  exact ⟨_, g, .tup upd_same (.cons (rx.mono g.g) (.cons (ry.mono g.g) .nil))⟩
theorem wk_enum {K : PySem.W.Frag} {G0 : Hp} {a : Addr} {xs : List V} {ds : List D} (h : SqL K G0 a xs) (r : RpA K G0 xs ds) : Wk K G0 (Ite K a) (enum 0 ds) :=
  ⟨⟨_, _, by rw [enum_len, ← r.len]; exact walk_enum, fun H e => e.seq h, fun i G H x H' d hd e1 e2 y => by
    rw [enum_get] at hd
    cases q : ds[i]? with
    | none => rw [q] at hd; cases hd
    | some d0 =>
      rw [q] at hd; simp at hd; subst hd
      obtain ⟨w, h1, h2⟩ := r.get q
      exact wk_pair e2 y rfl h1 (.int _) (h2.mono e1)⟩⟩
def asE : List D → Option (List D)
  | [.list ds] => some (enum 0 ds)
  | _ => none
theorem si_enum {elts : List Expr} {kk : Nat} {tpos : Pos} (hm : X.mg "enumerate" = none) (ha : SA X B W [e] mas) (hg : Gl X "enumerate" := by rfl) (hs : starEach [e] X.env = [(false, eval e X.env)] := by rfl) : SI X B W (.Tuple elts kk tpos) (.Call (.Name "enumerate" p) [e] [] pos) (ivA asE mas) := ⟨(pi_enum hg hm ha.pa hs).imp fun σ H R ⟨ρ, G, s, h⟩ => ⟨ρ, G, s, (Af.bind h).imp fun d G1 H1 g1 h1 vs r => by
  obtain ⟨ds, e1, h2⟩ := Af.of h1
  cases r with
  | nil => cases e1
  | cons r1 r =>
    cases r with
    | cons => unfold asE at e1; split at e1 <;> simp_all
    | nil =>
      cases r1 with
      | @lst a xs ds' hq ra => cases e1; exact ⟨a, xs, rfl, g1.gh.seq hq, h2 G1 H1 (Gr.refl g1.gh) _ G1 H1 (Gr.refl g1.gh) (wk_enum hq ra)⟩
      | _ => cases e1⟩⟩
def zips : List D → List D → List D
  | d :: r, e :: q => .tuple [d, e] :: zips r q
  | _, _ => []
theorem zips_len : ∀ (ds es : List D), (zips ds es).length = min ds.length es.length
  | d :: r, e :: q => by simp [zips, zips_len r q]
  | [], _ => by simp [zips]
  | _ :: _, [] => by simp [zips]
theorem zips_get : ∀ (i : Nat) (ds es : List D) (d : D), (zips ds es)[i]? = some d → ∃ x y, ds[i]? = some x ∧ es[i]? = some y ∧ d = .tuple [x, y]
  | 0, d :: r, e :: q, _, h => by simp [zips] at h; exact ⟨d, e, rfl, rfl, h.symm⟩
  | i + 1, d :: r, e :: q, z, h => by
    simp [zips] at h
    obtain ⟨x, y, h1, h2, h3⟩ := zips_get i r q z h
    exact ⟨x, y, by simpa using h1, by simpa using h2, h3⟩
  | i, [], _, _, h => by simp [zips] at h
  | i, _ :: _, [], _, h => by simp [zips] at h
theorem wk_zip {K : PySem.W.Frag} {G0 : Hp} {a b : Addr} {xs ys : List V} {ds es : List D} (h : SqL K G0 a xs) (r : RpA K G0 xs ds) (h' : SqL K G0 b ys) (r' : RpA K G0 ys es) : Wk K G0 (Itz K a b) (zips ds es) :=
  ⟨⟨_, _, walk_zip (by rw [zips_len, r.len, r'.len]), fun H e => ⟨e.seq h, e.seq h'⟩, fun i G H x H' d hd e1 e2 y => by
    obtain ⟨dx, dy, h1, h2, rfl⟩ := zips_get i ds es d hd
    obtain ⟨w, h3, h4⟩ := r.get h1
    obtain ⟨w', h5, h6⟩ := r'.get h2
    exact wk_pair e2 y h3 h5 (h4.mono e1) (h6.mono e1)⟩⟩
def asZ : List D → Option (List D)
  | [.list ds, .list es] => some (zips ds es)
  | _ => none
theorem si_zip {elts : List Expr} {kk : Nat} {tpos : Pos} (hm : X.mg "zip" = none) (ha : SA X B W [a, b] mas) (hg : Gl X "zip" := by rfl) (hs : starEach [a, b] X.env = (false, eval a X.env) :: starEach [b] X.env := by rfl) (hpl : (backTo pos (starEach [b] X.env)).any (·.1) = false := by rfl) :
    SI X B W (.Tuple elts kk tpos) (.Call (.Name "zip" p) [a, b] [] pos) (ivA asZ mas) := ⟨(pi_zip hg hm ha.pa hs hpl).imp fun σ H R ⟨ρ, G, s, h⟩ => ⟨ρ, G, s, (Af.bind h).imp fun d G1 H1 g1 h1 vs r => by
  obtain ⟨ds, e1, h2⟩ := Af.of h1
  cases r with
  | nil => cases e1
  | cons r1 r =>
    cases r with
    | nil => unfold asZ at e1; split at e1 <;> simp_all
    | cons r2 r =>
      cases r with
      | cons => unfold asZ at e1; split at e1 <;> simp_all
      | nil =>
        cases r1 with
        | @lst a xs ds' hq ra =>
          cases r2 with
          | @lst b ys es' hq' ra' => cases e1; exact ⟨a, b, xs, ys, rfl, g1.gh.seq hq, g1.gh.seq hq', h2 G1 H1 (Gr.refl g1.gh) _ G1 H1 (Gr.refl g1.gh) (wk_zip hq ra hq' ra')⟩
          | _ => cases e1
        | _ => cases e1⟩⟩

/-! ### loops -/
def loop (b : Bd) (mb : SM) : List D → SM
  | [], ρ => .nx ρ
  | d :: ds, ρ => match b d ρ with
    | none => .bad
    | some ρ1 => match mb ρ1 with
      | .nx ρ2 => loop b mb ds ρ2
      | .ct ρ2 => loop b mb ds ρ2
      | .bk ρ2 => .nx ρ2
      | o => o
def each (mi : Env → R (List D)) (b : Bd) (mb : SM) : SM := fun ρ => (mi ρ).go ρ fun ds => loop b mb ds ρ
theorem ss_for {vs : List Nat} {bd : Bd} {mi : Env → R (List D)} (C : Cxt X W) (hi : SI X B W tg e mi) (hg : SG X B vs tg bd) (hb : SSs X B W sts m) (hs : ∀ x, foldedSetIterable e X.env x = pure x := by intro _; rfl) : SS X B W (.For tg e sts [] pos) (each mi bd m) :=
  ⟨(ps_for C.po C.calm hi.pi hg.pg hb.ps hs).imp fun D' σ H ⟨ρ, G, s, h⟩ => ⟨ρ, G, s, (Af.go s h).imp fun ds G1 H1 g1 h1 J G2 H2 g2 w => by
    obtain ⟨Gd, Y, wl, wg, wy⟩ := w
    refine for_it wl (fun i σ' H' => ∃ ρ' G', Sl X.K B ρ' G' σ' H' ∧ Same G2 G' ∧ AfS (kx X B W) D' G2 (loop bd m (ds.drop i) ρ')) ⟨ρ, G2, s.step (g1.trans g2), Same.refl _, AfS.mono g2.g h1⟩ (fun i σ' H' _ ⟨ρ', G', s', e1, _⟩ => wg H' (e1.trans s'.same)) ?_ ?_
    · rintro i x σ' H' H'' hi ⟨ρ', G', s', e1, h2⟩ hy
      have hd : ds[i]? = some ds[i] := List.getElem?_eq_getElem hi
      obtain ⟨G3, g3, r3⟩ := wy i G' H' x H'' _ hd e1 s'.same hy
      rw [List.drop_eq_getElem_cons hi] at h2
      unfold loop at h2
      cases e2 : bd ds[i] ρ' with
      | none => simp only [e2] at h2; exact h2.elim
      | some ρ1 =>
        simp only [e2] at h2
        refine ⟨ρ', G3, _, ρ1, s'.step g3, r3, e2, fun σ2 s2 _ => ⟨ρ1, G3, s2, ?_⟩⟩
        have e3 : Same G2 G3 := e1.trans g3.g
        cases e4 : m ρ1 with
        | nx ρ2 => simp only [e4] at h2; exact fun σ5 G5 H5 s5 q5 => ⟨ρ2, G5, s5, e3.trans q5, h2⟩
        | ct ρ2 => simp only [e4] at h2; exact fun σ5 G5 H5 s5 q5 => ⟨ρ2, G5, s5, e3.trans q5, h2⟩
        | bk ρ2 => simp only [e4] at h2; exact fun σ5 G5 H5 s5 q5 => h2 σ5 G5 H5 s5 (e3.trans q5)
        | rt d => simp only [e4] at h2; exact h2
        | rl d => simp only [e4] at h2; exact h2
        | exc c x ρ2 => simp only [e4] at h2; exact fun cls dd σ5 G5 H5 s5 q5 xc => h2 cls dd σ5 G5 H5 s5 (e3.trans q5) xc
        | bad => simp only [e4] at h2; exact h2
    · rintro σ' H' ⟨ρ', G', s', e1, h2⟩
      rw [List.drop_length] at h2
      exact h2 σ' G' H' s' e1⟩⟩
def whl (c : Env → R Bool) (mb : SM) : Nat → SM
  | 0, _ => .bad
  | n + 1, ρ => (c ρ).go ρ fun b => if b = true then (match mb ρ with
      | .nx ρ2 => whl c mb n ρ2
      | .ct ρ2 => whl c mb n ρ2
      | .bk ρ2 => .nx ρ2
      | o => o) else .nx ρ
def wh (fuel : Env → Nat) (c : Env → R Bool) (mb : SM) : SM := fun ρ => whl c mb (fuel ρ) ρ
theorem ss_while (fuel : Env → Nat) (C : Cxt X W) (hc : ST X B W c mt) (hb : SSs X B W sts m) : SS X B W (.While c sts [] pos) (wh fuel mt m) :=
  ⟨(ps_while C.po hc.pt hb.ps).imp fun D' σ H ⟨ρ, G, s, h⟩ => by
    refine ⟨fun n σ' H' => ∃ ρ' G', Sl X.K B ρ' G' σ' H' ∧ AfS (kx X B W) D' G' (whl mt m n ρ'), ⟨_, ρ, G, s, h⟩, ?_⟩
    rintro n σ' H' ⟨ρ', G', s', h2⟩
    cases n with
    | zero => exact h2.elim
    | succ n =>
      unfold whl at h2
      refine ⟨ρ', G', s', (Af.go s' h2).imp fun b G1 H1 g1 h3 => ?_⟩
      cases b with
      | false => exact iteF (h3 σ' G1 H1 (s'.step g1) (Same.refl _))
      | true =>
        refine iteT ⟨fun σ5 H5 => ∃ ρ' G', Sl X.K B ρ' G' σ5 H5 ∧ AfS (kx X B W) D' G' (whl mt m n ρ'), fun σ5 H5 q => ⟨n, Nat.lt_succ_self n, q⟩, ρ', G1, s'.step g1, ?_⟩
        have h4 : AfS (kx X B W) D' G1 (match m ρ' with
          | .nx ρ2 => whl mt m n ρ2
          | .ct ρ2 => whl mt m n ρ2
          | .bk ρ2 => .nx ρ2
          | o => o) := h3
        cases e4 : m ρ' with
        | nx ρ2 => simp only [e4] at h4; exact fun σ5 G5 H5 s5 q5 => ⟨ρ2, G5, s5, AfS.mono q5 h4⟩
        | ct ρ2 => simp only [e4] at h4; exact fun σ5 G5 H5 s5 q5 => ⟨ρ2, G5, s5, AfS.mono q5 h4⟩
        | bk ρ2 => simp only [e4] at h4; exact h4
        | rt d => simp only [e4] at h4; exact h4
        | rl d => simp only [e4] at h4; exact h4
        | exc c x ρ2 => simp only [e4] at h4; exact h4
        | bad => simp only [e4] at h4; exact h4⟩
end
end Q

set_option maxHeartbeats 1000000
/-! # Qd: comprehensions, one's own lists and dicts, calls, defs -/
namespace Q
open PySem L2

section
variable {K : PySem.W.Frag} {B : Bs} {ρ : Env} {G H G' H' : Hp} {σ : St}
theorem Sl.other (s : Sl K B ρ G σ H) {p : Addr} {o : HO} (h0 : B.H0 p = none) (hg : G p = none) (hn : ∀ (j : Nat), Ow ρ[j]? → σ[j]? ≠ some (some (.ref p))) : Sl K B ρ G σ (upd H p o) := by
  refine ⟨⟨s.gr.g, fun b u h => by rw [upd_ne (ne_of_none h hg)]; exact s.gr.gh b u h, fun b u h => by rw [upd_ne (ne_of_none h h0)]; exact s.gr.h b u h, s.gr.fr⟩, s.len, s.dat, fun i ds h => ?_, fun i ds h => ?_, s.ne, s.fx⟩
  · obtain ⟨q, vs, h1, h2, h3, h4, h5⟩ := s.ol i ds h
    refine ⟨q, vs, h1, h2, h3, ?_, h5⟩
    rw [upd_ne]; exact h4
    intro z; subst z
    exact hn i (by rw [h]; trivial) h1
  · obtain ⟨q, vs, h1, h2, h3, h4, h5⟩ := s.od i ds h
    refine ⟨q, vs, h1, h2, h3, ?_, h5⟩
    rw [upd_ne]; exact h4
    intro z; subst z
    exact hn i (by rw [h]; trivial) h1
def wipeE (ρ : Env) : List Nat → Env
  | [] => ρ
  | v :: vs => (wipeE ρ vs).set v .no
theorem Sl.wipe (s : Sl K B ρ G σ H) : ∀ vs : List Nat, Sl K B (wipeE ρ vs) G (L2.wipe σ vs) H
  | [] => s
  | v :: vs => (Sl.wipe s vs).forget v
theorem wipeE_ow {j : Nat} : ∀ {vs : List Nat}, Ow (wipeE ρ vs)[j]? → Ow ρ[j]?
  | [], h => h
  | v :: vs, h => by
    unfold wipeE at h
    by_cases e : v = j
    · subst e
      by_cases hl : v < (wipeE ρ vs).length
      · rw [List.getElem?_set_self hl] at h; exact h.elim
      · rw [List.getElem?_eq_none (by simpa using hl)] at h; exact h.elim
    · rw [List.getElem?_set_ne e] at h; exact wipeE_ow h
end
def W0 : WX := fun _ _ _ _ => False

section
variable {X : Cx} {B : Bs} {W : WX} {a b c e : Expr} {ma mb mc : Env → R D} {mt : Env → R Bool} {mo : Env → R (List D)} {mas : Env → R (List D)} {pos p : Pos} {st : Stmt} {rest sts sts' : List Stmt} {m n : SM} {es : List Expr} {tg : Expr}

/-! ### comprehensions -/
def lcl (bd : Bd) (mt : Env → R Bool) (me : Env → R D) : List D → Env → List D → R (List D)
  | [], _, acc => .ok acc
  | d :: ds, ρ, acc => match bd d ρ with
    | none => .bad
    | some ρ1 => match mt ρ1 with
      | .ok true => (match me ρ1 with
        | .ok x => if acc.length < most then lcl bd mt me ds ρ (acc ++ [x]) else .bad
        | _ => .bad)
      | .ok false => lcl bd mt me ds ρ acc
      | _ => .bad
def lc (mi : Env → R (List D)) (vs : List Nat) (bd : Bd) (mt : Env → R Bool) (me : Env → R D) : Env → R (List D) := fun ρ => (mi ρ).bind fun ds => lcl bd mt me ds (wipeE ρ vs) []
structure STs (X : Cx) (B : Bs) (W : WX) (ifs : List Expr) (m : Env → R Bool) : Prop where
  pts : PTs X ifs (tT (kx X B W) m)
theorem _root_.L2.PTs.imp {X : Cx} {e : List Expr} {t t' : TT} (h : PTs X e t) (i : ∀ σ H Q, t' σ H Q → t σ H Q) : PTs X e t' := ⟨fun pins s σ H Q I q => h.run pins s σ H Q I (i σ H Q q)⟩
def tyes : Env → R Bool := fun _ => .ok true
theorem sts_nil : STs X B W [] tyes := ⟨pts_nil.imp fun σ H Q ⟨ρ, G, s, h⟩ => h G H (Gr.refl s.same)⟩
theorem sts_one (h : ST X B W c mt) : STs X B W [c] mt := ⟨pts_one h.pt⟩
theorem lc_t {own : List (Str × Nat)} {vs : List Nat} {bd : Bd} {mi : Env → R (List D)} (hv : ∀ i ∈ vs, i ∈ own.map (·.2)) {σ : St} {H : Hp} {Q : VK} (h : tO (kx X B W) (lc mi (own.map (·.2)) bd mt ma) σ H Q) :
    tLc (tI (kx X B W) mi) (tG X.K B vs bd) (tT (kx X B W0) mt) (tS (kx X B W0) ma) (own.map (·.2)) σ H Q := by
  obtain ⟨ρ, G, s, h⟩ := h
  have hb : Af (kx X B W) σ G H (mi ρ) fun ds G1 H1 => Gr G H G1 H1 ∧ Af (kx X B W) σ G H (lcl bd mt ma ds (wipeE ρ (own.map (·.2))) []) fun ds G' H' => ∀ p vs, H p = none → G' p = none → H' p = some (.lst vs) → RpA X.K G' vs ds → Q (.ref p) H' := by
    unfold lc at h
    cases e : mi ρ with
    | ok ds => rw [e] at h; exact fun G1 H1 g1 => ⟨g1, h⟩
    | exc c x => rw [e] at h; exact h
    | bad => rw [e] at h; exact h
  refine ⟨ρ, G, s, hb.imp fun ds G1 H1 _ ⟨g1, h1⟩ J G2 H2 g2 w => fun D' hD => ?_⟩
  obtain ⟨Gd, Y, wl, wg, wy⟩ := w
  have g12 := g1.trans g2
  have hHD : H D' = none := g12.h.free hD
  have hnD : ∀ (j : Nat), Ow (wipeE ρ (own.map (·.2)))[j]? → (wipe σ (own.map (·.2)))[j]? ≠ some (some (.ref D')) := fun j hj z => by
    obtain ⟨q, hq, _, hH, _⟩ := s.owH (wipeE_ow hj)
    obtain ⟨z1, _⟩ := wipe_some z
    rw [z1] at hq; cases hq
    exact hH hHD
  have h0D : B.H0 D' = none := s.gr.h.free hHD
  have hG2 : G2 D' = none := by
    cases q : G2 D' with
    | none => rfl
    | some o => rw [g2.gh _ _ q] at hD; cases hD
  let Pv : Nat → Hp → Prop := fun i H' => ∃ G' acc av, Sl X.K B (wipeE ρ (own.map (·.2))) G' (wipe σ (own.map (·.2))) H' ∧ Gr G H G' H' ∧ Same G2 G' ∧ G' D' = none ∧ H' D' = some (.lst av) ∧ RpA X.K G' av acc ∧
    Af (kx X B W) σ G H (lcl bd mt ma (ds.drop i) (wipeE ρ (own.map (·.2))) acc) fun ds G' H' => ∀ p vs, H p = none → G' p = none → H' p = some (.lst vs) → RpA X.K G' vs ds → Q (.ref p) H'
  have gnew := Gr.own (o := .lst []) g2.gh hD
  refine lc_it wl Pv ⟨G2, [], [], ((s.step g12).wipe _).step gnew, g12.trans gnew, Same.refl _, hG2, upd_same, .nil, h1⟩ (fun i H' _ ⟨G', acc, av, s', _, e1, _⟩ => wg H' (e1.trans s'.same)) ?_ ?_
  · rintro i x H' H'' hi ⟨G', acc, av, s', g', e1, hGD, hHD', ra, h2⟩ hy
    have hd : ds[i]? = some ds[i] := List.getElem?_eq_getElem hi
    obtain ⟨G3, g3, r3⟩ := wy i G' H' x H'' _ hd e1 s'.same hy
    rw [List.drop_eq_getElem_cons hi] at h2
    unfold lcl at h2
    cases e2 : bd ds[i] (wipeE ρ (own.map (·.2))) with
    | none => simp only [e2] at h2; exact h2.elim
    | some ρ1 =>
      simp only [e2] at h2
      refine ⟨_, G3, _, ρ1, s'.step g3, r3, e2, fun σ2 s2 k2 => ⟨(k2.mono hv).wipe, ρ1, G3, s2, ?_⟩⟩
      cases e4 : mt ρ1 with
      | exc c x => simp only [e4] at h2; exact h2.elim
      | bad => simp only [e4] at h2; exact h2.elim
      | ok bb =>
        simp only [e4] at h2
        intro G4 H4 g4
        cases bb with
        | false =>
          have g34 := g3.trans g4
          have hG4 : G4 D' = none := g34.keeps hGD hHD' fun _ z => by cases z
          exact iteF ⟨G4, acc, av, s'.step g34, g'.trans g34, e1.trans g34.g, hG4, g34.h _ _ hHD', ra.mono g34.g, h2⟩
        | true =>
          refine iteT ⟨ρ1, G4, s2.step g4, ?_⟩
          cases e5 : ma ρ1 with
          | exc c x => simp only [e5] at h2; exact h2.elim
          | bad => simp only [e5] at h2; exact h2.elim
          | ok xd =>
            simp only [e5] at h2
            intro G5 H5 g5 y ry
            by_cases hl : acc.length < most
            · rw [if_pos hl] at h2
              have g35 := g3.trans (g4.trans g5)
              have hG5 : G5 D' = none := g35.keeps hGD hHD' fun _ z => by cases z
              have gg := g'.trans g35
              have gu : Gr G H G5 (upd H5 D' (.lst (av ++ [y]))) := ⟨gg.g, fun b u h => by rw [upd_ne (ne_of_none h hG5)]; exact gg.gh b u h, fun b u h => by rw [upd_ne (ne_of_none h hHD)]; exact gg.h b u h, gg.fr⟩
              exact ⟨av, g35.h _ _ hHD', by rw [ra.len]; exact most_lt hl, G5, acc ++ [xd], av ++ [y], (s'.step g35).other h0D hG5 hnD, gu, e1.trans g35.g, hG5, upd_same, (ra.mono g35.g).append (.one ry), h2⟩
            · rw [if_neg hl] at h2; exact h2.elim
  · rintro H' ⟨G', acc, av, s', g', e1, hGD, hHD', ra, h2⟩
    rw [List.drop_length] at h2
    exact h2 G' H' g' D' av hHD hGD hHD' ra
variable {ifs : List Expr} {scope : Scope} {own : List (Str × Nat)} {vs : List Nat} {bd : Bd} {mi : Env → R (List D)}
theorem so_lc (own : List (Str × Nat)) (vs : List Nat) (C : Cxt X W) (hi : SI X B W tg e mi) (ok : BlkOk X.N X.env.scope scope own)
    (hg : ∀ (s : Shared) (H : Hp) (C : Addr) (cl : List (Str × Addr)) (fp : List Addr), SG (X.blk s H scope (compEnvC scope cl C X.env) fp) B vs tg bd)
    (ht : ∀ (s : Shared) (H : Hp) (C : Addr) (cl : List (Str × Addr)) (fp : List Addr), STs (X.blk s H scope (compEnvC scope cl C X.env) fp) B W0 ifs mt)
    (he : ∀ (s : Shared) (H : Hp) (C : Addr) (cl : List (Str × Addr)) (fp : List Addr), SE (X.blk s H scope (compEnvC scope cl C X.env) fp) B W0 a ma)
    (hv : ∀ i ∈ vs, i ∈ own.map (·.2) := by decide) (hs : ∀ x, foldedSetIterable e X.env x = pure x := by intro _; rfl) :
    SO X B W (.ListComp a [⟨tg, e, ifs, 0⟩] scope pos) (lc mi (own.map (·.2)) bd mt ma) :=
  ⟨(pe_lc C.calm C.nd hi.pi ok (fun s H C cl fp => (hg s H C cl fp).pg) (fun s H C cl fp => (ht s H C cl fp).pts) (fun s H C cl fp => (he s H C cl fp).pe) hs).imp fun σ H Q h => lc_t hv h⟩
/-- y = [..] on one line -/
theorem ss_setLc (i : Nat) {y : Str} {py spos : Pos} (own : List (Str × Nat)) (vs : List Nat) (C : Cxt X W) (hi : SI X B W tg e mi) (ok : BlkOk X.N X.env.scope scope own)
    (hg : ∀ (s : Shared) (H : Hp) (C : Addr) (cl : List (Str × Addr)) (fp : List Addr), SG (X.blk s H scope (compEnvC scope cl C X.env) fp) B vs tg bd)
    (ht : ∀ (s : Shared) (H : Hp) (C : Addr) (cl : List (Str × Addr)) (fp : List Addr), STs (X.blk s H scope (compEnvC scope cl C X.env) fp) B W0 ifs mt)
    (he : ∀ (s : Shared) (H : Hp) (C : Addr) (cl : List (Str × Addr)) (fp : List Addr), SE (X.blk s H scope (compEnvC scope cl C X.env) fp) B W0 a ma)
    (hy : X.N[i]? = some y := by rfl) (hyl : X.env.scope.names.lookup y = some .local := by rfl)
    (hsw : swapsWith (.ListComp a [⟨tg, e, ifs, 0⟩] scope pos) (some (.Name y py)) spos.line X.env = pure true := by exact sw_true rfl rfl rfl (by decide +kernel))
    (hv : ∀ i ∈ vs, i ∈ own.map (·.2) := by decide) (hs : ∀ x, foldedSetIterable e X.env x = pure x := by intro _; rfl) :
    SS X B W (.Assign [.Name y py] (.ListComp a [⟨tg, e, ifs, 0⟩] scope pos) spos) (setO i (lc mi (own.map (·.2)) bd mt ma)) :=
  ⟨(ps_setLc C.calm C.nd hy hyl hsw hi.pi ok (fun s H C cl fp => (hg s H C cl fp).pg) (fun s H C cl fp => (ht s H C cl fp).pts) (fun s H C cl fp => (he s H C cl fp).pe) hs).imp fun D' σ H h => lc_t hv (setO_t h)⟩

theorem setB_O {k : Kx} {D' : Ends} {σ : St} {H : Hp} {i : Nat} {m : Env → R (List D)} (h : tSt k (setB i (elst m)) D' σ H) : tO k m σ H fun x H1 => gName i x σ H1 D'.nx := by
  obtain ⟨ρ, G, s, h⟩ := h
  refine ⟨ρ, G, s, ?_⟩
  unfold setB elst at h
  cases em : m ρ with
  | ok ds =>
    rw [em] at h
    intro G1 H1 g1 p vs h0 hg hp r
    exact h _ _ H1 ((s.step (g1.freeze h0 hg hp)).set (.lst (SqL.of upd_same) (r.mono (Same.fz hg))) i) (g1.g.trans (Same.fz hg))
  | exc c x => rw [em] at h; exact fun cls dd G2 H2 g2 xc => h cls dd σ G2 H2 (s.step g2) g2.g xc
  | bad => rw [em] at h; exact h
theorem ss_setLcB (i : Nat) {y : Str} {py spos : Pos} (own : List (Str × Nat)) (vs : List Nat) (C : Cxt X W) (hi : SI X B W tg e mi) (ok : BlkOk X.N X.env.scope scope own)
    (hg : ∀ (s : Shared) (H : Hp) (C : Addr) (cl : List (Str × Addr)) (fp : List Addr), SG (X.blk s H scope (compEnvC scope cl C X.env) fp) B vs tg bd)
    (ht : ∀ (s : Shared) (H : Hp) (C : Addr) (cl : List (Str × Addr)) (fp : List Addr), STs (X.blk s H scope (compEnvC scope cl C X.env) fp) B W0 ifs mt)
    (he : ∀ (s : Shared) (H : Hp) (C : Addr) (cl : List (Str × Addr)) (fp : List Addr), SE (X.blk s H scope (compEnvC scope cl C X.env) fp) B W0 a ma)
    (hy : X.N[i]? = some y := by rfl) (hyl : X.env.scope.names.lookup y = some .local := by rfl)
    (hsw : swapsWith (.ListComp a [⟨tg, e, ifs, 0⟩] scope pos) (some (.Name y py)) spos.line X.env = pure true := by exact sw_true rfl rfl rfl (by decide +kernel))
    (hv : ∀ i ∈ vs, i ∈ own.map (·.2) := by decide) (hs : ∀ x, foldedSetIterable e X.env x = pure x := by intro _; rfl) :
    SS X B W (.Assign [.Name y py] (.ListComp a [⟨tg, e, ifs, 0⟩] scope pos) spos) (setB i (elst (lc mi (own.map (·.2)) bd mt ma))) :=
  ⟨(ps_setLc C.calm C.nd hy hyl hsw hi.pi ok (fun s H C cl fp => (hg s H C cl fp).pg) (fun s H C cl fp => (ht s H C cl fp).pts) (fun s H C cl fp => (he s H C cl fp).pe) hs).imp fun D' σ H h => lc_t hv (setB_O h)⟩

/-! ### calls of defs -/
/-- what a def gives -/
inductive RF where
  | ok (d : D)
  | ol (ds : List D)
  | exc (c : String) (a : D)
  | bad
/-- the promise of a def that does m -/
def spM (K : PySem.W.Frag) (mg : Str → Option Value) (n : Nat) (m : List D → RF) : Sp := fun vs H Q E => ∃ G ds, Same G H ∧ RpA K G vs ds ∧ ds.length = n ∧ match m ds with
  | .ok d => ∀ v G' H', Gr G H G' H' → Rp K G' v d → Q v H'
  | .ol es => ∀ p ws G' H', Gr G H G' H' → H p = none → G' p = none → H' p = some (.lst ws) → RpA K G' ws es → Q (.ref p) H'
  | .exc c a => ∀ cls dd G' H', Gr G H G' H' → Xc K mg c a cls dd G' H' → E cls dd H'
  | .bad => False
/-- the module's name x is a def that does m -/
structure DefAt (P : Program) (w : World) (K : PySem.W.Frag) (mg : Str → Option Value) (base : Heap) (x : Str) (kk : Nat) (ps : List Str) (m : List D → RF) : Prop where
  ex : ∃ f fd, mg x = some (.ref f) ∧ PySem.W.keepIn K (.ref f) = true ∧ Binds K fd ps [] ∧ FnOk P w K mg base (L2.CX P w) kk f fd ps (spM K mg ps.length m)
def R.ofF : RF → R D
  | .ok d => .ok d
  | .ol ds => .ok (.list ds)
  | .exc c a => .exc c a
  | .bad => .bad
def R.ofFO : RF → R (List D)
  | .ol ds => .ok ds
  | .exc c a => .exc c a
  | _ => .bad
@[simp] theorem R.ofF_ok (d : D) : R.ofF (.ok d) = .ok d := rfl
@[simp] theorem R.ofF_ol (d : List D) : R.ofF (.ol d) = .ok (.list d) := rfl
@[simp] theorem R.ofFO_ol (d : List D) : R.ofFO (.ol d) = .ok d := rfl
def call (f : List D → RF) (m : Env → R (List D)) : Env → R D := fun ρ => (m ρ).bind fun ds => R.ofF (f ds)
def callO (f : List D → RF) (m : Env → R (List D)) : Env → R (List D) := fun ρ => (m ρ).bind fun ds => R.ofFO (f ds)
variable {x : Str} {kk : Nat} {ps : List Str} {f : List D → RF}
def argsN (n : Nat) (m : Env → R (List D)) : Env → R (List D) := fun ρ => (m ρ).bind fun ds => if ds.length = n then .ok ds else .bad
theorem sp_of {σ : St} {G H : Hp} {Q : VK} {f : List D → RF} {ds : List D} {vs : List V} {n : Nat} (g : Same G H) (r : RpA X.K G vs ds) (hl : ds.length = n) (h : Af (kx X B W) σ G H (R.ofF (f ds)) fun d G' H' => ∀ v, Rp X.K G' v d → Q v H') : spM X.K X.mg n f vs H Q (WE W σ) := by
  refine ⟨G, ds, g, r, hl, ?_⟩
  cases e : f ds with
  | ok d => rw [e] at h; exact fun v G' H' g r => h G' H' g v r
  | ol es =>
    rw [e] at h
    intro p ws G' H' g1 h0 hg hp r1
    exact h _ _ (g1.freeze h0 hg hp) _ (.lst (SqL.of upd_same) (r1.mono (Same.fz hg)))
  | exc c a => rw [e] at h; exact h
  | bad => rw [e] at h; exact h
theorem sp_ofO {σ : St} {G H : Hp} {Q : VK} {f : List D → RF} {ds : List D} {vs : List V} {n : Nat} (g : Same G H) (r : RpA X.K G vs ds) (hl : ds.length = n)
    (h : Af (kx X B W) σ G H (R.ofFO (f ds)) fun ds G' H' => ∀ p vs, H p = none → G' p = none → H' p = some (.lst vs) → RpA X.K G' vs ds → Q (.ref p) H') : spM X.K X.mg n f vs H Q (WE W σ) := by
  refine ⟨G, ds, g, r, hl, ?_⟩
  cases e : f ds with
  | ok d => rw [e] at h; exact h.elim
  | ol es =>
    rw [e] at h
    intro p ws G' H' g1 h0 hg hp r1
    exact h _ _ g1 p ws h0 hg hp r1
  | exc c a => rw [e] at h; exact h
  | bad => rw [e] at h; exact h
theorem se_call (hd : DefAt X.prog X.w X.K X.mg X.base x kk ps f) (hr : Room kk X.A) (C : Cxt X W) (ha : SA X B W (e :: es) mas) (hg : Gl X x := by rfl) (hdb : (x == ("__debug__" : Str)) = false := by decide)
    (he : starEach (e :: es) X.env = (false, eval e X.env) :: starEach es X.env := by rfl) (hpl : (backTo pos (starEach es X.env)).any (·.1) = false := by rfl) : SE X B W (.Call (.Name x p) (e :: es) [] pos) (call f (argsN ps.length mas)) := by
  obtain ⟨a, fd, hm, hk, hb, F⟩ := hd.ex
  refine ⟨(pe_callS F hr hg hm hk hb (fun σ => passAt C.tk σ) ha.pa hdb he hpl).imp fun σ H Q ⟨ρ, G, s, h⟩ => ?_⟩
  unfold call argsN at h
  refine ⟨ρ, G, s, (Af.bind (Af.bind h)).imp fun ds G1 H1 g1 h1 vs r => ?_⟩
  by_cases hl : ds.length = ps.length
  · rw [if_pos hl] at h1
    exact sp_of g1.gh r hl (h1 G1 H1 (Gr.refl g1.gh))
  · rw [if_neg hl] at h1; exact h1.elim
theorem so_call (hd : DefAt X.prog X.w X.K X.mg X.base x kk ps f) (hr : Room kk X.A) (C : Cxt X W) (ha : SA X B W (e :: es) mas) (hg : Gl X x := by rfl) (hdb : (x == ("__debug__" : Str)) = false := by decide)
    (he : starEach (e :: es) X.env = (false, eval e X.env) :: starEach es X.env := by rfl) (hpl : (backTo pos (starEach es X.env)).any (·.1) = false := by rfl) : SO X B W (.Call (.Name x p) (e :: es) [] pos) (callO f (argsN ps.length mas)) := by
  obtain ⟨a, fd, hm, hk, hb, F⟩ := hd.ex
  refine ⟨(pe_callS F hr hg hm hk hb (fun σ => passAt C.tk σ) ha.pa hdb he hpl).imp fun σ H Q ⟨ρ, G, s, h⟩ => ?_⟩
  refine ⟨ρ, G, s, ?_⟩
  unfold callO argsN at h
  cases em : mas ρ with
  | exc c x => rw [em] at h; exact h
  | bad => rw [em] at h; exact h
  | ok ds =>
    rw [em] at h
    intro G1 H1 g1 vs r
    by_cases hl : ds.length = ps.length
    · simp only [R.bind_ok, if_pos hl] at h
      refine sp_ofO (B := B) g1.gh r hl ((Af.mono g1 h).imp fun es G' H' g' q p ws h0 hg hp r => q p ws (g1.h.free h0) hg hp r)
    · simp only [R.bind_ok, if_neg hl] at h; exact h.elim

/-! ### defs -/
/-- the def of a body m with n names -/
def runD (n : Nat) (m : SM) : List D → RF := fun ds => match m (ds.map Slot.dat ++ List.replicate (n - ds.length) .no) with
  | .rt d => .ok d
  | .rl ds => .ol ds
  | .nx _ => .ok .none
  | .exc c a _ => .exc c a
  | _ => .bad
theorem sl_start {K : PySem.W.Frag} {G H : Hp} {N : List Str} {vs : List V} {ds : List D} {F : Addr → String → Option Addr → Prop} (g : Same G H) (r : RpA K G vs ds) : Sl K ⟨G, H, F⟩ (ds.map Slot.dat ++ List.replicate (N.length - ds.length) .no) G (start N vs) H := by
  have hl := r.len
  have key : ∀ {i : Nat} {sl : Slot}, sl ≠ .no → (ds.map Slot.dat ++ List.replicate (N.length - ds.length) Slot.no)[i]? = some sl → ∃ d, ds[i]? = some d ∧ sl = .dat d := fun {i sl} hs h => by
    by_cases hi : i < ds.length
    · rw [List.getElem?_append_left (by simpa using hi), List.getElem?_map] at h
      rw [List.getElem?_eq_getElem hi] at h ⊢
      exact ⟨_, rfl, (Option.some.inj h).symm⟩
    · rw [List.getElem?_append_right (by simpa using hi), List.getElem?_replicate] at h
      split at h
      · exact absurd (Option.some.inj h).symm hs
      · cases h
  refine ⟨Gr.refl g, by simp [L2.start, hl], fun i d h => ?_, fun i d h => ?_, fun i d h => ?_, fun i j p _ h => ?_, fun i c x h => by obtain ⟨_, _, z⟩ := key (by intro z; cases z) h; cases z⟩
  · obtain ⟨d', h1, h2⟩ := key (by intro z; cases z) h
    cases h2
    obtain ⟨v, h3, h4⟩ := r.get h1
    refine ⟨v, ?_, h4⟩
    obtain ⟨hi, _⟩ := List.getElem?_eq_some_iff.mp h3
    unfold L2.start
    rw [List.getElem?_append_left (by simpa using hi), List.getElem?_map, h3]
    rfl
  · obtain ⟨d', h1, h2⟩ := key (by intro z; cases z) h
    cases h2
  · obtain ⟨d', h1, h2⟩ := key (by intro z; cases z) h
    cases h2
  · cases e : (ds.map Slot.dat ++ List.replicate (N.length - ds.length) Slot.no)[i]? with
    | none => rw [e] at h; exact h.elim
    | some sl =>
      rw [e] at h
      cases sl with
      | no => exact h.elim
      | dat d => exact h.elim
      | ol d => obtain ⟨_, _, z⟩ := key (by intro z; cases z) e; cases z
      | od d => obtain ⟨_, _, z⟩ := key (by intro z; cases z) e; cases z
      | fx c x => exact h.elim
/-- a def may let out: what is wished of it -/
abbrev WD (E : XK) : WX := fun cls d _ H => E cls d H
theorem fn_ok {P : Program} {w : World} {K : PySem.W.Frag} {mg : Str → Option Value} {base : Heap} {qual : Str} {st : Stmt} {g : Addr} {fd : FuncData} {N : List Str} {mb : SM} (F : Fun K x qual st g fd) (S : FnScope N ps (defScope st))
    (hb : ∀ (X : Cx) (E : XK) (B : Bs) (cdv : Value) (A : Around) (outer : List PySem.Env) (s : Shared) (H : Hp), X = cxOf (L2.CX P w) P w K mg base N qual (defScope st) g cdv A outer s H E → Room kk X.A → Cxt X (WD E) → SSs X B (WD E) (defBody st) mb) :
    FnOk P w K mg base (L2.CX P w) (kk + 1) g fd ps (spM K mg ps.length (runD N.length mb)) := by
  refine F.okX S (fun vs H Q E ⟨G, ds, _, r, hl, _⟩ => by rw [r.len, hl]) fun cdv A outer s H vs Q E hr ⟨G, ds, g, r, hl, h⟩ => ?_
  refine ⟨_, (hb _ E ⟨G, H, fun _ _ _ => False⟩ cdv A outer s H rfl hr ⟨rfl, S.nd, takes_of rfl rfl rfl rfl, passes_of rfl⟩).ps, ?_⟩
  refine ⟨_, G, sl_start (N := N) g r, ?_⟩
  unfold runD at h
  cases e : mb (ds.map Slot.dat ++ List.replicate (N.length - ds.length) .no) with
  | nx ρ => rw [e] at h; exact fun σ G' H' s q => h .non G' H' s.gr .non
  | bk ρ => rw [e] at h; exact h.elim
  | ct ρ => rw [e] at h; exact h.elim
  | rt d => rw [e] at h; exact fun v G' H' g r => h v G' H' g r
  | rl d => rw [e] at h; exact fun p ws G' H' g h0 hg hp r => h p ws G' H' g h0 hg hp r
  | exc c a ρ => rw [e] at h; exact fun cls dd σ G' H' s _ xc => h cls dd G' H' s.gr xc
  | bad => rw [e] at h; exact h
end
end Q

set_option maxHeartbeats 1000000
/-! # Qe: operators, comparisons, subscripts -/
namespace PySem
namespace QX
/-- list + list, whatever their records bear beside -/
theorem list_add_any (l : Addr) (items : Array Value) (n : Nat) (sl : Array (Option Value)) (b : Addr) (items2 : Array Value) (n2 : Nat) (sl2 : Array (Option Value)) (hc0 : items.size + items2.size ≤ sizeLine) :
    Meets (Builtin.«list.__add__» ⟨[.ref l, .ref b], []⟩) (fun _ R s => s.heap.get? l = some { cls := .type "list", dict := none, data := .seq items n, slots := sl } ∧ s.heap.get? b = some { cls := .type "list", dict := none, data := .seq items2 n2, slots := sl2 } ∧ R (.ok (.ret (Value.ref s.heap.objs.size))) { s with heap := s.heap.push { cls := Value.type "list", data := Data.seq (items ++ items2) }, toks := s.toks }) :=
  .of_wp fun prog w A R s h => by obtain ⟨hp, g, d, tk, os⟩ := s; obtain ⟨hl, hb, h⟩ := h; have f1 := AutoSeq1.idx_int; have f2 := AutoSeq1.sub_tuple_tuple; have f3 := AutoSeq1.sub_list_list; have f4 := AutoSeq1.sub_tuple_list; have f5 := AutoSeq1.sub_list_tuple; wp_walk using AutoSeq1.wpAny_loadPart' hl, AutoSeq1.wpAny_loadPart' hb; exact ⟨_, rfl, h⟩
theorem add_list_any {prog : Program} {w : World} {A : Around} {E : Value → Shared → Prop} {s : Shared} {l b : Addr} {items items2 : Array Value} {Q : Value → Shared → Prop} (hl : PlainL s.heap l items) (hb : PlainL s.heap b items2)
    (hsz : items.size + items2.size ≤ sizeLine) (h : Q (.ref s.heap.objs.size) { s with heap := s.heap.push { cls := .type "list", data := .seq (items ++ items2) } }) : wpAny (model prog w) A (binaryOp .Add (.ref l) (.ref b)) Q E s := by
  obtain ⟨⟨c1, d1, t1, sl1⟩, n1, e1, h1, h2, h3⟩ := hl
  obtain ⟨⟨c2, d2, t2, sl2⟩, n2, e2, k1, k2, k3⟩ := hb
  simp only at h1 h2 h3 k1 k2 k3
  subst h1 h2 h3 k1 k2 k3
  exact concat_meets ⟨_, e1, rfl⟩ ⟨_, e2, rfl⟩ noFill_list_add seq_list_add F.slot_list_add F.entry_list_add (F.args_list_add_2 _ _) (list_add_any l items n1 sl1 b items2 n2 sl2 hsz) ⟨e1, e2, h⟩
end QX
end PySem
namespace Q
open PySem L2

section
variable {K : PySem.W.Frag} {G H : Hp} {x y : V} {d e : D}
/-! ### Rp and the library's Dp -/
mutual
theorem Rp.dp : ∀ {v : V} {d : D}, Rp K G v d → d.canLay0 = true → Dp K G v d
  | _, _, .non, _ => .non
  | _, _, .bl b, _ => .bl b
  | _, _, .int i, _ => .int i
  | _, _, .str x, _ => .str x
  | _, _, .lst h r, q => .lst h (RpA.dp r (by simpa [PyData.canLay0] using q))
  | _, _, .tup h r, q => .tup (SqT.of h) (RpA.dp r (by simpa [PyData.canLay0] using q))
  | _, _, .dict h r, q => by simp [PyData.canLay0] at q
theorem RpA.dp : ∀ {vs : List V} {ds : List D}, RpA K G vs ds → PyData.canLayAll0 ds = true → DpAll K G vs ds
  | _, _, .nil, _ => .nil
  | _, _, .cons a b, q => by
    rw [PyData.canLayAll0, Bool.and_eq_true] at q
    exact .cons (Rp.dp a q.1) (RpA.dp b q.2)
end
theorem ok_int {g : Int → Int → V} {C : Int → Int → Prop} {f : D → D → Option D} (hf : ∀ i j z, f (.int i) (.int j) = some z → C i j ∧ ∀ G, Rp K G (g i j) z) (hn : ∀ d e z, f d e = some z → ∃ i j, d = .int i ∧ e = .int j) : OkOp K (rI C g) f := by
  intro G H x y d e z Q g rx ry hz hq
  obtain ⟨i, j, rfl, rfl⟩ := hn d e z hz
  cases rx
  cases ry
  obtain ⟨hc, hr⟩ := hf i j z hz
  exact ⟨i, j, rfl, rfl, hc, hq G H (Gr.refl g) _ (hr G)⟩
theorem ok_int0 {g : Int → Int → V} {f : D → D → Option D} (hf : ∀ i j z, f (.int i) (.int j) = some z → ∀ G, Rp K G (g i j) z) (hn : ∀ d e z, f d e = some z → ∃ i j, d = .int i ∧ e = .int j) : OkOp K (rI0 g) f := by
  intro G H x y d e z Q g rx ry hz hq
  obtain ⟨i, j, rfl, rfl⟩ := hn d e z hz
  cases rx
  cases ry
  exact ⟨i, j, rfl, rfl, hq G H (Gr.refl g) _ (hf i j z hz G)⟩
theorem OkOp.or {r r' : R2} {f : D → D → Option D} (h : ∀ (G H : Hp) (x y : V) (d e z : D) (Q : VK), Same G H → Rp K G x d → Rp K G y e → f d e = some z → (∀ G' H', Gr G H G' H' → ∀ w, Rp K G' w z → Q w H') → r x y H Q ∨ r' x y H Q) : OkOp K (fun x y H Q => r x y H Q ∨ r' x y H Q) f := h

/-! ### numbers -/
/-- ints to an int -/
def ii (g : Int → Int → Int) : D → D → Option D
  | .int i, .int j => some (.int (g i j))
  | _, _ => none
/-- ints to a bool -/
def ib (g : Int → Int → Bool) : D → D → Option D
  | .int i, .int j => some (.bool (g i j))
  | _, _ => none
theorem ii_n {g : Int → Int → Int} : ∀ d e z, ii g d e = some z → ∃ i j, d = .int i ∧ e = .int j := by
  intro d e z h
  unfold ii at h
  split at h
  · exact ⟨_, _, rfl, rfl⟩
  · cases h
theorem ib_n {g : Int → Int → Bool} : ∀ d e z, ib g d e = some z → ∃ i j, d = .int i ∧ e = .int j := by
  intro d e z h
  unfold ib at h
  split at h
  · exact ⟨_, _, rfl, rfl⟩
  · cases h
theorem ok_ii {g : Int → Int → Int} : OkOp K (rI0 fun i j => .int (g i j)) (ii g) := ok_int0 (fun i j z h G => by cases h; exact .int _) ii_n
theorem ok_ib {g : Int → Int → Bool} : OkOp K (rI0 fun i j => .bl (g i j)) (ib g) := ok_int0 (fun i j z h G => by cases h; exact .bl _) ib_n
/-- the product of a number below 2 ^ 64 and any, or of less than a million bits together -/
def mulOk (i j : Int) : Bool := decide (i.natAbs < 2 ^ 63) || decide (j.natAbs < 2 ^ 63) || decide (i.natAbs.log2 + j.natAbs.log2 < 1000000)
def dMul : D → D → Option D
  | .int i, .int j => if mulOk i j = true then some (.int (i * j)) else none
  | .str x, .int j => if x.length = 1 ∧ 2 ≤ j ∧ j ≤ 1000 then some (.str ⟨(List.replicate j.toNat x.cps).foldl (· ++ ·) #[]⟩) else none
  | _, _ => none
def divOk (j : Int) : Bool := decide (j ≠ 0) && decide (j.natAbs.log2 < 9000)
def dDiv : D → D → Option D
  | .int i, .int j => if divOk j = true then some (.int (i.fdiv j)) else none
  | _, _ => none
def dMod : D → D → Option D
  | .int i, .int j => if j ≠ 0 then some (.int (i.fmod j)) else none
  | _, _ => none
def powOk (i j : Int) : Bool := decide (0 ≤ j) && decide (j ≤ 1000) && decide (i.natAbs < 2 ^ 63)
def dPow : D → D → Option D
  | .int i, .int j => if powOk i j = true then some (.int (i ^ j.toNat)) else none
  | _, _ => none
end
section
variable {X : Cx} {B : Bs} {W : WX} {a b c e : Expr} {ma mb mc : Env → R D} {mt : Env → R Bool} {pos p : Pos}
theorem lt64 {i : Int} (h : i.natAbs < 2 ^ 63) : -(2 ^ 64) < i ∧ i < 2 ^ 64 := by
  have : (2 : Nat) ^ 63 = 9223372036854775808 := by decide
  omega
theorem mulOk_ok {i j : Int} (h : mulOk i j = true) : IntMulOk i j := by
  unfold mulOk at h
  simp only [Bool.or_eq_true, decide_eq_true_eq] at h
  rcases h with (h | h) | h
  · exact CMul.ok (.inl (lt64 h))
  · exact CMul.ok (.inr (lt64 h))
  · exact CMulW.ok h
def rMulQ : R2 := fun x y H Q => rI (fun i j => IntMulOk i j) (fun i j => .int (i * j)) x y H Q ∨ ∃ z j, x = .str z ∧ y = .int j ∧ (z.length = 1 ∧ 2 ≤ j ∧ j ≤ 1000) ∧ Q (.str ⟨(List.replicate j.toNat z.cps).foldl (· ++ ·) #[]⟩) H
theorem op_mulQ : OpR X (binaryOp .Mult) rMulQ := by
  intro pins s σ H x y v u Q I rx ry h
  rcases h with h | ⟨z, j, rfl, rfl, ⟨h1, h2, h3⟩, q⟩
  · exact opI (C := fun i j => IntMulOk i j) (g := fun i j => i * j) (fun _ _ _ _ _ _ _ hc q => PyProof.Rows.mul_int q hc) pins s σ H x y v u Q I rx ry h
  · obtain ⟨t, rfl⟩ := rx
    obtain ⟨t', rfl⟩ := ry
    have n1 : ¬ j < 1 := by omega
    have e1 : (j == 1) = false := by simp; omega
    have e2 : (z.length == 0) = false := by rw [h1]; rfl
    have hlen : z.length * j.toNat ≤ 1000 := by rw [h1]; omega
    refine PySem.P.mul_str (by simp; omega) (fun _ _ => ?_) (fun _ _ => ?_) ?_
    · have : (1 : Int) ≤ (2 ^ 63 - 1) / j := by
        rw [Int.le_ediv_iff_mul_le (by omega)]; omega
      omega
    · unfold Builtin.Str.tooLong
      simp
      have := sizeLine_eq
      omega
    · rw [if_neg n1, e1, e2]
      rw [if_neg (by simp)]
      refine ⟨?_, .str _, H, I.tok _, ⟨_, rfl⟩, q⟩
      have := sizeLine_eq
      have e : ∀ (n : Nat) (acc : Array Nat), ((List.replicate n z.cps).foldl (· ++ ·) acc).size = acc.size + n * z.cps.size := fun n => by
        induction n with
        | zero => intro acc; simp
        | succ n ih => intro acc; rw [List.replicate_succ, List.foldl_cons, ih, Array.size_append, Nat.succ_mul]; omega
      show Array.size _ ≤ _
      rw [e]
      have hz : z.cps.size = 1 := h1
      rw [hz]
      simp
      omega
end
end Q

set_option maxHeartbeats 1000000
/-! # Qf: the rules of operators, comparisons, subscripts -/
namespace Q
open PySem L2

def dAdd : D → D → Option D
  | .int i, .int j => some (.int (i + j))
  | .str x, .str y => if x.length + y.length ≤ most then some (.str (x ++ y)) else none
  | .list xs, .list ys => if xs.length + ys.length ≤ most then some (.list (xs ++ ys)) else none
  | _, _ => none
def dEq : D → D → Option Bool
  | .str x, .str y => some (decide (x = y))
  | d, e => if SeqAt.shaped d = true ∧ SeqAt.shaped e = true then some (PyData.eqv d e) else none
def flatD : D → Bool
  | .none => true
  | .bool _ => true
  | .int _ => true
  | .str _ => true
  | _ => false
/-- a key of a dict -/
def keyOf : List D → Option (List Key)
  | [] => some []
  | .int i :: r => (keyOf r).map fun k => .inl i :: k
  | .str x :: r => (keyOf r).map fun k => .inr x :: k
  | _ => none
def dlook : List (D × D) → List Key → Option D
  | [], _ => none
  | (.tuple ks, v) :: r, k => if keyOf ks = some k then some v else dlook r k
  | _ :: r, k => dlook r k
def isKey (k : List Key) : D → Bool
  | .tuple ks => decide (keyOf ks = some k)
  | _ => false
def dput (es : List (D × D)) (k : List Key) (v : D) : List (D × D) :=
  if (es.any fun e => isKey k e.1) = true then es.map (fun e => if isKey k e.1 = true then (e.1, v) else e) else es ++ [(.tuple (k.map kD), v)]
def dIn : D → D → Option Bool
  | x, .list ds => if SeqAt.shaped x = true ∧ SeqAt.shaped (.list ds) = true then some (ds.any fun y => PyData.eqv y x) else none
  | x, .tuple ds => if flatD x = true ∧ ds.all flatD = true then some (ds.any fun y => PyData.eqv y x) else none
  | .str c, .str z => if c.length = 1 then some (decide (c.cps.getD 0 0 ∈ z.cps.toList)) else none
  | .tuple ks, .dict es => (keyOf ks).map fun k => (dlook es k).isSome
  | _, _ => none
def bo (f : D → D → Option Bool) : D → D → Option D := fun x y => (f x y).map .bool
def nbo (f : D → D → Option Bool) : D → D → Option D := fun x y => (f x y).map fun b => .bool (!b)
def dIx : D → D → Option D
  | .list ds, .int i => atI ds i
  | .tuple ds, .int i => atI ds i
  | .str z, .int i => if z.length ≤ most then (atI z.cps.toList i).map fun c => .str ⟨#[c]⟩ else none
  | .dict es, .tuple ks => (keyOf ks).bind fun k => dlook es k
  | _, _ => none

section
variable {K : PySem.W.Frag} {G H : Hp} {x y : V} {d e : D}
theorem keyOf_kD : ∀ k : List Key, keyOf (k.map kD) = some k
  | [] => rfl
  | .inl i :: r => by simp [keyOf, kD, keyOf_kD r]
  | .inr x :: r => by simp [keyOf, kD, keyOf_kD r]
theorem key_rp : ∀ {vs : List V} {ds : List D} {k : List Key}, RpA K G vs ds → keyOf ds = some k → vs = k.map kV ∧ ds = k.map kD
  | _, _, _, .nil, h => by simp [keyOf] at h; subst h; exact ⟨rfl, rfl⟩
  | _, _, _, .cons a b, h => by
    cases a with
    | int i =>
      simp [keyOf] at h
      obtain ⟨k', h1, rfl⟩ := h
      obtain ⟨e1, e2⟩ := key_rp b h1
      subst e1 e2
      exact ⟨rfl, rfl⟩
    | str i =>
      simp [keyOf] at h
      obtain ⟨k', h1, rfl⟩ := h
      obtain ⟨e1, e2⟩ := key_rp b h1
      subst e1 e2
      exact ⟨rfl, rfl⟩
    | _ => simp [keyOf] at h
theorem look_rp : ∀ {kvs : List (List Key × V)} {es : List (D × D)} (k : List Key), RpD K G kvs es → (dlook es k = none → valV kvs k = none) ∧ (∀ d, dlook es k = some d → ∃ v, valV kvs k = some v ∧ Rp K G v d)
  | _, _, k, .nil => ⟨fun _ => rfl, fun d h => by simp [dlook] at h⟩
  | _, _, k, @RpD.cons _ _ k0 v0 d0 kvs es r rr => by
    by_cases e : k0 = k
    · subst e
      refine ⟨fun h => ?_, fun d h => ?_⟩
      · simp [dlook, keyOf_kD] at h
      · simp [dlook, keyOf_kD] at h
        subst h
        exact ⟨v0, valV_pos rfl, r⟩
    · have h1 : dlook ((.tuple (k0.map kD), d0) :: es) k = dlook es k := by simp [dlook, keyOf_kD, e]
      rw [h1, valV_neg (p := (k0, v0)) e]
      exact look_rp k rr
theorem isKey_kD {k k0 : List Key} : isKey k (.tuple (k0.map kD)) = decide (k0 = k) := by simp [isKey, keyOf_kD]
theorem any_rp {k : List Key} : ∀ {kvs : List (List Key × V)} {es : List (D × D)}, RpD K G kvs es → (es.any fun e => isKey k e.1) = (kvs.any fun kv => decide (kv.1 = k))
  | _, _, .nil => rfl
  | _, _, .cons r rr => by rw [List.any_cons, List.any_cons, any_rp rr, isKey_kD]
theorem map_rp {k : List Key} {v : V} {d : D} (h : Rp K G v d) : ∀ {kvs : List (List Key × V)} {es : List (D × D)}, RpD K G kvs es → RpD K G (kvs.map fun kv => if kv.1 = k then (kv.1, v) else kv) (es.map fun e => if isKey k e.1 = true then (e.1, d) else e)
  | _, _, .nil => .nil
  | _, _, @RpD.cons _ _ k0 v0 d0 kvs es r rr => by
    rw [List.map_cons, List.map_cons]
    by_cases e : k0 = k
    · rw [if_pos e, if_pos (by rw [isKey_kD]; exact decide_eq_true e)]
      exact .cons h (map_rp h rr)
    · rw [if_neg e, if_neg (by rw [isKey_kD]; simp [e])]
      exact .cons r (map_rp h rr)
theorem RpD.append : ∀ {kvs kws : List (List Key × V)} {es fs : List (D × D)}, RpD K G kvs es → RpD K G kws fs → RpD K G (kvs ++ kws) (es ++ fs)
  | _, _, _, _, .nil, q => q
  | _, _, _, _, .cons r rr, q => .cons r (RpD.append rr q)
theorem put_rp {kvs : List (List Key × V)} {es : List (D × D)} (r : RpD K G kvs es) (k : List Key) {v : V} {d : D} (h : Rp K G v d) : RpD K G (putK kvs k v) (dput es k d) := by
  unfold putK dput
  rw [any_rp r]
  split
  · exact map_rp h r
  · exact r.append (.cons h .nil)
theorem flat_rp {x : V} {d : D} (r : Rp K G x d) (h : flatD d = true) : flatV x = true := by cases r <;> first | rfl | cases h
theorem flats_rp : ∀ {vs : List V} {ds : List D}, RpA K G vs ds → ds.all flatD = true → vs.all flatV = true
  | _, _, .nil, _ => rfl
  | _, _, .cons a b, h => by
    rw [List.all_cons, Bool.and_eq_true] at h ⊢
    exact ⟨flat_rp a h.1, flats_rp b h.2⟩
theorem eq_rp {x y : V} {d e : D} (r : Rp K G x d) (q : Rp K G y e) (h : flatD d = true) (h' : flatD e = true) : eqV x y = PyData.eqv d e := by
  cases r with
  | non => cases q <;> first | rfl | cases h'
  | bl b => cases q <;> first | rfl | cases h'
  | int b => cases q <;> first | rfl | cases h'
  | str b => cases q <;> first | rfl | cases h'
  | _ => cases h
theorem in_rp {x : V} {d : D} (r : Rp K G x d) (h : flatD d = true) : ∀ {vs : List V} {ds : List D}, RpA K G vs ds → ds.all flatD = true → inV x vs = ds.any fun y => PyData.eqv y d
  | _, _, .nil, _ => rfl
  | _, _, .cons a b, q => by
    rw [List.all_cons, Bool.and_eq_true] at q
    unfold inV
    rw [List.any_cons, List.any_cons, eq_rp a r q.1 h]
    have := in_rp r h b q.2
    unfold inV at this
    rw [this]
theorem atI_rp {vs : List V} {ds : List D} {i : Int} {z : D} (r : RpA K G vs ds) (h : atI ds i = some z) : ∃ v, atI vs i = some v ∧ Rp K G v z := by
  unfold atI at h ⊢
  rw [r.len]
  cases e : ixN ds.length i with
  | none => rw [e] at h; cases h
  | some j => rw [e] at h; exact r.get h
theorem shaped_lay {d : D} (h : SeqAt.shaped d = true) : d.canLay0 = true := SeqAt.canLay_of_shaped h
end

section
variable {X : Cx} {B : Bs} {W : WX} {a b c e : Expr} {ma mb mc : Env → R D} {mt : Env → R Bool} {pos p : Pos}
theorem sm_l {K : PySem.W.Frag} {G H : Hp} {a : Addr} {xs : List V} (e : Same G H) (h : SqL K G a xs) : SqL K H a xs := e.seq h

/-! ### + -/
def rCatQ (K : PySem.W.Frag) : R2 := fun x y H Q => ∃ l b xs zs, x = .ref l ∧ y = .ref b ∧ SqL K H l xs ∧ SqL K H b zs ∧ xs.length + zs.length ≤ sizeLine ∧ ∀ p, H p = none → Q (.ref p) (upd H p (.lst (xs ++ zs)))
theorem op_catQ : OpR X (binaryOp .Add) (rCatQ X.K) := by
  intro pins s σ H x y v u Q I rx ry h
  obtain ⟨l, b, xs, zs, rfl, rfl, hH, hB, hz, q⟩ := h
  cases rx
  cases ry
  obtain ⟨its, r, pl, z⟩ := I.list hH
  obtain ⟨its2, r2, pl2, z2⟩ := I.list hB
  refine PySem.QX.add_list_any pl pl2 (by rw [List.size_toArray, List.size_toArray, ← r.length, ← r2.length]; exact hz) ?_
  have ea : its.toArray ++ its2.toArray = (its ++ its2).toArray := by simp
  rw [ea]
  exact ⟨.ref _, _, I.lnew (t' := s.toks) (r.append r2) (by rw [List.length_append]; omega), rfl, q _ I.fresh⟩
def rAddQ (K : PySem.W.Frag) : R2 := fun x y H Q => rI0 (fun i j => .int (i + j)) x y H Q ∨ ((∃ i j, x = .str i ∧ y = .str j ∧ i.length + j.length ≤ sizeLine ∧ Q (.str (i ++ j)) H) ∨ rCatQ K x y H Q)
theorem op_addQ : OpR X (binaryOp .Add) (rAddQ X.K) := op_add.or (op_add_str.or op_catQ)
theorem ok_add {K : PySem.W.Frag} : OkOp K (rAddQ K) dAdd := by
  intro G H x y d e z Q g rx ry hz hq
  cases rx with
  | int i => cases ry with
    | int j => cases hz; exact .inl ⟨i, j, rfl, rfl, hq G H (Gr.refl g) _ (.int _)⟩
    | _ => cases hz
  | str i => cases ry with
    | str j =>
      simp only [dAdd] at hz
      split at hz
      · cases hz; exact .inr (.inl ⟨i, j, rfl, rfl, most_ok ‹_›, hq G H (Gr.refl g) _ (.str _)⟩)
      · cases hz
    | _ => cases hz
  | @lst l xs ds h r => cases ry with
    | @lst l' ys es h' r' =>
      simp only [dAdd] at hz
      split at hz
      · rename_i hl
        cases hz
        refine .inr (.inr ⟨l, l', xs, ys, rfl, rfl, g.seq h, g.seq h', by rw [r.len, r'.len]; exact most_ok hl, fun p hp => ?_⟩)
        have gn := Gr.new (o := .lst (xs ++ ys)) g hp
        exact hq _ _ gn _ (.lst (SqL.of upd_same) ((r.mono gn.g).append (r'.mono gn.g)))
      · cases hz
    | _ => cases hz
  | _ => cases ry <;> cases hz
def add := e2 dAdd
theorem se_add (ha : SE X B W a ma) (hb : SE X B W b mb) : SE X B W (.BinOp a .Add b pos) (add ma mb) := se_bin op_addQ ok_add ha hb
/-- a new list of two -/
def cat (ma mb : Env → R D) : Env → R (List D) := fun ρ => (ma ρ).bind fun x => (mb ρ).bind fun y => match x, y with
  | .list xs, .list ys => if xs.length + ys.length ≤ most then .ok (xs ++ ys) else .bad
  | _, _ => .bad
theorem so_cat (ha : SE X B W a ma) (hb : SE X B W b mb) : SO X B W (.BinOp a .Add b pos) (cat ma mb) := ⟨(pe_op op_catQ ha.pe hb.pe).imp fun σ H Q ⟨ρ, G, s, h⟩ => by
  refine ⟨ρ, G, s, ?_⟩
  unfold cat at h
  cases e1 : ma ρ with
  | exc c x => rw [e1] at h; exact h
  | bad => rw [e1] at h; exact h
  | ok d =>
    rw [e1] at h
    intro G1 H1 g1 v1 r1
    refine ⟨ρ, G1, s.step g1, ?_⟩
    cases e2 : mb ρ with
    | exc c x => simp only [R.bind_ok, e2] at h; exact Af.mono g1 h
    | bad => simp only [R.bind_ok, e2] at h; exact h.elim
    | ok d2 =>
      simp only [R.bind_ok, e2] at h
      intro G2 H2 g2 v2 r2
      cases r1 with
      | @lst l xs ds hh r => cases r2 with
        | @lst l' ys es h' r' =>
          by_cases hl : ds.length + es.length ≤ most
          · simp only [if_pos hl] at h
            refine ⟨l, l', xs, ys, rfl, rfl, (g2.g.trans g2.gh).seq hh, g2.gh.seq h', by rw [r.len, r'.len]; exact most_ok hl, fun p hp => ?_⟩
            have gn := Gr.own (o := .lst (xs ++ ys)) g2.gh hp
            refine h _ _ ((g1.trans g2).trans gn) p _ ((g1.trans g2).h.free hp) ?_ upd_same ((r.mono g2.g).append r')
            cases q : G2 p with
            | none => rfl
            | some o => rw [g2.gh _ _ q] at hp; cases hp
          · simp only [if_neg hl] at h; exact h.elim
        | _ => exact h.elim
      | _ => cases r2 <;> exact h.elim⟩

/-! ### other numbers -/
def sub := e2 (ii fun i j => i - j)
def mul := e2 dMul
def div := e2 dDiv
def mod := e2 dMod
def pow := e2 dPow
def dNeg : D → Option D
  | .int i => some (.int (-i))
  | _ => none
def neg := e1 dNeg
theorem se_sub (ha : SE X B W a ma) (hb : SE X B W b mb) : SE X B W (.BinOp a .Sub b pos) (sub ma mb) := se_bin op_sub ok_ii ha hb
theorem ok_mul {K : PySem.W.Frag} : OkOp K rMulQ dMul := by
  intro G H x y d e z Q g rx ry hz hq
  cases rx with
  | int i => cases ry with
    | int j =>
      simp only [dMul] at hz
      split at hz
      · cases hz; exact .inl ⟨i, j, rfl, rfl, mulOk_ok ‹_›, hq G H (Gr.refl g) _ (.int _)⟩
      · cases hz
    | _ => cases hz
  | str i => cases ry with
    | int j =>
      simp only [dMul] at hz
      split at hz
      · cases hz; exact .inr ⟨i, j, rfl, rfl, ‹_›, hq G H (Gr.refl g) _ (.str _)⟩
      · cases hz
    | _ => cases hz
  | _ => cases ry <;> cases hz
theorem se_mul (ha : SE X B W a ma) (hb : SE X B W b mb) : SE X B W (.BinOp a .Mult b pos) (mul ma mb) := se_bin op_mulQ ok_mul ha hb
theorem op_divQ : OpR X (binaryOp .FloorDiv) (rI (fun _ j => divOk j = true) fun i j => .int (i.fdiv j)) := opI fun i j _ _ _ _ _ hc q => by
  unfold divOk at hc
  simp only [Bool.and_eq_true, decide_eq_true_eq] at hc
  exact PyProof.Rows.floordiv_int hc.1 q (.inl (PyProof.noPylong_of_log2 hc.2))
theorem ok_div {K : PySem.W.Frag} : OkOp K (rI (fun _ j => divOk j = true) fun i j => .int (i.fdiv j)) dDiv := ok_int (fun i j z h => by
  simp only [dDiv] at h
  split at h
  · cases h; exact ⟨‹_›, fun G => .int _⟩
  · cases h) (fun d e z h => by unfold dDiv at h; split at h; exact ⟨_, _, rfl, rfl⟩; cases h)
theorem se_div (ha : SE X B W a ma) (hb : SE X B W b mb) : SE X B W (.BinOp a .FloorDiv b pos) (div ma mb) := se_bin op_divQ ok_div ha hb
theorem ok_mod {K : PySem.W.Frag} : OkOp K (rI (fun _ j => j ≠ 0) fun i j => .int (i.fmod j)) dMod := ok_int (fun i j z h => by
  simp only [dMod] at h
  split at h
  · cases h; exact ⟨‹_›, fun G => .int _⟩
  · cases h) (fun d e z h => by unfold dMod at h; split at h; exact ⟨_, _, rfl, rfl⟩; cases h)
theorem se_mod (ha : SE X B W a ma) (hb : SE X B W b mb) : SE X B W (.BinOp a .Mod b pos) (mod ma mb) := se_bin op_modN ok_mod ha hb
theorem ok_pow {K : PySem.W.Frag} : OkOp K (rI CPow fun i j => .int (i ^ j.toNat)) dPow := ok_int (fun i j z h => by
  simp only [dPow] at h
  split at h
  · rename_i hh
    cases h
    unfold powOk at hh
    simp only [Bool.and_eq_true, decide_eq_true_eq] at hh
    exact ⟨⟨hh.1.1, by omega, by omega⟩, fun G => .int _⟩
  · cases h) (fun d e z h => by unfold dPow at h; split at h; exact ⟨_, _, rfl, rfl⟩; cases h)
theorem se_pow (ha : SE X B W a ma) (hb : SE X B W b mb) : SE X B W (.BinOp a .Pow b pos) (pow ma mb) := se_bin op_pow ok_pow ha hb
theorem se_neg (ha : SE X B W a ma) : SE X B W (.UnaryOp .USub a pos) (neg ma) := se_un un_neg (by
  intro G H x d z Q g rx hz hq
  cases rx with
  | int i => cases hz; exact ⟨i, rfl, hq G H (Gr.refl g) _ (.int _)⟩
  | _ => cases hz) ha

/-! ### comparisons -/
def lt := e2 (ib fun i j => decide (i < j))
def le := e2 (ib fun i j => decide (i ≤ j))
def gt := e2 (ib fun i j => decide (j < i))
def ge := e2 (ib fun i j => decide (j ≤ i))
def eq := e2 (bo dEq)
def ne := e2 (nbo dEq)
def isin := e2 (bo dIn)
def notin := e2 (nbo dIn)
theorem se_lt (ha : SE X B W a ma) (hb : SE X B W b mb) : SE X B W (.Compare a [.Lt] [b] pos) (lt ma mb) := se_cmpG op_lt ok_ib (nomark _) ha hb
theorem se_le (ha : SE X B W a ma) (hb : SE X B W b mb) : SE X B W (.Compare a [.LtE] [b] pos) (le ma mb) := se_cmpG op_le ok_ib (nomark _) ha hb
theorem se_gt (ha : SE X B W a ma) (hb : SE X B W b mb) : SE X B W (.Compare a [.Gt] [b] pos) (gt ma mb) := se_cmpG op_gt ok_ib (nomark _) ha hb
theorem se_ge (ha : SE X B W a ma) (hb : SE X B W b mb) : SE X B W (.Compare a [.GtE] [b] pos) (ge ma mb) := se_cmpG op_ge ok_ib (nomark _) ha hb
theorem st_lt (ha : SE X B W a ma) (hb : SE X B W b mb) : ST X B W (.Compare a [.Lt] [b] pos) (tst (lt ma mb)) := st_cmpG op_lt ok_ib (nomark _) ha hb
theorem st_le (ha : SE X B W a ma) (hb : SE X B W b mb) : ST X B W (.Compare a [.LtE] [b] pos) (tst (le ma mb)) := st_cmpG op_le ok_ib (nomark _) ha hb
theorem st_gt (ha : SE X B W a ma) (hb : SE X B W b mb) : ST X B W (.Compare a [.Gt] [b] pos) (tst (gt ma mb)) := st_cmpG op_gt ok_ib (nomark _) ha hb
theorem st_ge (ha : SE X B W a ma) (hb : SE X B W b mb) : ST X B W (.Compare a [.GtE] [b] pos) (tst (ge ma mb)) := st_cmpG op_ge ok_ib (nomark _) ha hb
/-- a two-place question -/
def OkB (K : PySem.W.Frag) (r : R2) (f : D → D → Option Bool) (g : Bool → Bool) : Prop := ∀ (G H : Hp) (x y : V) (d e : D) (b : Bool) (Q : VK), Same G H → Rp K G x d → Rp K G y e → f d e = some b → Q (.bl (g b)) H → r x y H Q
theorem OkB.op {K : PySem.W.Frag} {r : R2} {f : D → D → Option Bool} (h : OkB K r f fun b => b) : OkOp K r (bo f) := by
  intro G H x y d e z Q g rx ry hz hq
  unfold bo at hz
  cases e1 : f d e with
  | none => rw [e1] at hz; cases hz
  | some b => rw [e1] at hz; cases hz; exact h G H x y d e b Q g rx ry e1 (hq G H (Gr.refl g) _ (.bl _))
theorem OkB.nop {K : PySem.W.Frag} {r : R2} {f : D → D → Option Bool} (h : OkB K r f fun b => !b) : OkOp K r (nbo f) := by
  intro G H x y d e z Q g rx ry hz hq
  unfold nbo at hz
  cases e1 : f d e with
  | none => rw [e1] at hz; cases hz
  | some b => rw [e1] at hz; cases hz; exact h G H x y d e b Q g rx ry e1 (hq G H (Gr.refl g) _ (.bl _))
def rEqQ (K : PySem.W.Frag) : R2 := fun x y H Q => rEq x y H Q ∨ rEqD K x y H Q
def rNeQ (K : PySem.W.Frag) : R2 := fun x y H Q => rNe x y H Q ∨ rNeD K x y H Q
theorem dec_str (a b : Str) : decide (V.str a = V.str b) = decide (a = b) := by
  by_cases h : a = b
  · subst h; simp
  · rw [decide_eq_false h, decide_eq_false]; intro z; cases z; exact h rfl
theorem ok_eq {K : PySem.W.Frag} : OkB K (rEqQ K) dEq fun b => b := by
  intro G H x y d e b Q g rx ry hz hq
  have gen : (if SeqAt.shaped d = true ∧ SeqAt.shaped e = true then some (PyData.eqv d e) else none) = some b → rEqQ K x y H Q := fun h => by
    split at h
    · rename_i hs
      cases h
      exact .inr ⟨d, e, (rx.mono g).dp (shaped_lay hs.1), (ry.mono g).dp (shaped_lay hs.2), hs.1, hs.2, hq⟩
    · cases h
  cases rx with
  | str i => cases ry with
    | str j => cases hz; exact .inl ⟨rfl, by rw [dec_str]; exact hq⟩
    | _ => exact gen hz
  | _ => exact gen hz
theorem ok_ne {K : PySem.W.Frag} : OkB K (rNeQ K) dEq fun b => !b := by
  intro G H x y d e b Q g rx ry hz hq
  have gen : (if SeqAt.shaped d = true ∧ SeqAt.shaped e = true then some (PyData.eqv d e) else none) = some b → rNeQ K x y H Q := fun h => by
    split at h
    · rename_i hs
      cases h
      exact .inr ⟨d, e, (rx.mono g).dp (shaped_lay hs.1), (ry.mono g).dp (shaped_lay hs.2), hs.1, hs.2, hq⟩
    · cases h
  cases rx with
  | str i => cases ry with
    | str j => cases hz; exact .inl ⟨rfl, by rw [dec_str]; exact hq⟩
    | _ => exact gen hz
  | _ => exact gen hz
theorem u64 {k : Nat} {A : Around} (h : Room k A) : A.units + 65 < cLine := by have := h.un; omega
theorem se_eq {k : Nat} (hr : Room k X.A) (ha : SE X B W a ma) (hb : SE X B W b mb) : SE X B W (.Compare a [.Eq] [b] pos) (eq ma mb) := se_cmpG (op_eq.or (op_eqD (by have := u64 hr; omega))) ok_eq.op (nomark _) ha hb
theorem se_ne {k : Nat} (hr : Room k X.A) (ha : SE X B W a ma) (hb : SE X B W b mb) : SE X B W (.Compare a [.NotEq] [b] pos) (ne ma mb) := se_cmpG (op_ne.or (op_neD (by have := u64 hr; omega))) ok_ne.nop (nomark _) ha hb
theorem st_eq {k : Nat} (hr : Room k X.A) (ha : SE X B W a ma) (hb : SE X B W b mb) : ST X B W (.Compare a [.Eq] [b] pos) (tst (eq ma mb)) := st_cmpG (op_eq.or (op_eqD (by have := u64 hr; omega))) ok_eq.op (nomark _) ha hb
theorem st_ne {k : Nat} (hr : Room k X.A) (ha : SE X B W a ma) (hb : SE X B W b mb) : ST X B W (.Compare a [.NotEq] [b] pos) (tst (ne ma mb)) := st_cmpG (op_ne.or (op_neD (by have := u64 hr; omega))) ok_ne.nop (nomark _) ha hb
/-! is None -/
def rIsN : R2 := fun x y H Q => y = .non ∧ Q (.bl (decide (x = .non))) H
def rNotN : R2 := fun x y H Q => y = .non ∧ Q (.bl (!decide (x = .non))) H
theorem op_isN1 : OpR X (compareOp .Is) rIsN := op_isN
theorem op_notN1 : OpR X (compareOp .IsNot) rNotN := op_notN
def dIsN : D → D → Option Bool
  | .none, .none => some true
  | _, .none => some false
  | _, _ => none
def isn := e2 (bo dIsN)
def notn := e2 (nbo dIsN)
theorem isn_rp {K : PySem.W.Frag} {G : Hp} {x y : V} {d e : D} {b : Bool} (rx : Rp K G x d) (ry : Rp K G y e) (hz : dIsN d e = some b) : y = .non ∧ decide (x = .non) = b := by
  cases ry with
  | non => cases rx <;> (cases hz; exact ⟨rfl, by simp⟩)
  | _ => cases rx <;> cases hz
theorem ok_isn {K : PySem.W.Frag} : OkB K rIsN dIsN fun b => b := by
  intro G H x y d e b Q g rx ry hz hq
  obtain ⟨e1, e2⟩ := isn_rp rx ry hz
  exact ⟨e1, by rw [e2]; exact hq⟩
theorem ok_notn {K : PySem.W.Frag} : OkB K rNotN dIsN fun b => !b := by
  intro G H x y d e b Q g rx ry hz hq
  obtain ⟨e1, e2⟩ := isn_rp rx ry hz
  exact ⟨e1, by rw [e2]; exact hq⟩
theorem se_isn (ha : SE X B W a ma) (hb : SE X B W b mb) : SE X B W (.Compare a [.Is] [b] pos) (isn ma mb) := se_cmpG op_isN1 ok_isn.op (nomark _) ha hb
theorem se_notn (ha : SE X B W a ma) (hb : SE X B W b mb) : SE X B W (.Compare a [.IsNot] [b] pos) (notn ma mb) := se_cmpG op_notN1 ok_notn.nop (nomark _) ha hb
theorem st_isn (ha : SE X B W a ma) (hb : SE X B W b mb) : ST X B W (.Compare a [.Is] [b] pos) (tst (isn ma mb)) := st_cmpG op_isN1 ok_isn.op (nomark _) ha hb
theorem st_notn (ha : SE X B W a ma) (hb : SE X B W b mb) : ST X B W (.Compare a [.IsNot] [b] pos) (tst (notn ma mb)) := st_cmpG op_notN1 ok_notn.nop (nomark _) ha hb
end
end Q

set_option maxHeartbeats 1000000
/-! # Qg: in, subscripts, slices, built-in functions, methods, one's own lists and dicts -/
namespace Q
open PySem L2
section
variable {X : Cx} {B : Bs} {W : WX} {a b c e : Expr} {ma mb mc : Env → R D} {mt : Env → R Bool} {mas : Env → R (List D)} {mo : Env → R (List D)} {pos p : Pos} {es : List Expr}

/-! ### in -/
def rDcI (neg : Bool) : R2 := fun x y H Q => ∃ a o, y = .ref a ∧ DGet H a x o ∧ Q (.bl (if neg then !o.isSome else o.isSome)) H
theorem op_inDc (hu : X.A.units + 1 < cLine) : OpR X (compareOp .In) (rDcI false) := by
  intro pins s σ H x y v u Q I rx ry h
  obtain ⟨a, o, rfl, g, q⟩ := h
  obtain rfl : u = Value.ref a := ry
  exact d_in hu I g rx fun s3 I3 => ⟨.bl o.isSome, H, I3, rfl, q⟩
theorem op_notInDc (hu : X.A.units + 1 < cLine) : OpR X (compareOp .NotIn) (rDcI true) := by
  intro pins s σ H x y v u Q I rx ry h
  obtain ⟨a, o, rfl, g, q⟩ := h
  obtain rfl : u = Value.ref a := ry
  exact d_notIn hu I g rx fun s3 I3 => ⟨.bl (!o.isSome), H, I3, rfl, q⟩
def rSg (neg : Bool) : R2 := fun x y H Q => ∃ (c : Nat) (z : Str), x = .str ⟨#[c]⟩ ∧ y = .str z ∧ Q (.bl (if neg then !decide (c ∈ z.cps.toList) else decide (c ∈ z.cps.toList))) H
theorem op_inSg : OpR X (compareOp .In) (rSg false) := op_in_sign
theorem op_notInSg : OpR X (compareOp .NotIn) (rSg true) := op_notIn_sign
def rInQ (K : PySem.W.Frag) : R2 := fun x y H Q => rInD K x y H Q ∨ (rIn K false x y H Q ∨ (rSg false x y H Q ∨ rDcI false x y H Q))
def rNotInQ (K : PySem.W.Frag) : R2 := fun x y H Q => rNotInD K x y H Q ∨ (rIn K true x y H Q ∨ (rSg true x y H Q ∨ rDcI true x y H Q))
theorem one_sign {c : Str} (h : c.length = 1) : c = ⟨#[c.cps.getD 0 0]⟩ := by
  obtain ⟨⟨l⟩⟩ := c
  have h' : l.length = 1 := h
  match l, h' with
  | [x], _ => rfl
theorem dget_rp {K : PySem.W.Frag} {G H : Hp} {x : V} {ks : List D} {k : List Key} {ad : Addr} {kvs : List (List Key × V)} (g : Same G H) (rx : Rp K G x (.tuple ks)) (hk : keyOf ks = some k) (hd : H ad = some (.dT kvs)) : DGet H ad x (valV kvs k) := by
  cases rx with
  | tup h r =>
    obtain ⟨e1, _⟩ := key_rp r hk
    subst e1
    exact DGet.t hd (g _ _ h)
theorem ok_in {K : PySem.W.Frag} : OkB K (rInQ K) dIn fun b => b := by
  intro G H x y d e b Q g rx ry hz hq
  cases ry with
  | @lst l xs ds h r =>
    have hz : (if SeqAt.shaped d = true ∧ SeqAt.shaped (.list ds) = true then some (ds.any fun y => PyData.eqv y d) else none) = some b := by cases rx <;> exact hz
    split at hz
    · rename_i hs
      cases hz
      exact .inl ⟨d, ds, (rx.mono g).dp (shaped_lay hs.1), (Rp.mono g (.lst h r)).dp (shaped_lay hs.2), hs.1, hs.2, hq⟩
    · cases hz
  | @tup l xs ds h r =>
    have hz : (if flatD d = true ∧ ds.all flatD = true then some (ds.any fun y => PyData.eqv y d) else none) = some b := by cases rx <;> exact hz
    split at hz
    · rename_i hs
      cases hz
      refine .inr (.inl ⟨l, xs, rfl, .inr (SqT.of (g _ _ h)), flat_rp rx hs.1, flats_rp r hs.2, ?_⟩)
      rw [in_rp rx hs.1 r hs.2]
      exact hq
    · cases hz
  | str z =>
    cases rx with
    | str c =>
      simp only [dIn] at hz
      split at hz
      · rename_i hl
        cases hz
        exact .inr (.inr (.inl ⟨_, z, congrArg V.str (one_sign hl), rfl, hq⟩))
      · cases hz
    | _ => cases hz
  | @dict ad kvs es h r =>
    cases rx with
    | @tup l xs ks h' r' =>
      simp only [dIn, Option.map_eq_some_iff] at hz
      obtain ⟨k, hk, hb⟩ := hz
      refine .inr (.inr (.inr ⟨ad, _, rfl, dget_rp g (.tup h' r') hk (g _ _ h), ?_⟩))
      obtain ⟨l1, l2⟩ := look_rp k r
      cases e1 : dlook es k with
      | none => rw [e1] at hb; subst hb; rw [l1 e1]; exact hq
      | some d => rw [e1] at hb; subst hb; obtain ⟨v, e2, _⟩ := l2 d e1; rw [e2]; exact hq
    | _ => cases hz
  | _ => cases rx <;> cases hz
theorem ok_notin {K : PySem.W.Frag} : OkB K (rNotInQ K) dIn fun b => !b := by
  intro G H x y d e b Q g rx ry hz hq
  cases ry with
  | @lst l xs ds h r =>
    have hz : (if SeqAt.shaped d = true ∧ SeqAt.shaped (.list ds) = true then some (ds.any fun y => PyData.eqv y d) else none) = some b := by cases rx <;> exact hz
    split at hz
    · rename_i hs
      cases hz
      exact .inl ⟨d, ds, (rx.mono g).dp (shaped_lay hs.1), (Rp.mono g (.lst h r)).dp (shaped_lay hs.2), hs.1, hs.2, hq⟩
    · cases hz
  | @tup l xs ds h r =>
    have hz : (if flatD d = true ∧ ds.all flatD = true then some (ds.any fun y => PyData.eqv y d) else none) = some b := by cases rx <;> exact hz
    split at hz
    · rename_i hs
      cases hz
      refine .inr (.inl ⟨l, xs, rfl, .inr (SqT.of (g _ _ h)), flat_rp rx hs.1, flats_rp r hs.2, ?_⟩)
      rw [in_rp rx hs.1 r hs.2]
      exact hq
    · cases hz
  | str z =>
    cases rx with
    | str c =>
      simp only [dIn] at hz
      split at hz
      · rename_i hl
        cases hz
        exact .inr (.inr (.inl ⟨_, z, congrArg V.str (one_sign hl), rfl, hq⟩))
      · cases hz
    | _ => cases hz
  | @dict ad kvs es h r =>
    cases rx with
    | @tup l xs ks h' r' =>
      simp only [dIn, Option.map_eq_some_iff] at hz
      obtain ⟨k, hk, hb⟩ := hz
      refine .inr (.inr (.inr ⟨ad, _, rfl, dget_rp g (.tup h' r') hk (g _ _ h), ?_⟩))
      obtain ⟨l1, l2⟩ := look_rp k r
      cases e1 : dlook es k with
      | none => rw [e1] at hb; subst hb; rw [l1 e1]; exact hq
      | some d => rw [e1] at hb; subst hb; obtain ⟨v, e2, _⟩ := l2 d e1; rw [e2]; exact hq
    | _ => cases hz
  | _ => cases rx <;> cases hz
theorem opIn {k : Nat} (hr : Room k X.A) : OpR X (compareOp .In) (rInQ X.K) := (op_inD (u64 hr)).or (op_in_seq.or (op_inSg.or (op_inDc (by have := u64 hr; omega))))
theorem opNotIn {k : Nat} (hr : Room k X.A) : OpR X (compareOp .NotIn) (rNotInQ X.K) := (op_notInD (u64 hr)).or (op_notIn_seq.or (op_notInSg.or (op_notInDc (by have := u64 hr; omega))))
theorem se_in {k : Nat} (hr : Room k X.A) (ha : SE X B W a ma) (hb : SE X B W b mb) (hm : behindInMarks .In b = false := by rfl) : SE X B W (.Compare a [.In] [b] pos) (isin ma mb) := se_cmpG (opIn hr) ok_in.op hm ha hb
theorem st_in {k : Nat} (hr : Room k X.A) (ha : SE X B W a ma) (hb : SE X B W b mb) (hm : behindInMarks .In b = false := by rfl) : ST X B W (.Compare a [.In] [b] pos) (tst (isin ma mb)) := st_cmpG (opIn hr) ok_in.op hm ha hb
theorem se_notin {k : Nat} (hr : Room k X.A) (ha : SE X B W a ma) (hb : SE X B W b mb) (hm : behindInMarks .NotIn b = false := by rfl) : SE X B W (.Compare a [.NotIn] [b] pos) (notin ma mb) := se_cmpG (opNotIn hr) ok_notin.nop hm ha hb
theorem st_notin {k : Nat} (hr : Room k X.A) (ha : SE X B W a ma) (hb : SE X B W b mb) (hm : behindInMarks .NotIn b = false := by rfl) : ST X B W (.Compare a [.NotIn] [b] pos) (tst (notin ma mb)) := st_cmpG (opNotIn hr) ok_notin.nop hm ha hb

/-! ### subscripts -/
def rIxDc : R2 := fun x y H Q => ∃ a v, x = .ref a ∧ DGet H a y (some v) ∧ Q v H
open PySem.Spec PyProof.Rows in
theorem ix_dict (hu : X.A.units + 1 < cLine) : IxR X rIxDc := by
  intro value slice pins s σ H x y v u Q I rx ry h hs
  obtain ⟨a, w, rfl, g, q⟩ := h
  obtain rfl : v = Value.ref a := rx
  have hT := dict_typeIs I g
  have h₂ : wpAny (model X.prog X.w) X.A (getItem (.ref a) u) (EP X pins σ Q) X.xe s := d_getItem hu I g ry fun w' s3 I3 rw' => ⟨w, H, I3, rw', q⟩
  unfold subscriptTail
  refine wpAny_bind ?_
  rw [getitemInPython_of_ne hT.not_modules]
  refine wpAny_bind (wpAny_specialOf hT PySem.F.slot_dict_getitem.lookup ?_)
  have fin : wpAny (model X.prog X.w) X.A (subscripted slice false (.ref a) u) (fun r s₃ => wpAny (model X.prog X.w) X.A (letTemporaryGo value (.ref a) r >>= fun _ => pure r) (EP X pins σ Q) X.xe s₃) X.xe s := by
    rw [hs]
    exact wpAny_operating (wpAny_mono h₂ (fun r s₃ h₃ => wpAny_bind (wpAny_letTemporaryGo (wpAny_pure h₃))) fun _ _ x => x)
  first
    | exact wpAny_pure (wpAny_bind fin)
    | exact wpAny_bind (wpAny_pure (wpAny_bind fin))
    | exact wpAny_bind fin
def rIxQ (K : PySem.W.Frag) : R2 := fun x y H Q => rIxL K x y H Q ∨ (rIxT K x y H Q ∨ (rIxS x y H Q ∨ rIxDc x y H Q))
theorem ok_ix {K : PySem.W.Frag} : OkOp K (rIxQ K) dIx := by
  intro G H x y d e z Q g rx ry hz hq
  cases rx with
  | @lst l xs ds h r => cases ry with
    | int i =>
      obtain ⟨v, h1, h2⟩ := atI_rp r hz
      exact .inl ⟨l, xs, i, v, rfl, rfl, g.seq h, h1, hq G H (Gr.refl g) _ h2⟩
    | _ => cases hz
  | @tup l xs ds h r => cases ry with
    | int i =>
      obtain ⟨v, h1, h2⟩ := atI_rp r hz
      exact .inr (.inl ⟨l, xs, i, v, rfl, rfl, SqT.of (g _ _ h), h1, hq G H (Gr.refl g) _ h2⟩)
    | _ => cases hz
  | str t => cases ry with
    | int i =>
      simp only [dIx] at hz
      split at hz
      · rename_i hl
        rw [Option.map_eq_some_iff] at hz
        obtain ⟨c, hc, rfl⟩ := hz
        exact .inr (.inr (.inl ⟨t, i, c, rfl, rfl, most_ok hl, hc, hq G H (Gr.refl g) _ (.str _)⟩))
      · cases hz
    | _ => cases hz
  | @dict ad kvs es h r => cases ry with
    | @tup l xs ks h' r' =>
      simp only [dIx, Option.bind_eq_some_iff] at hz
      obtain ⟨k, hk, hz⟩ := hz
      obtain ⟨v, h1, h2⟩ := (look_rp k r).2 z hz
      exact .inr (.inr (.inr ⟨ad, v, rfl, h1 ▸ dget_rp g (.tup h' r') hk (g _ _ h), hq G H (Gr.refl g) _ h2⟩))
    | _ => cases hz
  | _ => cases ry <;> cases hz
def ix := e2 dIx
theorem se_ix {k : Nat} (hr : Room k X.A) (ha : SE X B W a ma) (hb : SE X B W b mb) (hs : PlainIx b := by exact fun _ _ => rfl) : SE X B W (.Subscript a b pos) (ix ma mb) :=
  ⟨(pe_ix (ix_list.or (ix_tup.or (ix_str.or (ix_dict (by have := u64 hr; omega))))) ha.pe hb.pe hs).imp fun _ _ _ h => op2 (r := rIxQ X.K) ok_ix h⟩

/-! ### slices -/
def tP (k : Kx) (m : Env → R (Option Int)) : TO := fun σ H Q => ∃ ρ G, Sl k.K k.B ρ G σ H ∧ Af k σ G H (m ρ) fun o _ H' => Q o H'
structure SP (X : Cx) (B : Bs) (W : WX) (o : Option Expr) (m : Env → R (Option Int)) : Prop where
  po : PO X o (tP (kx X B W) m)
def pn : Env → R (Option Int) := fun _ => .ok none
def asI : D → Option Int
  | .int i => some i
  | _ => none
def ps (m : Env → R D) : Env → R (Option Int) := fun ρ => (m ρ).bind fun d => R.of ((asI d).map some)
theorem _root_.L2.PO.imp {X : Cx} {e : Option Expr} {t t' : TO} (h : PO X e t) (i : ∀ σ H Q, t' σ H Q → t σ H Q) : PO X e t' := ⟨fun pins s σ H Q I q => h.run pins s σ H Q I (i σ H Q q)⟩
theorem sp_n : SP X B W none pn := ⟨po_none.imp fun σ H Q ⟨ρ, G, s, h⟩ => h G H (Gr.refl s.same)⟩
theorem sp_s (ha : SE X B W a ma) : SP X B W (some a) (ps ma) := ⟨(po_some ha.pe).imp fun σ H Q ⟨ρ, G, s, h⟩ => ⟨ρ, G, s, (Af.bind h).imp fun d G1 H1 g1 h1 v r => by
  obtain ⟨o, ho, h2⟩ := Af.of h1
  cases r with
  | int i => cases ho; exact ⟨i, rfl, h2 G1 H1 (Gr.refl g1.gh)⟩
  | _ => cases ho⟩⟩
def cutD (xs : List D) (lo hi : Option Int) : List D := (xs.drop (HT.sIx xs.length 0 lo)).take (HT.sIx xs.length xs.length hi - HT.sIx xs.length 0 lo)
def slc (m : Env → R D) (l h : Env → R (Option Int)) : Env → R D := fun ρ => (m ρ).bind fun d => (l ρ).bind fun lo => (h ρ).bind fun hi => match d with
  | .list ds => .ok (.list (cutD ds lo hi))
  | .str z => if z.length ≤ most then .ok (.str (cutS z lo hi)) else .bad
  | _ => .bad
def slcO (m : Env → R D) (l h : Env → R (Option Int)) : Env → R (List D) := fun ρ => (m ρ).bind fun d => (l ρ).bind fun lo => (h ρ).bind fun hi => match d with
  | .list ds => .ok (cutD ds lo hi)
  | _ => .bad
variable {lo hi : Option Expr} {ml mh : Env → R (Option Int)} {p2 : Pos}
def rSlQ (K : PySem.W.Frag) : V → Option Int → Option Int → Hp → VK → Prop := fun x lo hi H Q => rSlL K x lo hi H Q ∨ rSlS x lo hi H Q
theorem cut_rp {K : PySem.W.Frag} {G : Hp} {xs : List V} {ds : List D} (r : RpA K G xs ds) : RpA K G (cutV xs lo' hi') (cutD ds lo' hi') := by
  unfold cutV cutD
  rw [r.len]
  exact (r.drop _).take _
theorem se_sl (ha : SE X B W a ma) (hl : SP X B W lo ml) (hh : SP X B W hi mh) : SE X B W (.Subscript a (.Slice lo hi none p2) pos) (slc ma ml mh) :=
  ⟨(pe_slice (sl_list.or sl_str) ha.pe hl.po hh.po).imp fun σ H Q ⟨ρ, G, s, h⟩ => ⟨ρ, G, s, (Af.bind h).imp fun d G1 H1 g1 h1 v r => ⟨ρ, G1, s.step g1, (Af.bind h1).imp fun o1 G2 H2 g2 h2 => ⟨ρ, G2, (s.step g1).step g2, (Af.bind h2).imp fun o2 G3 H3 g3 h3 => by
    have r3 := r.mono (g2.g.trans g3.g)
    cases r3 with
    | @lst l xs ds h' r' =>
      refine .inl ⟨l, xs, rfl, g3.gh.seq h', fun p hp => ?_⟩
      have gn := Gr.new (o := .lst (cutV xs o1 o2)) g3.gh hp
      exact h3 _ _ gn _ (.lst (SqL.of upd_same) (cut_rp (r'.mono gn.g)))
    | str z =>
      by_cases hz : z.length ≤ most
      · simp only [if_pos hz] at h3
        exact .inr ⟨z, rfl, most_ok hz, h3 G3 H3 (Gr.refl g3.gh) _ (.str _)⟩
      · simp only [if_neg hz] at h3; exact h3.elim
    | _ => exact h3.elim⟩⟩⟩⟩
theorem so_sl (ha : SE X B W a ma) (hl : SP X B W lo ml) (hh : SP X B W hi mh) : SO X B W (.Subscript a (.Slice lo hi none p2) pos) (slcO ma ml mh) :=
  ⟨(pe_slice sl_list ha.pe hl.po hh.po).imp fun σ H Q ⟨ρ, G, s, h⟩ => by
    refine ⟨ρ, G, s, ?_⟩
    unfold slcO at h
    cases e1 : ma ρ with
    | exc c x => rw [e1] at h; exact h
    | bad => rw [e1] at h; exact h
    | ok d =>
      rw [e1] at h
      intro G1 H1 g1 v r
      refine ⟨ρ, G1, s.step g1, ?_⟩
      simp only [R.bind_ok] at h
      cases e2 : ml ρ with
      | exc c x => rw [e2] at h; exact Af.mono g1 h
      | bad => rw [e2] at h; exact h.elim
      | ok o1 =>
        rw [e2] at h
        intro G2 H2 g2
        refine ⟨ρ, G2, (s.step g1).step g2, ?_⟩
        simp only [R.bind_ok] at h
        cases e3 : mh ρ with
        | exc c x => rw [e3] at h; exact Af.mono (g1.trans g2) h
        | bad => rw [e3] at h; exact h.elim
        | ok o2 =>
          rw [e3] at h
          intro G3 H3 g3
          have r3 := r.mono (g2.g.trans g3.g)
          simp only [R.bind_ok] at h
          cases r3 with
          | @lst l xs ds h' r' =>
            refine ⟨l, xs, rfl, g3.gh.seq h', fun p hp => ?_⟩
            have gn := Gr.own (o := .lst (cutV xs o1 o2)) g3.gh hp
            have g123 := (g1.trans g2).trans g3
            refine h _ _ (g123.trans gn) p _ (g123.h.free hp) ?_ upd_same (cut_rp r')
            cases q : G3 p with
            | none => rfl
            | some o => rw [g3.gh _ _ q] at hp; cases hp
          | _ => exact h.elim⟩

/-! ### built-in functions -/
def OkC (K : PySem.W.Frag) (r : List V → Hp → VK → Prop) (f : List D → Option D) : Prop := ∀ (G H : Hp) (vs : List V) (ds : List D) (z : D) (Q : VK), Same G H → RpA K G vs ds → f ds = some z → (∀ G' H', Gr G H G' H' → ∀ w, Rp K G' w z → Q w H') → r vs H Q
def OkCO (K : PySem.W.Frag) (r : List V → Hp → VK → Prop) (f : List D → Option (List D)) : Prop := ∀ (G H : Hp) (vs : List V) (ds : List D) (z : List D) (Q : VK), Same G H → RpA K G vs ds → f ds = some z → (∀ G' H', Gr G H G' H' → ∀ p ws, H p = none → G' p = none → H' p = some (.lst ws) → RpA K G' ws z → Q (.ref p) H') → r vs H Q
def bc (f : List D → Option D) (m : Env → R (List D)) : Env → R D := fun ρ => (m ρ).bind fun ds => R.of (f ds)
def bcO (f : List D → Option (List D)) (m : Env → R (List D)) : Env → R (List D) := fun ρ => (m ρ).bind fun ds => R.of (f ds)
theorem cb_t {r : List V → Hp → VK → Prop} {f : List D → Option D} (ok : OkC X.K r f) {σ : St} {H : Hp} {Q : VK} (h : tS (kx X B W) (bc f mas) σ H Q) : tCB r (tA (kx X B W) mas) σ H Q := by
  obtain ⟨ρ, G, s, h⟩ := h
  refine ⟨ρ, G, s, (Af.bind h).imp fun ds G1 H1 g1 h1 vs rv => ?_⟩
  obtain ⟨z, hz, hq⟩ := Af.of h1
  exact ok G1 H1 vs ds z Q g1.gh rv hz hq
theorem cbO_t {r : List V → Hp → VK → Prop} {f : List D → Option (List D)} (ok : OkCO X.K r f) {σ : St} {H : Hp} {Q : VK} (h : tO (kx X B W) (bcO f mas) σ H Q) : tCB r (tA (kx X B W) mas) σ H Q := by
  obtain ⟨ρ, G, s, h⟩ := h
  refine ⟨ρ, G, s, ?_⟩
  unfold bcO at h
  cases e1 : mas ρ with
  | exc c x => rw [e1] at h; exact h
  | bad => rw [e1] at h; exact h
  | ok ds =>
    rw [e1] at h
    intro G1 H1 g1 vs rv
    obtain ⟨z, hz, hq⟩ := Af.of (Af.mono g1 h)
    exact ok G1 H1 vs ds z Q g1.gh rv hz fun G' H' g p ws h0 hg hp r => hq G' H' g p ws (g1.h.free h0) hg hp r
variable {x : Str} {id T : String}
theorem se_cb {r : List V → Hp → VK → Prop} {f : List D → Option D} (hc : CallR X (.builtin id) r) (ok : OkC X.K r f) (hv : bootBuiltins x = some (.builtin id)) (hm : X.mg x = none) (ha : SA X B W (e :: es) mas) (hg : Gl X x := by rfl) (hn : x ≠ "__name__" := by decide) (hdb : (x == ("__debug__" : Str)) = false := by decide)
    (he : starEach (e :: es) X.env = (false, eval e X.env) :: starEach es X.env := by rfl) (hpl : (backTo pos (starEach es X.env)).any (·.1) = false := by rfl) : SE X B W (.Call (.Name x p) (e :: es) [] pos) (bc f mas) :=
  ⟨(pe_callB hc hg hm hv ha.pa hn hdb he hpl).imp fun _ _ _ h => cb_t ok h⟩
theorem se_ct {r : List V → Hp → VK → Prop} {f : List D → Option D} (hc : CallR X (.type T) r) (ok : OkC X.K r f) (hv : bootBuiltins x = some (.type T)) (hm : X.mg x = none) (ha : SA X B W (e :: es) mas) (hg : Gl X x := by rfl) (hn : x ≠ "__name__" := by decide) (hdb : (x == ("__debug__" : Str)) = false := by decide)
    (he : starEach (e :: es) X.env = (false, eval e X.env) :: starEach es X.env := by rfl) (hpl : (backTo pos (starEach es X.env)).any (·.1) = false := by rfl) : SE X B W (.Call (.Name x p) (e :: es) [] pos) (bc f mas) :=
  ⟨(pe_callTy hc hg hm hv ha.pa hn hdb he hpl).imp fun _ _ _ h => cb_t ok h⟩
theorem so_cb {r : List V → Hp → VK → Prop} {f : List D → Option (List D)} (hc : CallR X (.builtin id) r) (ok : OkCO X.K r f) (hv : bootBuiltins x = some (.builtin id)) (hm : X.mg x = none) (ha : SA X B W (e :: es) mas) (hg : Gl X x := by rfl) (hn : x ≠ "__name__" := by decide) (hdb : (x == ("__debug__" : Str)) = false := by decide)
    (he : starEach (e :: es) X.env = (false, eval e X.env) :: starEach es X.env := by rfl) (hpl : (backTo pos (starEach es X.env)).any (·.1) = false := by rfl) : SO X B W (.Call (.Name x p) (e :: es) [] pos) (bcO f mas) :=
  ⟨(pe_callB hc hg hm hv ha.pa hn hdb he hpl).imp fun _ _ _ h => cbO_t ok h⟩
theorem so_ct {r : List V → Hp → VK → Prop} {f : List D → Option (List D)} (hc : CallR X (.type T) r) (ok : OkCO X.K r f) (hv : bootBuiltins x = some (.type T)) (hm : X.mg x = none) (ha : SA X B W (e :: es) mas) (hg : Gl X x := by rfl) (hn : x ≠ "__name__" := by decide) (hdb : (x == ("__debug__" : Str)) = false := by decide)
    (he : starEach (e :: es) X.env = (false, eval e X.env) :: starEach es X.env := by rfl) (hpl : (backTo pos (starEach es X.env)).any (·.1) = false := by rfl) : SO X B W (.Call (.Name x p) (e :: es) [] pos) (bcO f mas) :=
  ⟨(pe_callTy hc hg hm hv ha.pa hn hdb he hpl).imp fun _ _ _ h => cbO_t ok h⟩
end
end Q

set_option maxHeartbeats 1000000
/-! # Qh: the built-in functions one by one, methods, one's own lists and dicts -/
namespace Q
open PySem L2
section
variable {X : Cx} {B : Bs} {W : WX} {a b c e : Expr} {ma mb mc : Env → R D} {mt : Env → R Bool} {mas : Env → R (List D)} {mo : Env → R (List D)} {pos p : Pos} {es : List Expr}

/-! ### one by one -/
def dLen : List D → Option D
  | [.list ds] => some (.int ds.length)
  | [.tuple ds] => some (.int ds.length)
  | [.str z] => if z.length ≤ most then some (.int z.length) else none
  | [.dict es] => some (.int es.length)
  | _ => none
theorem rpa1 {K : PySem.W.Frag} {G : Hp} {vs : List V} {d : D} (r : RpA K G vs [d]) : ∃ v, vs = [v] ∧ Rp K G v d := by
  cases r with
  | cons r1 r => cases r; exact ⟨_, rfl, r1⟩
theorem rpa2 {K : PySem.W.Frag} {G : Hp} {vs : List V} {d d' : D} (r : RpA K G vs [d, d']) : ∃ v v', vs = [v, v'] ∧ Rp K G v d ∧ Rp K G v' d' := by
  cases r with
  | cons r1 r => cases r with
    | cons r2 r => cases r; exact ⟨_, _, rfl, r1, r2⟩
theorem ok_len {K : PySem.W.Frag} : OkC K (fun xs H Q => (∃ x n, xs = [x] ∧ LenV K x H n ∧ Q (.int n) H) ∨ rLenT xs H Q) dLen := by
  intro G H vs ds z Q g r hz hq
  have fin : ∀ n : Nat, z = .int n → Q (.int n) H := fun n e => by subst e; exact hq G H (Gr.refl g) _ (.int _)
  unfold dLen at hz
  split at hz
  · obtain ⟨v, rfl, rv⟩ := rpa1 r
    cases rv with
    | lst h r' => cases hz; exact .inl ⟨_, _, rfl, .inl ⟨_, g.seq h, rfl⟩, by rw [r'.len]; exact fin _ rfl⟩
  · obtain ⟨v, rfl, rv⟩ := rpa1 r
    cases rv with
    | tup h r' => cases hz; exact .inl ⟨_, _, rfl, .inr ⟨_, SqT.of (g _ _ h), rfl⟩, by rw [r'.len]; exact fin _ rfl⟩
  · obtain ⟨v, rfl, rv⟩ := rpa1 r
    split at hz
    · rename_i hl
      cases rv; cases hz; exact .inl ⟨_, _, rfl, ⟨most_ok hl, rfl⟩, fin _ rfl⟩
    · cases hz
  · obtain ⟨v, rfl, rv⟩ := rpa1 r
    cases rv with
    | dict h r' => cases hz; exact .inr ⟨_, _, rfl, g _ _ h, by rw [r'.len]; exact fin _ rfl⟩
  · cases hz
theorem se_len (hm : X.mg "len" = none) (ha : SA X B W [e] mas) (hg : Gl X "len" := by rfl) (he : starEach [e] X.env = (false, eval e X.env) :: starEach [] X.env := by rfl) (hpl : (backTo pos (starEach [] X.env)).any (·.1) = false := by rfl) : SE X B W (.Call (.Name "len" p) [e] [] pos) (bc dLen mas) :=
  se_cb (call_len.or call_len_dT) ok_len (by decide +kernel) hm ha hg (by decide) (by decide) he hpl
def dAbs : List D → Option D
  | [.int i] => some (.int (if i < 0 then -i else i))
  | _ => none
theorem se_abs (hm : X.mg "abs" = none) (ha : SA X B W [e] mas) (hg : Gl X "abs" := by rfl) (he : starEach [e] X.env = (false, eval e X.env) :: starEach [] X.env := by rfl) (hpl : (backTo pos (starEach [] X.env)).any (·.1) = false := by rfl) : SE X B W (.Call (.Name "abs" p) [e] [] pos) (bc dAbs mas) :=
  se_cb call_abs (fun G H vs ds z Q g r hz hq => by
    unfold dAbs at hz
    split at hz
    · obtain ⟨v, rfl, rv⟩ := rpa1 r
      cases rv; cases hz; exact ⟨_, rfl, hq G H (Gr.refl g) _ (.int _)⟩
    · cases hz) (by decide +kernel) hm ha hg (by decide) (by decide) he hpl
def dMax2 : List D → Option D
  | [.int i, .int j] => some (.int (if j > i then j else i))
  | _ => none
def dMin2 : List D → Option D
  | [.int i, .int j] => some (.int (if j < i then j else i))
  | _ => none
theorem se_max2 (C : Cxt X W) (hm : X.mg "max" = none) (ha : SA X B W [e, a] mas) (hg : Gl X "max" := by rfl) (he : starEach [e, a] X.env = (false, eval e X.env) :: starEach [a] X.env := by rfl) (hpl : (backTo pos (starEach [a] X.env)).any (·.1) = false := by rfl) : SE X B W (.Call (.Name "max" p) [e, a] [] pos) (bc dMax2 mas) :=
  se_cb (call_max2 C.calm) (fun G H vs ds z Q g r hz hq => by
    unfold dMax2 at hz
    split at hz
    · obtain ⟨v, w, rfl, rv, rw⟩ := rpa2 r
      cases rv; cases rw; cases hz; exact ⟨_, _, rfl, hq G H (Gr.refl g) _ (.int _)⟩
    · cases hz) (by decide +kernel) hm ha hg (by decide) (by decide) he hpl
theorem se_min2 (C : Cxt X W) (hm : X.mg "min" = none) (ha : SA X B W [e, a] mas) (hg : Gl X "min" := by rfl) (he : starEach [e, a] X.env = (false, eval e X.env) :: starEach [a] X.env := by rfl) (hpl : (backTo pos (starEach [a] X.env)).any (·.1) = false := by rfl) : SE X B W (.Call (.Name "min" p) [e, a] [] pos) (bc dMin2 mas) :=
  se_cb (call_min2 C.calm) (fun G H vs ds z Q g r hz hq => by
    unfold dMin2 at hz
    split at hz
    · obtain ⟨v, w, rfl, rv, rw⟩ := rpa2 r
      cases rv; cases rw; cases hz; exact ⟨_, _, rfl, hq G H (Gr.refl g) _ (.int _)⟩
    · cases hz) (by decide +kernel) hm ha hg (by decide) (by decide) he hpl
def intsOf : List D → Option (List Int)
  | [] => some []
  | .int i :: r => (intsOf r).map fun k => i :: k
  | _ => none
theorem ints_rp {K : PySem.W.Frag} {G : Hp} : ∀ {vs : List V} {ds : List D} {ns : List Int}, RpA K G vs ds → intsOf ds = some ns → vs = ns.map V.int
  | _, _, _, .nil, h => by simp [intsOf] at h; subst h; rfl
  | _, _, _, .cons r rr, h => by
    cases r with
    | int i =>
      simp [intsOf] at h
      obtain ⟨k, h1, rfl⟩ := h
      rw [ints_rp rr h1]; rfl
    | _ => simp [intsOf] at h
def maxL : List Int → Int
  | [] => 0
  | [n] => n
  | n :: r => max n (maxL r)
def minL : List Int → Int
  | [] => 0
  | [n] => n
  | n :: r => min n (minL r)
theorem maxL_le : ∀ {ns : List Int} {x : Int}, x ∈ ns → x ≤ maxL ns
  | [n], x, h => by simp at h; subst h; exact Int.le_refl _
  | n :: m :: r, x, h => by
    have ih := @maxL_le (m :: r)
    unfold maxL
    rcases List.mem_cons.mp h with h | h
    · subst h; omega
    · have := ih h; omega
theorem maxL_mem : ∀ {ns : List Int}, 0 < ns.length → maxL ns ∈ ns
  | [n], _ => by simp [maxL]
  | n :: m :: r, _ => by
    have ih := @maxL_mem (m :: r) (by simp)
    unfold maxL
    by_cases h : n ≤ maxL (m :: r)
    · rw [Int.max_eq_right h]; exact List.mem_cons_of_mem _ ih
    · rw [Int.max_eq_left (by omega)]; exact List.mem_cons_self
theorem minL_le : ∀ {ns : List Int} {x : Int}, x ∈ ns → minL ns ≤ x
  | [n], x, h => by simp at h; subst h; exact Int.le_refl _
  | n :: m :: r, x, h => by
    have ih := @minL_le (m :: r)
    unfold minL
    rcases List.mem_cons.mp h with h | h
    · subst h; omega
    · have := ih h; omega
theorem minL_mem : ∀ {ns : List Int}, 0 < ns.length → minL ns ∈ ns
  | [n], _ => by simp [minL]
  | n :: m :: r, _ => by
    have ih := @minL_mem (m :: r) (by simp)
    unfold minL
    by_cases h : n ≤ minL (m :: r)
    · rw [Int.min_eq_left h]; exact List.mem_cons_self
    · rw [Int.min_eq_right (by omega)]; exact List.mem_cons_of_mem _ ih
def dMax : List D → Option D
  | [.list ds] => (intsOf ds).bind fun ns => if 0 < ns.length then some (.int (maxL ns)) else none
  | _ => none
def dMin : List D → Option D
  | [.list ds] => (intsOf ds).bind fun ns => if 0 < ns.length then some (.int (minL ns)) else none
  | _ => none
def dSum : List D → Option D
  | [.list ds] => (intsOf ds).map fun ns => .int ns.sum
  | _ => none
theorem se_max (C : Cxt X W) (hm : X.mg "max" = none) (ha : SA X B W [e] mas) (hg : Gl X "max" := by rfl) (he : starEach [e] X.env = (false, eval e X.env) :: starEach [] X.env := by rfl) (hpl : (backTo pos (starEach [] X.env)).any (·.1) = false := by rfl) : SE X B W (.Call (.Name "max" p) [e] [] pos) (bc dMax mas) :=
  se_cb (cr_max C.calm) (fun G H vs ds z Q g r hz hq => by
    unfold dMax at hz
    split at hz
    · obtain ⟨v, rfl, rv⟩ := rpa1 r
      rw [Option.bind_eq_some_iff] at hz
      obtain ⟨ns, h1, hz⟩ := hz
      split at hz
      · rename_i hl
        cases rv with
        | lst h r' =>
          cases hz
          refine ⟨_, ns, rfl, by rw [← ints_rp r' h1]; exact g.seq h, hl, fun m hm hle => ?_⟩
          have e1 : m = maxL ns := by
            have := hle _ (maxL_mem hl)
            have := maxL_le hm
            omega
          rw [e1]
          exact hq G H (Gr.refl g) _ (.int _)
      · cases hz
    · cases hz) (by decide +kernel) hm ha hg (by decide) (by decide) he hpl
theorem se_min (C : Cxt X W) (hm : X.mg "min" = none) (ha : SA X B W [e] mas) (hg : Gl X "min" := by rfl) (he : starEach [e] X.env = (false, eval e X.env) :: starEach [] X.env := by rfl) (hpl : (backTo pos (starEach [] X.env)).any (·.1) = false := by rfl) : SE X B W (.Call (.Name "min" p) [e] [] pos) (bc dMin mas) :=
  se_cb (cr_min C.calm) (fun G H vs ds z Q g r hz hq => by
    unfold dMin at hz
    split at hz
    · obtain ⟨v, rfl, rv⟩ := rpa1 r
      rw [Option.bind_eq_some_iff] at hz
      obtain ⟨ns, h1, hz⟩ := hz
      split at hz
      · rename_i hl
        cases rv with
        | lst h r' =>
          cases hz
          refine ⟨_, ns, rfl, by rw [← ints_rp r' h1]; exact g.seq h, hl, fun m hm hle => ?_⟩
          have e1 : m = minL ns := by
            have := hle _ (minL_mem hl)
            have := minL_le hm
            omega
          rw [e1]
          exact hq G H (Gr.refl g) _ (.int _)
      · cases hz
    · cases hz) (by decide +kernel) hm ha hg (by decide) (by decide) he hpl
theorem se_sum (C : Cxt X W) (hm : X.mg "sum" = none) (ha : SA X B W [e] mas) (hg : Gl X "sum" := by rfl) (he : starEach [e] X.env = (false, eval e X.env) :: starEach [] X.env := by rfl) (hpl : (backTo pos (starEach [] X.env)).any (·.1) = false := by rfl) : SE X B W (.Call (.Name "sum" p) [e] [] pos) (bc dSum mas) :=
  se_cb (cr_sum C.calm) (fun G H vs ds z Q g r hz hq => by
    unfold dSum at hz
    split at hz
    · obtain ⟨v, rfl, rv⟩ := rpa1 r
      rw [Option.map_eq_some_iff] at hz
      obtain ⟨ns, h1, hz⟩ := hz
      cases rv with
      | lst h r' =>
        cases hz
        exact ⟨_, ns, rfl, by rw [← ints_rp r' h1]; exact g.seq h, hq G H (Gr.refl g) _ (.int _)⟩
    · cases hz) (by decide +kernel) hm ha hg (by decide) (by decide) he hpl
def boolsOf : List D → Option (List Bool)
  | [] => some []
  | .bool i :: r => (boolsOf r).map fun k => i :: k
  | _ => none
theorem bools_rp {K : PySem.W.Frag} {G : Hp} : ∀ {vs : List V} {ds : List D} {ns : List Bool}, RpA K G vs ds → boolsOf ds = some ns → vs = ns.map V.bl
  | _, _, _, .nil, h => by simp [boolsOf] at h; subst h; rfl
  | _, _, _, .cons r rr, h => by
    cases r with
    | bl i =>
      simp [boolsOf] at h
      obtain ⟨k, h1, rfl⟩ := h
      rw [bools_rp rr h1]; rfl
    | _ => simp [boolsOf] at h
def dAll : List D → Option D
  | [.list ds] => (boolsOf ds).map fun ns => .bool (ns.all id)
  | _ => none
theorem se_all (C : Cxt X W) (hm : X.mg "all" = none) (ha : SA X B W [e] mas) (hg : Gl X "all" := by rfl) (he : starEach [e] X.env = (false, eval e X.env) :: starEach [] X.env := by rfl) (hpl : (backTo pos (starEach [] X.env)).any (·.1) = false := by rfl) : SE X B W (.Call (.Name "all" p) [e] [] pos) (bc dAll mas) :=
  se_cb (cr_all C.calm) (fun G H vs ds z Q g r hz hq => by
    unfold dAll at hz
    split at hz
    · obtain ⟨v, rfl, rv⟩ := rpa1 r
      rw [Option.map_eq_some_iff] at hz
      obtain ⟨ns, h1, hz⟩ := hz
      cases rv with
      | lst h r' =>
        cases hz
        exact ⟨_, ns, rfl, by rw [← bools_rp r' h1]; exact g.seq h, hq G H (Gr.refl g) _ (.bl _)⟩
    · cases hz) (by decide +kernel) hm ha hg (by decide) (by decide) he hpl
def dStr : List D → Option D
  | [.int i] => if i.natAbs.log2 < 1920 then some (.str (toString i)) else none
  | _ => none
theorem se_str (hm : X.mg "str" = none) (ha : SA X B W [e] mas) (hg : Gl X "str" := by rfl) (he : starEach [e] X.env = (false, eval e X.env) :: starEach [] X.env := by rfl) (hpl : (backTo pos (starEach [] X.env)).any (·.1) = false := by rfl) : SE X B W (.Call (.Name "str" p) [e] [] pos) (bc dStr mas) :=
  se_ct call_str_int (fun G H vs ds z Q g r hz hq => by
    unfold dStr at hz
    split at hz
    · obtain ⟨v, rfl, rv⟩ := rpa1 r
      split at hz
      · rename_i hl
        cases rv; cases hz; exact ⟨_, rfl, hl, hq G H (Gr.refl g) _ (.str _)⟩
      · cases hz
    · cases hz) (by decide +kernel) hm ha hg (by decide) (by decide) he hpl
def dInt : List D → Option D
  | [.int i] => some (.int i)
  | [.bool b] => some (.int (if b then 1 else 0))
  | [.str z] => if z.length ≤ 640 then (PySem.intText? z).map .int else none
  | _ => none
theorem se_int (hm : X.mg "int" = none) (ha : SA X B W [e] mas) (hg : Gl X "int" := by rfl) (he : starEach [e] X.env = (false, eval e X.env) :: starEach [] X.env := by rfl) (hpl : (backTo pos (starEach [] X.env)).any (·.1) = false := by rfl) : SE X B W (.Call (.Name "int" p) [e] [] pos) (bc dInt mas) :=
  se_ct (call_int1.or call_int_str) (fun G H vs ds z Q g r hz hq => by
    unfold dInt at hz
    split at hz
    · obtain ⟨v, rfl, rv⟩ := rpa1 r
      cases rv; cases hz; exact .inl (.inl ⟨_, rfl, hq G H (Gr.refl g) _ (.int _)⟩)
    · obtain ⟨v, rfl, rv⟩ := rpa1 r
      cases rv; cases hz; exact .inl (.inr ⟨_, rfl, hq G H (Gr.refl g) _ (.int _)⟩)
    · obtain ⟨v, rfl, rv⟩ := rpa1 r
      split at hz
      · rename_i hl
        rw [Option.map_eq_some_iff] at hz
        obtain ⟨n, h1, hz⟩ := hz
        cases rv; cases hz; exact .inr ⟨_, n, rfl, h1, hl, hq G H (Gr.refl g) _ (.int _)⟩
      · cases hz
    · cases hz) (by decide +kernel) hm ha hg (by decide) (by decide) he hpl
def dList : List D → Option (List D)
  | [.list ds] => some ds
  | [.tuple ds] => some ds
  | [.dict es] => some (es.map (·.1))
  | _ => none
def dListQ : List D → Option (List D) := fun ds => match ds with
  | [.dict _] => none
  | ds => dList ds
theorem own_fresh {G H : Hp} {p : Addr} (g : Same G H) (hp : H p = none) : G p = none := by
  cases q : G p with
  | none => rfl
  | some o => rw [g _ _ q] at hp; cases hp
theorem so_list (C : Cxt X W) (hm : X.mg "list" = none) (ha : SA X B W [e] mas) (hg : Gl X "list" := by rfl) (he : starEach [e] X.env = (false, eval e X.env) :: starEach [] X.env := by rfl) (hpl : (backTo pos (starEach [] X.env)).any (·.1) = false := by rfl) : SO X B W (.Call (.Name "list" p) [e] [] pos) (bcO dListQ mas) :=
  so_ct call_list_of (fun G H vs ds z Q g r hz hq => by
    have fin : ∀ {a : Addr} {ys : List V} (hs : SqL X.K H a ys ∨ SqT X.K H a ys), vs = [.ref a] → RpA X.K G ys z → ∃ p ys, vs = [.ref p] ∧ (SqL X.K H p ys ∨ SqT X.K H p ys) ∧ ∀ l, H l = none → Q (.ref l) (upd H l (.lst ys)) := fun {a ys} hs hv ry => ⟨a, ys, hv, hs, fun l hl => hq _ _ (Gr.own g hl) l _ hl (own_fresh g hl) upd_same ry⟩
    unfold dListQ at hz
    split at hz
    · cases hz
    · unfold dList at hz
      split at hz
      · obtain ⟨v, rfl, rv⟩ := rpa1 r
        cases rv with
        | lst h r' => cases hz; exact fin (.inl (g.seq h)) rfl r'
      · obtain ⟨v, rfl, rv⟩ := rpa1 r
        cases rv with
        | tup h r' => cases hz; exact fin (.inr (SqT.of (g _ _ h))) rfl r'
      · rename_i h; exact absurd rfl (h _)
      · cases hz) (by decide +kernel) hm ha hg (by decide) (by decide) he hpl

/-! ### sorted -/
def alikeL (ds : List D) : Bool := ds.all fun d => ds.all fun e => PySem.W.alike d e
def sortL (ds : List D) : Bool := (ds.all fun d => match d with | .tuple (_ :: _) => true | _ => false) || (ds.all fun d => match d with | .none => false | .tuple _ => false | _ => true)
def deepL (ds : List D) : Bool := ds.all fun d => d.canLay0 && decide (d.depth ≤ 60)
def sortD (ds : List D) : List D := ds.mergeSort (PySem.W.dataLe false id)
def dSorted : List D → Option (List D)
  | [.list ds] => if alikeL ds && sortL ds && deepL ds then some (sortD ds) else none
  | _ => none
theorem alikeL_all {ds : List D} (h : alikeL ds = true) : PySem.W.AllAlike (ds.map id) := by
  intro d hd d' hd'
  rw [List.map_id] at hd hd'
  exact List.all_eq_true.mp (List.all_eq_true.mp h d hd) d' hd'
theorem sortL_ok {ds : List D} (h : sortL ds = true) : PySem.W.Sortable (ds.map id) := by
  unfold sortL at h
  rw [Bool.or_eq_true] at h
  rcases h with h | h
  · refine .inl fun d hd => ?_
    rw [List.map_id] at hd
    have := List.all_eq_true.mp h d hd
    split at this
    · exact ⟨_, _, rfl⟩
    · cases this
  · refine .inr fun d hd => ?_
    rw [List.map_id] at hd
    have := List.all_eq_true.mp h d hd
    split at this
    · cases this
    · cases this
    · rename_i h1 h2
      exact ⟨fun z => h1 z, fun xs z => h2 xs z⟩
/-- a value of the machine shows data -/
def Sh (K : PySem.W.Frag) (G : Hp) (u : Value) (d : D) : Prop := ∃ x, RelV x u ∧ Rp K G x d
theorem sh_of {K : PySem.W.Frag} {G : Hp} : ∀ {xs : List V} {us : List Value} {ds : List D}, Vals xs us → RpA K G xs ds → PySem.W.EachIs (Sh K G) us ds
  | _, _, _, .nil, .nil => .nil
  | _, _, _, .cons r rr, .cons a b => .cons ⟨_, r, a⟩ (sh_of rr b)
theorem of_sh {K : PySem.W.Frag} {G : Hp} : ∀ {us : List Value} {ds : List D}, PySem.W.EachIs (Sh K G) us ds → ∃ xs, Vals xs us ∧ RpA K G xs ds
  | _, _, .nil => ⟨[], .nil, .nil⟩
  | _, _, .cons ⟨x, r, a⟩ b => let ⟨xs, r', a'⟩ := of_sh b; ⟨x :: xs, .cons r r', .cons a a'⟩
theorem reads_of {pins : List (Addr × Obj)} {σ : St} {H G : Hp} {s : Shared} (I : Inv X pins σ H s) (g : Same G H) : ∀ {xs : List V} {us : List Value} {ds : List D}, Vals xs us → RpA X.K G xs ds → deepL ds = true → PySem.W.EachIs (fun v b => ∃ as, Reads s.heap v (id b) as) us ds
  | _, _, _, .nil, .nil, _ => .nil
  | _, _, _, .cons r rr, .cons a b, h => by
    unfold deepL at h
    rw [List.all_cons, Bool.and_eq_true, Bool.and_eq_true] at h
    exact .cons (Dp.reads I _ _ _ ((a.mono g).dp h.1.1) r) (reads_of I g rr b h.2)
def rSortQ (K : PySem.W.Frag) : List V → Hp → VK → Prop := fun vs H Q => ∃ G a xs ds, vs = [V.ref a] ∧ Same G H ∧ SqL K H a xs ∧ RpA K G xs ds ∧ (alikeL ds && sortL ds && deepL ds) = true ∧ ∀ p ys, H p = none → RpA K G ys (sortD ds) → Q (.ref p) (upd H p (.lst ys))
theorem deep_u {A : Around} {ds : List D} (hu : A.units + 65 < cLine) (h : deepL ds = true) : ∀ b, b ∈ ds → A.units + 2 + PyData.depth (id b) < cLine := fun b hb => by
  have := List.all_eq_true.mp h b hb
  rw [Bool.and_eq_true] at this
  have := of_decide_eq_true this.2
  show A.units + 2 + b.depth < cLine
  omega
theorem cr_sortQ (hu : X.A.units + 65 < cLine) : CallR X (.builtin "sorted") (rSortQ X.K) := by
  intro pins s σ H xs us Q I r h
  obtain ⟨G, a, ys, ds, rfl, g, hq, ra, hc, q⟩ := h
  rw [Bool.and_eq_true, Bool.and_eq_true] at hc
  obtain ⟨u, rfl, rx⟩ := r.one
  cases rx
  obtain ⟨its, rv, pl, hz⟩ := I.list hq
  refine PySem.W.sorted_data (enc := id) (R := Sh X.K G) pl.isList (sh_of rv ra) (reads_of I g rv ra hc.2) (alikeL_all hc.1.1) (sortL_ok hc.1.2) (by rw [← ra.len]; exact hz) (deep_u hu hc.2) fun out ho eo => ?_
  obtain ⟨zs, r1, r2⟩ := of_sh eo
  obtain ⟨c, hc'⟩ := PyProof.Rows.sortedAll_at s.heap its out.toArray
  have hfree : H (s.heap.objs.size + 1) = none := I.hok.fresh (Nat.le_succ _)
  refine ⟨.ref _, _, I.laid (t' := s.toks) (o := .lst zs) (fun b o e => PyProof.Rows.sortedAll_old e) (Nat.le_succ _) ⟨?_, out, c, r1, hc'⟩, rfl, q _ zs hfree r2⟩
  rw [r1.length, ho, ← ra.len]; exact hz
/-- what is known and all tuples that there are -/
def tups (G H : Hp) : Hp := fun p => match G p with
  | some o => some o
  | none => match H p with
    | some (.tup xs) => some (.tup xs)
    | _ => none
theorem tups_g {G H : Hp} : Same G (tups G H) := fun b o h => by unfold tups; rw [h]
theorem tups_h {G H : Hp} (g : Same G H) : Same (tups G H) H := fun b o h => by
  unfold tups at h
  split at h
  · rename_i h1; cases h; exact g _ _ h1
  · split at h
    · rename_i h1; cases h; exact h1
    · cases h
theorem tups_t {G H : Hp} {p : Addr} {xs : List V} (g : Same G H) (h : H p = some (.tup xs)) : tups G H p = some (.tup xs) := by
  unfold tups
  split
  · rename_i h1; rw [g _ _ h1] at h; exact h
  · rw [h]
theorem tups_gr {G H : Hp} (g : Same G H) : Gr G H (tups G H) H := ⟨tups_g, tups_h g, Same.refl H, fun p hp => by
  unfold tups at hp
  split at hp
  · rename_i h1; exact .inl (by rw [h1]; simp)
  · split at hp
    · rename_i h1; exact .inr (.inr ⟨_, h1⟩)
    · exact absurd rfl hp⟩
/-- sorted(d): its keys -/
def rSortDc (K : PySem.W.Frag) : List V → Hp → VK → Prop := fun vs H Q => ∃ G a kvs es, vs = [V.ref a] ∧ Same G H ∧ H a = some (.dT kvs) ∧ RpD K H kvs es ∧ (alikeL (es.map (·.1)) && sortL (es.map (·.1)) && deepL (es.map (·.1))) = true ∧ ∀ p ys, H p = none → RpA K (tups G H) ys (sortD (es.map (·.1))) → Q (.ref p) (upd H p (.lst ys))
theorem keys_rp {K : PySem.W.Frag} {G H : Hp} (g : Same G H) : ∀ {kvs : List (List Key × V)} {es : List (D × D)} {bs : List (List Key × Addr × Value)}, RpD K H kvs es → Paired (fun (p : List Key × V) (q : List Key × Addr × Value) => p.1 = q.1 ∧ H q.2.1 = some (.tup (p.1.map kV)) ∧ RelV p.2 q.2.2) kvs bs → RpA K (tups G H) (bs.map fun b => V.ref b.2.1) (es.map (·.1))
  | _, _, _, .nil, .nil => .nil
  | _, _, _, @RpD.cons _ _ k v d kvs es r rr, .cons h t => .cons (.tup (tups_t g h.2.1) (keyA k)) (keys_rp g rr t)
where keyA {K : PySem.W.Frag} {H : Hp} : ∀ k : List Key, RpA K H (k.map kV) (k.map kD)
  | [] => .nil
  | .inl i :: r => .cons (.int i) (keyA r)
  | .inr x :: r => .cons (.str x) (keyA r)
theorem vals_refs' : ∀ bs : List (List Key × Addr × Value), Vals (bs.map fun b => V.ref b.2.1) (bs.map fun b => Value.ref b.2.1)
  | [] => .nil
  | b :: r => .cons rfl (vals_refs' r)
open PySem.Spec PyProof.Rows in
theorem cr_sortDc (hcalm : X.calm = true) (hu : X.A.units + 65 < cLine) : CallR X (.builtin "sorted") (rSortDc X.K) := by
  intro pins s σ H xs us Q I r h
  obtain ⟨G, d, kvs, es', rfl, g, hd, rd, hcc, q⟩ := h
  rw [Bool.and_eq_true, Bool.and_eq_true] at hcc
  obtain ⟨u, rfl, rx⟩ := r.one
  cases rx
  obtain ⟨z, hs, ks, pr, o, es, ep, ho, hx, hdt, he, hn⟩ := (show ObjOk X.prog X.w H s.heap d (.dT kvs) from I.hok d _ hd)
  have l1 : es.size = ks.length := size_of_entries he
  have l2 : kvs.length = ks.length := Paired.length pr
  refine Calls.call_function_entry PyProof.Rows.kind_sorted PyProof.Rows.plain_sorted PyProof.Rows.entry_sorted (PyProof.Rows.args_sorted1 _) ?_
  unfold Builtin.«sorted»
  refine wpAny_bind (m := checkCount "sorted" 1 1 _) (wpAny_pure ?_)
  refine wpAny_bind (PySem.W.kdu_collect (A := X.A.in1) (kdl_raw hs hx hdt) (I.ok.hd hcalm) ho (by omega) fun h' tk acc' kp it => ?_)
  have ea : acc'.toList = ks.map fun x => Value.ref x.2.1 := by
    have hl : acc'.toList.length = ks.length := by rw [Array.length_toList, it.1]; exact l1
    apply List.ext_getElem?
    intro j
    rw [List.getElem?_map]
    cases hj : acc'.toList[j]? with
    | none =>
      have h1 := List.getElem?_eq_none_iff.mp hj
      rw [List.getElem?_eq_none (by omega)]
      all_goals rfl
    | some v =>
      obtain ⟨en, hen, hv⟩ := it.2 j v (by rw [← Array.getElem?_toList]; exact hj)
      have qe := entry_at he j
      rw [hen] at qe
      cases hb : ks[j]? with
      | none =>
        rw [hb] at qe
        exact nomatch (show some en = none from qe)
      | some b =>
        rw [hb] at qe
        have e2 : en = entryOfKey (tupleKind (mixKind X.prog X.w)) b := Option.some.inj qe
        rw [hv, e2]
        all_goals rfl
  have I1 : Inv X pins σ H { s with heap := h', toks := tk } := I.kept kp
  have ra := keys_rp g rd pr
  have rv : Vals (ks.map fun b => V.ref b.2.1) acc'.toList := by rw [ea]; exact vals_refs' ks
  have hlen : acc'.toList.length ≤ sizeLine := by rw [ea, List.length_map]; omega
  have hlen' : (es'.map (·.1)).length = acc'.toList.length := by rw [← ra.len, rv.length]
  refine wpAny_bind (wpAny_newList ?_ hlen)
  have hoL : (h'.push (seqObj "list" acc'.toList.toArray 0)).get? h'.objs.size = some (seqObj "list" acc'.toList.toArray 0) := Heap.get?_push_size _ rfl
  show wpAny _ _ _ _ _ { s with heap := h'.push (seqObj "list" acc'.toList.toArray 0), toks := tk }
  refine wpAny_bind (wpAny_holding ?_)
  have er := reads_of I1 (tups_h g) rv ra hcc.2
  have er' : PySem.W.EachIs (fun v b => ∃ as, Reads (h'.push (seqObj "list" acc'.toList.toArray 0)) v (id b) as ∧ h'.objs.size ∉ as) acc'.toList (es'.map (·.1)) := er.mono fun v b ⟨as, r⟩ => by
    refine ⟨as, PyProof.Rows.Reads.keeps (fun b o e => Heap.get?_push_of_some _ e) r, fun hm => ?_⟩
    obtain ⟨o, e⟩ := PyProof.On.reads_mem_get r _ hm
    exact absurd (Heap.lt_size e) (Nat.lt_irrefl _)
  refine PySem.W.list_sort_data (enc := id) (R := Sh X.K (tups G H)) (n := 0) hoL (sh_of rv ra) er' (alikeL_all hcc.1.1) (sortL_ok hcc.1.2) (by rw [hlen']; exact hlen) (fun b hb => by have := deep_u (A := X.A) hu hcc.2 b hb; show X.A.units + 1 + 1 + PyData.depth (id b) < cLine; omega) fun out ho' eo => ?_
  obtain ⟨zs, r1, r2⟩ := of_sh eo
  obtain ⟨e', he'⟩ := PyProof.Rows.sortedHeap_at (vs := acc'.toList) (out := out.toArray) hoL
  refine wpAny_pure ⟨_, rfl, .ref h'.objs.size, upd H h'.objs.size (.lst zs), I1.laid (t' := tk) (fun b u e => ?_) (Nat.le_refl _)
    (show ObjOk X.prog X.w _ _ _ (.lst zs) from ⟨by rw [r1.length, ho', hlen']; exact hlen, out, e', r1, he'⟩), rfl, q _ zs (I1.hok.fresh (Nat.le_refl _)) r2⟩
  have hb : b < h'.objs.size := Heap.lt_size e
  rw [PyProof.Rows.sortedHeap_old (Nat.ne_of_lt hb) (by rw [size_push']; exact Nat.lt_succ_of_lt hb)]
  exact Heap.get?_push_of_some _ e
def dSort : List D → Option (List D)
  | [.list ds] => if alikeL ds && sortL ds && deepL ds then some (sortD ds) else none
  | [.dict es] => if alikeL (es.map (·.1)) && sortL (es.map (·.1)) && deepL (es.map (·.1)) then some (sortD (es.map (·.1))) else none
  | _ => none
theorem so_sorted {k : Nat} (hr : Room k X.A) (C : Cxt X W) (hm : X.mg "sorted" = none) (ha : SA X B W [e] mas) (hg : Gl X "sorted" := by rfl) (he : starEach [e] X.env = (false, eval e X.env) :: starEach [] X.env := by rfl) (hpl : (backTo pos (starEach [] X.env)).any (·.1) = false := by rfl) : SO X B W (.Call (.Name "sorted" p) [e] [] pos) (bcO dSort mas) :=
  so_cb ((cr_sortQ (u64 hr)).or (cr_sortDc C.calm (u64 hr))) (fun G H vs ds z Q g r hz hq => by
    unfold dSort at hz
    split at hz
    · obtain ⟨v, rfl, rv⟩ := rpa1 r
      split at hz
      · rename_i hc
        cases rv with
        | lst h r' => cases hz; exact .inl ⟨G, _, _, _, rfl, g, g.seq h, r', hc, fun p ys hp ry => hq _ _ (Gr.own g hp) p ys hp (own_fresh g hp) upd_same ry⟩
      · cases hz
    · obtain ⟨v, rfl, rv⟩ := rpa1 r
      split at hz
      · rename_i hc
        cases rv with
        | dict h r' =>
          cases hz
          exact .inr ⟨G, _, _, _, rfl, g, g _ _ h, r'.mono g, hc, fun p ys hp ry => hq _ _ ((tups_gr g).trans (Gr.own (tups_h g) hp)) p ys hp (own_fresh (tups_h g) hp) upd_same ry⟩
      · cases hz
    · cases hz) (by decide +kernel) hm ha hg (by decide) (by decide) he hpl
end
end Q

set_option maxHeartbeats 1000000
/-! # Qi: isinstance, texts, one's own lists and dicts, a look at one's own, refusals -/
namespace Q
open PySem L2
section
variable {X : Cx} {B : Bs} {W : WX} {a b c e : Expr} {ma mb mc : Env → R D} {mt : Env → R Bool} {mas : Env → R (List D)} {mo : Env → R (List D)} {pos p apos : Pos} {es : List Expr} {x : Str} {k : Nat}

/-! ### list(d) -/
def dKeys : List D → Option (List D)
  | [.dict es] => some (es.map (·.1))
  | _ => none
def rListDc (K : PySem.W.Frag) : List V → Hp → VK → Prop := fun vs H Q => ∃ G a kvs es, vs = [V.ref a] ∧ Same G H ∧ H a = some (.dT kvs) ∧ RpD K H kvs es ∧ ∀ p ys, H p = none → RpA K (tups G H) ys (es.map (·.1)) → Q (.ref p) (upd H p (.lst ys))
theorem keysI_rp {K : PySem.W.Frag} {G H : Hp} (g : Same G H) : ∀ {kvs : List (List Key × V)} {es : List (D × D)} {bs : List Addr}, RpD K H kvs es → Paired (fun (p : List Key × V) b => H b = some (.tup (p.1.map kV))) kvs bs → RpA K (tups G H) (bs.map V.ref) (es.map (·.1))
  | _, _, _, .nil, .nil => .nil
  | _, _, _, @RpD.cons _ _ k v d kvs es r rr, .cons h t => .cons (.tup (tups_t g h) (keys_rp.keyA k)) (keysI_rp g rr t)
theorem call_listDc (hc : X.calm = true) : CallR X (.type "list") (rListDc X.K) := by
  intro pins s σ H xs us Q I r h
  obtain ⟨G, d, kvs, es, rfl, g, hd, rd, q⟩ := h
  exact call_list_dT hc pins s σ H _ us Q I r ⟨d, kvs, rfl, .inl hd, fun p bs hp hk => q p _ hp (keysI_rp g rd hk)⟩
theorem so_keys (C : Cxt X W) (hm : X.mg "list" = none) (ha : SA X B W [e] mas) (hg : Gl X "list" := by rfl) (he : starEach [e] X.env = (false, eval e X.env) :: starEach [] X.env := by rfl) (hpl : (backTo pos (starEach [] X.env)).any (·.1) = false := by rfl) : SO X B W (.Call (.Name "list" p) [e] [] pos) (bcO dKeys mas) :=
  so_ct (call_listDc C.calm) (fun G H vs ds z Q g r hz hq => by
    unfold dKeys at hz
    split at hz
    · obtain ⟨v, rfl, rv⟩ := rpa1 r
      cases rv with
      | dict h r' => cases hz; exact ⟨G, _, _, _, rfl, g, g _ _ h, r'.mono g, fun p ys hp ry => hq _ _ ((tups_gr g).trans (Gr.own (tups_h g) hp)) p ys hp (own_fresh (tups_h g) hp) upd_same ry⟩
    · cases hz) (by decide +kernel) hm ha hg (by decide) (by decide) he hpl

/-! ### isinstance -/
def tyN : D → String
  | .none => "NoneType"
  | .bool _ => "bool"
  | .int _ => "int"
  | .str _ => "str"
  | .list _ => "list"
  | .tuple _ => "tuple"
  | .dict _ => "dict"
theorem ty_rp {K : PySem.W.Frag} {G H : Hp} {v : V} {d : D} (g : Same G H) (r : Rp K G v d) : TyX K H v (.type (tyN d)) := by
  cases r with
  | non => exact .base .non
  | bl b => exact .base (.bl b)
  | int i => exact .base (.int i)
  | str x => exact .base (.str x)
  | lst h r =>
    rcases g.seq h with (h | ⟨o, h⟩) | ⟨o, its, n, h1, h2, _⟩
    · exact .base (.lst h)
    · exact .base (.frz h)
    · exact .kList h1 h2
  | tup h r => exact .base (.tup (g _ _ h))
  | dict h r => exact .base (.dT (g _ _ h))
def dIsi (T : String) (d : D) : Option D := (kitB (tyN d) T).map .bool
def isi (T : String) := e1 (dIsi T)
theorem se_isi {x T : String} {px : Pos} (ha : SE X B W a ma) (hm : X.mg "isinstance" = none) (hmx : X.mg (Str.ofString x) = none) (hv : bootBuiltins (Str.ofString x) = some (.type T)) (hg : Gl X "isinstance" := by rfl) (hgx : Gl X (Str.ofString x) := by rfl)
    (hn : Str.ofString x ≠ "__name__" := by decide) (hd : (Str.ofString x == ("__debug__" : Str)) = false := by decide)
    (he : starEach [a, .Name (Str.ofString x) px] X.env = (false, eval a X.env) :: starEach [.Name (Str.ofString x) px] X.env := by rfl) (he2 : starEach [.Name (Str.ofString x) px] X.env = (false, eval (.Name (Str.ofString x) px) X.env) :: starEach [] X.env := by rfl) (hpl : (backTo pos (starEach [.Name (Str.ofString x) px] X.env)).any (·.1) = false := by rfl) :
    SE X B W (.Call (.Name "isinstance" p) [a, .Name (Str.ofString x) px] [] pos) (isi T ma) :=
  ⟨(pe_callB call_isi hg hm (by decide +kernel) (pa_cons ha.pe (pa_cons (pe_bltn (v := .ty T) hgx hmx hv rfl hn hd) pa_nil he2) he) (by decide) (by decide) he hpl).imp fun σ H Q ⟨ρ, G, s, h⟩ => ⟨ρ, G, s, (Af.bind h).imp fun d G1 H1 g1 h1 v r => by
    obtain ⟨z, hz, hq⟩ := Af.of h1
    unfold dIsi at hz
    rw [Option.map_eq_some_iff] at hz
    obtain ⟨b, hb, rfl⟩ := hz
    exact ⟨v, .ty T, _, _, b, rfl, .ty T, ty_rp g1.gh r, kit_ty hb, hq G1 H1 (Gr.refl g1.gh) _ (.bl b)⟩⟩⟩

/-! ### texts -/
/-- a text's method with one argument -/
def strM (f : Str → D → R D) (ma mb : Env → R D) : Env → R D := fun ρ => (ma ρ).bind fun x => match x with
  | .str a => (mb ρ).bind fun y => f a y
  | _ => .bad
def strMO (f : Str → D → R (List D)) (ma mb : Env → R D) : Env → R (List D) := fun ρ => (ma ρ).bind fun x => match x with
  | .str a => (mb ρ).bind fun y => f a y
  | _ => .bad
theorem m1_t {r : V → List V → Hp → VK → Prop} {f : Str → D → R D} (ok : ∀ (σ : St) (a : Str) (G H : Hp) (y : V) (d : D) (Q : VK), Same G H → Rp X.K G y d → Af (kx X B W) σ G H (f a d) (fun d G' H' => ∀ v, Rp X.K G' v d → Q v H') → r (.str a) [y] H Q) {σ : St} {H : Hp} {Q : VK} (h : tS (kx X B W) (strM f ma mb) σ H Q) :
    tM1 r (tS (kx X B W) ma) (tS (kx X B W) mb) σ H Q := by
  obtain ⟨ρ, G, s, h⟩ := h
  refine ⟨ρ, G, s, (Af.bind h).imp fun d G1 H1 g1 h1 v r => ?_⟩
  cases r with
  | str z => exact ⟨⟨z, rfl⟩, ρ, G1, s.step g1, (Af.bind h1).imp fun d2 G2 H2 g2 h2 v2 r2 => ok σ z G2 H2 v2 d2 Q g2.gh r2 h2⟩
  | _ => exact h1.elim
theorem m1O_t {r : V → List V → Hp → VK → Prop} {f : Str → D → R (List D)} (ok : ∀ (σ : St) (a : Str) (G H : Hp) (y : V) (d : D) (Q : VK), Same G H → Rp X.K G y d → Af (kx X B W) σ G H (f a d) (fun ds G' H' => ∀ p vs, H p = none → G' p = none → H' p = some (.lst vs) → RpA X.K G' vs ds → Q (.ref p) H') → r (.str a) [y] H Q) {σ : St} {H : Hp} {Q : VK} (h : tO (kx X B W) (strMO f ma mb) σ H Q) :
    tM1 r (tS (kx X B W) ma) (tS (kx X B W) mb) σ H Q := by
  obtain ⟨ρ, G, s, h⟩ := h
  refine ⟨ρ, G, s, ?_⟩
  unfold strMO at h
  cases e1 : ma ρ with
  | exc c x => rw [e1] at h; exact h
  | bad => rw [e1] at h; exact h
  | ok d =>
    rw [e1] at h
    intro G1 H1 g1 v1 r1
    cases r1 with
    | str z =>
      refine ⟨⟨z, rfl⟩, ρ, G1, s.step g1, ?_⟩
      simp only [R.bind_ok] at h
      cases e2 : mb ρ with
      | exc c x => rw [e2] at h; exact Af.mono g1 h
      | bad => rw [e2] at h; exact h
      | ok d2 =>
        rw [e2] at h
        intro G2 H2 g2 v2 r2
        have g12 := g1.trans g2
        exact ok σ z G2 H2 v2 d2 Q g2.gh r2 ((Af.mono g12 h).imp fun ds G' H' g q p vs h0 hg hp r => q p vs (g12.h.free h0) hg hp r)
    | _ => exact h.elim
def fSplit (a : Str) : D → R (List D)
  | .str b => if b.length ≠ 0 ∧ a.length + 2 ≤ most then .ok ((Txt.split a b).map .str) else .bad
  | _ => .bad
theorem so_split (ha : SE X B W a ma) (hb : SE X B W b mb) (hs : starEach [b] X.env = [(false, eval b X.env)] := by rfl) (hbase : attributeBase a "split" X.env (eval a X.env) = eval a X.env := by rfl) (hline : (apos.endLine == pos.line) = true := by rfl) :
    SO X B W (.Call (.Attribute a "split" apos) [b] [] pos) (strMO fSplit ma mb) := ⟨(pe_split ha.pe hb.pe hs hbase hline).imp fun σ H Q h => m1O_t (fun σ z G H y d Q g r h => by
  cases r with
  | str t =>
    by_cases hl : t.length ≠ 0 ∧ z.length + 2 ≤ most
    · simp only [fSplit, if_pos hl] at h
      exact ⟨z, t, rfl, rfl, by simpa using hl.1, most_ok hl.2, fun p hp => h _ _ (Gr.own g hp) p _ hp (own_fresh g hp) upd_same (RpA.strs _)⟩
    · simp only [fSplit, if_neg hl] at h; exact h.elim
  | _ => exact h.elim) h⟩
def strsOf : List D → Option (List Str)
  | [] => some []
  | .str i :: r => (strsOf r).map fun k => i :: k
  | _ => none
theorem strs_rp {K : PySem.W.Frag} {G : Hp} : ∀ {vs : List V} {ds : List D} {ns : List Str}, RpA K G vs ds → strsOf ds = some ns → vs = ns.map V.str
  | _, _, _, .nil, h => by simp [strsOf] at h; subst h; rfl
  | _, _, _, .cons r rr, h => by
    cases r with
    | str i =>
      simp [strsOf] at h
      obtain ⟨k, h1, rfl⟩ := h
      rw [strs_rp rr h1]; rfl
    | _ => simp [strsOf] at h
def fJoin (a : Str) : D → R D
  | .list ds => match strsOf ds with
    | some ys => if (ys.map (·.length)).sum + ys.length * a.length ≤ most then .ok (.str (Txt.join a ys)) else .bad
    | none => .bad
  | _ => .bad
theorem se_join (ha : SE X B W a ma) (hb : SE X B W b mb) (hs : starEach [b] X.env = [(false, eval b X.env)] := by rfl) (hbase : attributeBase a "join" X.env (eval a X.env) = eval a X.env := by rfl) (hline : (apos.endLine == pos.line) = true := by rfl) :
    SE X B W (.Call (.Attribute a "join" apos) [b] [] pos) (strM fJoin ma mb) := ⟨(pe_join ha.pe hb.pe hs hbase hline).imp fun σ H Q h => m1_t (fun σ z G H y d Q g r h => by
  cases r with
  | @lst l xs ds h' r' =>
    simp only [fJoin] at h
    cases e1 : strsOf ds with
    | none => rw [e1] at h; exact h.elim
    | some ys =>
      rw [e1] at h
      simp only at h
      split at h
      · rename_i hl
        refine ⟨z, l, ys, rfl, rfl, .inl (by rw [← strs_rp r' e1]; exact g.seq h'), Nat.le_trans hl (by decide), h G H (Gr.refl g) _ (.str _)⟩
      · exact h.elim
  | _ => exact h.elim) h⟩
def fIndex (a : Str) : D → R D
  | .str b => match Builtin.Str.occurrences a b 0 a.length 1 with
    | i :: _ => .ok (.int (i : Nat))
    | [] => .bad
  | _ => .bad
theorem se_index (ha : SE X B W a ma) (hb : SE X B W b mb) (hs : starEach [b] X.env = [(false, eval b X.env)] := by rfl) (hbase : attributeBase a "index" X.env (eval a X.env) = eval a X.env := by rfl) (hline : (apos.endLine == pos.line) = true := by rfl) :
    SE X B W (.Call (.Attribute a "index" apos) [b] [] pos) (strM fIndex ma mb) := ⟨(pe_m1 F.slot_str_index F.type_str_index mt_sindex ha.pe hb.pe hs hbase hline).imp fun σ H Q h => m1_t (fun σ z G H y d Q g r h => by
  cases r with
  | str t =>
    simp only [fIndex] at h
    cases e1 : Builtin.Str.occurrences z t 0 z.length 1 with
    | nil => rw [e1] at h; exact h.elim
    | cons i rest => rw [e1] at h; exact ⟨z, t, i, rest, rfl, rfl, e1, h G H (Gr.refl g) _ (.int _)⟩
  | _ => exact h.elim) h⟩

/-! ### one's own lists -/
/-- with the i-th name's own list -/
def withL (i : Nat) (f : List D → Out) (ρ : Env) : Out := match ρ[i]? with
  | some (.ol ds) => f ds
  | _ => .bad
def app (i : Nat) (m : Env → R D) : SM := fun ρ => withL i (fun ds => (m ρ).go ρ fun d => if ds.length < most then .nx (ρ.set i (.ol (ds ++ [d]))) else .bad) ρ
theorem withL_t {k : Kx} {i : Nat} {f : List D → Out} {ρ : Env} {D' : Ends} {G : Hp} (h : AfS k D' G (withL i f ρ)) : ∃ ds, ρ[i]? = some (.ol ds) ∧ AfS k D' G (f ds) := by
  unfold withL at h
  cases e : ρ[i]? with
  | none => rw [e] at h; exact h.elim
  | some sl =>
    rw [e] at h
    cases sl with
    | ol ds => exact ⟨ds, rfl, h⟩
    | _ => exact h.elim
theorem ow_l {ρ : Env} {i : Nat} {ds : List D} (h : ρ[i]? = some (.ol ds)) : Ow ρ[i]? := by rw [h]; trivial
theorem ow_d {ρ : Env} {i : Nat} {es : List (D × D)} (h : ρ[i]? = some (.od es)) : Ow ρ[i]? := by rw [h]; trivial
theorem ss_app (i : Nat) {ep : Pos} (h : SE X B W a ma) (hN : X.N[i]? = some x := by rfl) (hv : Vis X.env.scope x := by first | exact Or.inl rfl | exact Or.inr (Or.inl rfl) | exact Or.inr (Or.inr rfl)) (hd : (x == ("__debug__" : Str)) = false := by decide) (hcd : (x == ("__classdict__" : Str)) = false := by decide)
    (he : starEach [a] X.env = (false, eval a X.env) :: starEach [] X.env := by rfl) (hbase : attributeBase (.Name x p) "append" X.env (eval (.Name x p) X.env) = eval (.Name x p) X.env := by rfl)
    (hfew : ((backTo pos (starEach [a] X.env)).all (fun x => !x.1) && (backToKw pos (keywordEach [] X.env)).all (fun x => x.1.isSome) && decide ([a].length + ([] : List Keyword).length + (if ([] : List Keyword).isEmpty then 0 else 1) < 30)) = true := by rfl)
    (hline : (apos.endLine == pos.line) = true := by rfl) (hpl : (backTo pos (starEach [] X.env)).any (·.1) = false := by rfl) (hs : swapsWith (.Call (.Attribute (.Name x p) "append" apos) [a] [] pos) none ep.line X.env = pure false := by rfl) :
    SS X B W (.Expr (.Call (.Attribute (.Name x p) "append" apos) [a] [] pos) ep) (app i ma) :=
  ⟨(ps_expr (pe_bm PySem.F.plainAttrs_list PySem.F.slot_list_append PySem.F.type_list_append mt_append (pe_var hN hv hd hcd) (pa_cons h.pe pa_nil he) hbase hfew hline he hpl) hs).imp fun D' σ H ⟨ρ, G, s, h⟩ => by
    obtain ⟨ds, e1, h⟩ := withL_t h
    obtain ⟨q, vs, h1, h2, h3, h4, h5⟩ := s.ol i ds e1
    refine ⟨.ref q, h1, .inl ⟨rfl, _, SqL.of h4⟩, ρ, G, s, (Af.go s h).imp fun d G1 H1 g1 h6 v r => ?_⟩
    obtain ⟨q', vs', k1, k2, k3, k4, k5⟩ := (s.step g1).ol i ds e1
    rw [h1] at k1; cases k1
    by_cases hl : ds.length < most
    · rw [if_pos hl] at h6
      exact ⟨q, vs', v, rfl, rfl, k4, by rw [k5.len]; exact most_lt hl, h6 _ G1 _ ((s.step g1).write (ow_l e1) h1 (.inl ⟨vs' ++ [v], ds ++ [d], rfl, k5.append (.one r), rfl⟩)) (Same.refl _)⟩
    · rw [if_neg hl] at h6; exact h6.elim⟩
/-- x.pop(), x.clear(), x.reverse() -/
def pop0 (i : Nat) : SM := fun ρ => withL i (fun ds => if ds ≠ [] then .nx (ρ.set i (.ol ds.dropLast)) else .bad) ρ
def clr (i : Nat) : SM := fun ρ => withL i (fun _ => .nx (ρ.set i (.ol []))) ρ
def rvs (i : Nat) : SM := fun ρ => withL i (fun ds => .nx (ρ.set i (.ol ds.reverse))) ρ
theorem RpA.dropLast {K : PySem.W.Frag} {G : Hp} {vs : List V} {ds : List D} (h : RpA K G vs ds) : RpA K G vs.dropLast ds.dropLast := by
  rw [List.dropLast_eq_take, List.dropLast_eq_take, h.len]
  exact h.take _
theorem ss_pop0 (i : Nat) {ep : Pos} (hN : X.N[i]? = some x := by rfl) (hv : Vis X.env.scope x := by first | exact Or.inl rfl | exact Or.inr (Or.inl rfl) | exact Or.inr (Or.inr rfl)) (hd : (x == ("__debug__" : Str)) = false := by decide) (hcd : (x == ("__classdict__" : Str)) = false := by decide)
    (hbase : attributeBase (.Name x p) "pop" X.env (eval (.Name x p) X.env) = eval (.Name x p) X.env := by rfl) (hline : (apos.endLine == pos.line) = true := by rfl) (hs : swapsWith (.Call (.Attribute (.Name x p) "pop" apos) [] [] pos) none ep.line X.env = pure false := by rfl) :
    SS X B W (.Expr (.Call (.Attribute (.Name x p) "pop" apos) [] [] pos) ep) (pop0 i) :=
  ⟨(ps_expr (pe_bm0 PySem.F.plainAttrs_list PySem.F.slot_list_pop PySem.F.type_list_pop mt_pop (pe_var hN hv hd hcd) hbase hline) hs).imp fun D' σ H ⟨ρ, G, s, h⟩ => by
    obtain ⟨ds, e1, h⟩ := withL_t h
    obtain ⟨q, vs, h1, h2, h3, h4, h5⟩ := s.ol i ds e1
    by_cases hl : ds ≠ []
    · rw [if_pos hl] at h
      have hlen : 0 < vs.length := by rw [h5.len]; exact List.length_pos_iff.mpr hl
      exact ⟨.ref q, h1, .inl ⟨rfl, _, SqL.of h4⟩, q, vs, vs[vs.length - 1], rfl, rfl, h4, List.getElem?_eq_getElem (by omega), h _ G _ (s.write (ow_l e1) h1 (.inl ⟨_, _, rfl, h5.dropLast, rfl⟩)) (Same.refl _)⟩
    · rw [if_neg hl] at h; exact h.elim⟩
theorem ss_clr (i : Nat) {ep : Pos} (hN : X.N[i]? = some x := by rfl) (hv : Vis X.env.scope x := by first | exact Or.inl rfl | exact Or.inr (Or.inl rfl) | exact Or.inr (Or.inr rfl)) (hd : (x == ("__debug__" : Str)) = false := by decide) (hcd : (x == ("__classdict__" : Str)) = false := by decide)
    (hbase : attributeBase (.Name x p) "clear" X.env (eval (.Name x p) X.env) = eval (.Name x p) X.env := by rfl) (hline : (apos.endLine == pos.line) = true := by rfl) (hs : swapsWith (.Call (.Attribute (.Name x p) "clear" apos) [] [] pos) none ep.line X.env = pure false := by rfl) :
    SS X B W (.Expr (.Call (.Attribute (.Name x p) "clear" apos) [] [] pos) ep) (clr i) :=
  ⟨(ps_expr (pe_bm0 PySem.F.plainAttrs_list PySem.F.slot_list_clear PySem.F.type_list_clear mt_clear (pe_var hN hv hd hcd) hbase hline) hs).imp fun D' σ H ⟨ρ, G, s, h⟩ => by
    obtain ⟨ds, e1, h⟩ := withL_t h
    obtain ⟨q, vs, h1, h2, h3, h4, h5⟩ := s.ol i ds e1
    exact ⟨.ref q, h1, .inl ⟨rfl, _, SqL.of h4⟩, q, vs, rfl, rfl, h4, h _ G _ (s.write (ow_l e1) h1 (.inl ⟨_, _, rfl, .nil, rfl⟩)) (Same.refl _)⟩⟩
theorem ss_rvs (i : Nat) {ep : Pos} (hN : X.N[i]? = some x := by rfl) (hv : Vis X.env.scope x := by first | exact Or.inl rfl | exact Or.inr (Or.inl rfl) | exact Or.inr (Or.inr rfl)) (hd : (x == ("__debug__" : Str)) = false := by decide) (hcd : (x == ("__classdict__" : Str)) = false := by decide)
    (hbase : attributeBase (.Name x p) "reverse" X.env (eval (.Name x p) X.env) = eval (.Name x p) X.env := by rfl) (hline : (apos.endLine == pos.line) = true := by rfl) (hs : swapsWith (.Call (.Attribute (.Name x p) "reverse" apos) [] [] pos) none ep.line X.env = pure false := by rfl) :
    SS X B W (.Expr (.Call (.Attribute (.Name x p) "reverse" apos) [] [] pos) ep) (rvs i) :=
  ⟨(ps_expr (pe_bm0 PySem.F.plainAttrs_list PySem.F.slot_list_reverse PySem.F.type_list_reverse mt_reverse (pe_var hN hv hd hcd) hbase hline) hs).imp fun D' σ H ⟨ρ, G, s, h⟩ => by
    obtain ⟨ds, e1, h⟩ := withL_t h
    obtain ⟨q, vs, h1, h2, h3, h4, h5⟩ := s.ol i ds e1
    exact ⟨.ref q, h1, .inl ⟨rfl, _, SqL.of h4⟩, q, vs, rfl, rfl, h4, h _ G _ (s.write (ow_l e1) h1 (.inl ⟨_, _, rfl, h5.reverse, rfl⟩)) (Same.refl _)⟩⟩
/-- x.pop(j) -/
def popI (i : Nat) (m : Env → R D) : SM := fun ρ => withL i (fun ds => (m ρ).go ρ fun d => match d with
  | .int j => if -(big : Int) ≤ j ∧ j ≤ big then (match seqIndex? j ds.length with
    | some k => if k < ds.length then .nx (ρ.set i (.ol (ds.eraseIdx k))) else .bad
    | none => .bad) else .bad
  | _ => .bad) ρ
theorem RpA.erase {K : PySem.W.Frag} {G : Hp} : ∀ {vs : List V} {ds : List D} (k : Nat), RpA K G vs ds → RpA K G (vs.eraseIdx k) (ds.eraseIdx k)
  | _, _, _, .nil => .nil
  | _, _, 0, .cons _ b => b
  | _, _, k + 1, .cons a b => .cons a (RpA.erase k b)
theorem ss_popI (i : Nat) {ep : Pos} (h : SE X B W a ma) (hN : X.N[i]? = some x := by rfl) (hv : Vis X.env.scope x := by first | exact Or.inl rfl | exact Or.inr (Or.inl rfl) | exact Or.inr (Or.inr rfl)) (hd : (x == ("__debug__" : Str)) = false := by decide) (hcd : (x == ("__classdict__" : Str)) = false := by decide)
    (he : starEach [a] X.env = (false, eval a X.env) :: starEach [] X.env := by rfl) (hbase : attributeBase (.Name x p) "pop" X.env (eval (.Name x p) X.env) = eval (.Name x p) X.env := by rfl)
    (hfew : ((backTo pos (starEach [a] X.env)).all (fun x => !x.1) && (backToKw pos (keywordEach [] X.env)).all (fun x => x.1.isSome) && decide ([a].length + ([] : List Keyword).length + (if ([] : List Keyword).isEmpty then 0 else 1) < 30)) = true := by rfl)
    (hline : (apos.endLine == pos.line) = true := by rfl) (hpl : (backTo pos (starEach [] X.env)).any (·.1) = false := by rfl) (hs : swapsWith (.Call (.Attribute (.Name x p) "pop" apos) [a] [] pos) none ep.line X.env = pure false := by rfl) :
    SS X B W (.Expr (.Call (.Attribute (.Name x p) "pop" apos) [a] [] pos) ep) (popI i ma) :=
  ⟨(ps_expr (pe_bm PySem.F.plainAttrs_list PySem.F.slot_list_pop PySem.F.type_list_pop mt_popAt (pe_var hN hv hd hcd) (pa_cons h.pe pa_nil he) hbase hfew hline he hpl) hs).imp fun D' σ H ⟨ρ, G, s, h⟩ => by
    obtain ⟨ds, e1, h⟩ := withL_t h
    obtain ⟨q, vs, h1, h2, h3, h4, h5⟩ := s.ol i ds e1
    refine ⟨.ref q, h1, .inl ⟨rfl, _, SqL.of h4⟩, ρ, G, s, (Af.go s h).imp fun d G1 H1 g1 h6 v r => ?_⟩
    obtain ⟨q', vs', k1, k2, k3, k4, k5⟩ := (s.step g1).ol i ds e1
    rw [h1] at k1; cases k1
    cases r with
    | int j =>
      by_cases hb : -(big : Int) ≤ j ∧ j ≤ big
      · simp only [if_pos hb] at h6
        cases e2 : seqIndex? j ds.length with
        | none => rw [e2] at h6; exact h6.elim
        | some kk =>
          rw [e2] at h6
          by_cases hl : kk < ds.length
          · simp only [if_pos hl] at h6
            have hl' : kk < vs'.length := by rw [k5.len]; exact hl
            have := big_lt hb
            exact ⟨q, vs', j, kk, vs'[kk], rfl, rfl, k4, by omega, by omega, by rw [k5.len]; exact e2, List.getElem?_eq_getElem hl', h6 _ G1 _ ((s.step g1).write (ow_l e1) h1 (.inl ⟨_, _, rfl, k5.erase kk, rfl⟩)) (Same.refl _)⟩
          · simp only [if_neg hl] at h6; exact h6.elim
      · simp only [if_neg hb] at h6; exact h6.elim
    | _ => exact h6.elim⟩
/-- x[j] = e -/
def putL (i : Nat) (mi me : Env → R D) : SM := fun ρ => (me ρ).go ρ fun d => withL i (fun ds => (mi ρ).go ρ fun jd => match jd with
  | .int j => (match ixN ds.length j with
    | some k => .nx (ρ.set i (.ol (ds.set k d)))
    | none => .bad)
  | _ => .bad) ρ
theorem ss_putL (i : Nat) {tp : Pos} (hi : SE X B W a ma) (h : SE X B W b mb) (hN : X.N[i]? = some x := by rfl) (hv : Vis X.env.scope x := by first | exact Or.inl rfl | exact Or.inr (Or.inl rfl) | exact Or.inr (Or.inr rfl)) (hd : (x == ("__debug__" : Str)) = false := by decide) (hcd : (x == ("__classdict__" : Str)) = false := by decide)
    (ha : ∀ v, assign (.Subscript (.Name x p) a tp) X.env v = (do
      let ov ← holding [v] (eval (.Name x p) X.env)
      let iv ← holding [v, ov] (eval a X.env)
      standAt tp
      holding [v, ov, iv] (setItem ov iv v)
      release [v, ov, iv] []) := by intro _; rfl) (hs : swapsWithSole [.Subscript (.Name x p) a tp] b pos.line X.env = pure false := by rfl) (hw : swappedStores [.Subscript (.Name x p) a tp] b X.env = pure none := by rfl)
    (h1 : (assignEach [.Subscript (.Name x p) a tp] X.env).map (·.2) = [assign (.Subscript (.Name x p) a tp) X.env] := by rfl) :
    SS X B W (.Assign [.Subscript (.Name x p) a tp] b pos) (putL i ma mb) :=
  ⟨(ps_asg h.pe (pg_sub (pe_var hN hv hd hcd) hi.pe set_list ha) hs hw h1).imp fun D' σ H ⟨ρ, G, s, h⟩ => by
    refine ⟨ρ, G, s, (Af.go s h).imp fun d G1 H1 g1 h6 v r => ?_⟩
    obtain ⟨ds, e1, h⟩ := withL_t h6
    obtain ⟨q, vs, h1, h2, h3, h4, h5⟩ := (s.step g1).ol i ds e1
    refine ⟨.ref q, h1, ρ, G1, s.step g1, (Af.go (s.step g1) h).imp fun jd G2 H2 g2 h7 jv rj => ?_⟩
    obtain ⟨q', vs', k1, k2, k3, k4, k5⟩ := ((s.step g1).step g2).ol i ds e1
    rw [h1] at k1; cases k1
    cases rj with
    | int j =>
      simp only at h7
      cases e2 : ixN ds.length j with
      | none => rw [e2] at h7; exact h7.elim
      | some kk =>
        rw [e2] at h7
        exact ⟨q, vs', j, kk, rfl, rfl, k4, by rw [k5.len]; exact e2, h7 _ G2 _ (((s.step g1).step g2).write (ow_l e1) h1 (.inl ⟨_, _, rfl, k5.setI kk (r.mono g2.g), rfl⟩)) (Same.refl _)⟩
    | _ => exact h7.elim⟩
/-- x[j] of one's own list -/
def oix (i : Nat) (m : Env → R D) : Env → R D := fun ρ => match ρ[i]? with
  | some (.ol ds) => (m ρ).bind fun d => R.of (dIx (.list ds) d)
  | some (.od es) => (m ρ).bind fun d => R.of (dIx (.dict es) d)
  | _ => .bad
theorem se_oix (i : Nat) (hr : Room k X.A) (hb : SE X B W b mb) (hN : X.N[i]? = some x := by rfl) (hv : Vis X.env.scope x := by first | exact Or.inl rfl | exact Or.inr (Or.inl rfl) | exact Or.inr (Or.inr rfl)) (hd : (x == ("__debug__" : Str)) = false := by decide) (hcd : (x == ("__classdict__" : Str)) = false := by decide)
    (hs : PlainIx b := by exact fun _ _ => rfl) : SE X B W (.Subscript (.Name x p) b pos) (oix i mb) :=
  ⟨(pe_ix (ix_list.or (ix_dict (by have := u64 hr; omega))) (pe_var hN hv hd hcd) hb.pe hs).imp fun σ H Q ⟨ρ, G, s, h⟩ => by
    unfold oix at h
    cases e : ρ[i]? with
    | none => rw [e] at h; exact h.elim
    | some sl =>
      rw [e] at h
      cases sl with
      | no => exact h.elim
      | fx _ _ => exact h.elim
      | dat d => exact h.elim
      | ol ds =>
        obtain ⟨q, vs, h1, h2, h3, h4, h5⟩ := s.ol i ds e
        refine ⟨.ref q, h1, ρ, G, s, (Af.bind h).imp fun d G1 H1 g1 h6 v r => ?_⟩
        obtain ⟨z, hz, hq⟩ := Af.of h6
        cases r with
        | int j =>
          obtain ⟨w, k1, k2⟩ := atI_rp (h5.mono g1.g) hz
          exact .inl ⟨q, vs, j, w, rfl, rfl, SqL.of (g1.h _ _ h4), k1, hq G1 H1 (Gr.refl g1.gh) _ k2⟩
        | _ => cases hz
      | od es =>
        obtain ⟨q, kvs, h1, h2, h3, h4, h5⟩ := s.od i es e
        refine ⟨.ref q, h1, ρ, G, s, (Af.bind h).imp fun d G1 H1 g1 h6 v r => ?_⟩
        obtain ⟨z, hz, hq⟩ := Af.of h6
        cases r with
        | @tup l xs ks h' r' =>
          simp only [dIx, Option.bind_eq_some_iff] at hz
          obtain ⟨kk, hk, hz⟩ := hz
          obtain ⟨w, k1, k2⟩ := (look_rp kk (h5.mono g1.g)).2 z hz
          exact .inr ⟨q, w, rfl, k1 ▸ dget_rp g1.gh (.tup h' r') hk (g1.h _ _ h4), hq G1 H1 (Gr.refl g1.gh) _ k2⟩
        | _ => cases hz⟩
/-- d[j] = e of one's own dict -/
def putD (i : Nat) (mi me : Env → R D) : SM := fun ρ => (me ρ).go ρ fun d => match ρ[i]? with
  | some (.od es) => (mi ρ).go ρ fun jd => match jd with
    | .tuple ks => (match keyOf ks with
      | some k => if es.length < most then .nx (ρ.set i (.od (dput es k d))) else .bad
      | none => .bad)
    | _ => .bad
  | _ => .bad
theorem ss_putD (i : Nat) {tp : Pos} (hr : Room k X.A) (hi : SE X B W a ma) (h : SE X B W b mb) (hN : X.N[i]? = some x := by rfl) (hv : Vis X.env.scope x := by first | exact Or.inl rfl | exact Or.inr (Or.inl rfl) | exact Or.inr (Or.inr rfl)) (hd : (x == ("__debug__" : Str)) = false := by decide) (hcd : (x == ("__classdict__" : Str)) = false := by decide)
    (hs : swapsWith b (some (.Subscript (.Name x p) a tp)) pos.line X.env = pure false := by rfl) :
    SS X B W (.Assign [.Subscript (.Name x p) a tp] b pos) (putD i ma mb) :=
  ⟨(ps_dput (by have := u64 hr; omega) (pe_var hN hv hd hcd) hi.pe h.pe hs).imp fun D' σ H ⟨ρ, G, s, h⟩ => by
    refine ⟨ρ, G, s, (Af.go s h).imp fun d G1 H1 g1 h6 v r => ?_⟩
    cases e : ρ[i]? with
    | none => rw [e] at h6; exact h6.elim
    | some sl =>
      rw [e] at h6
      cases sl with
      | od es =>
        obtain ⟨q, vs, h1, h2, h3, h4, h5⟩ := (s.step g1).od i es e
        refine ⟨.ref q, h1, ρ, G1, s.step g1, (Af.go (s.step g1) h6).imp fun jd G2 H2 g2 h7 jv rj => ?_⟩
        obtain ⟨q', vs', k1, k2, k3, k4, k5⟩ := ((s.step g1).step g2).od i es e
        rw [h1] at k1; cases k1
        cases rj with
        | @tup l xs ks h' r' =>
          simp only at h7
          cases e2 : keyOf ks with
          | none => rw [e2] at h7; exact h7.elim
          | some kk =>
            rw [e2] at h7
            by_cases hl : es.length < most
            · simp only [if_pos hl] at h7
              obtain ⟨e3, _⟩ := key_rp r' e2
              subst e3
              exact ⟨q, _, rfl, DPut.t k4 (g2.gh _ _ h') (by rw [k5.len]; exact most_lt hl), h7 _ G2 _ (((s.step g1).step g2).write (ow_d e) h1 (.inr ⟨_, _, rfl, put_rp k5 kk (r.mono g2.g), rfl⟩)) (Same.refl _)⟩
            · simp only [if_neg hl] at h7; exact h7.elim
        | _ => exact h7.elim
      | _ => exact h6.elim⟩

/-! ### a look at one's own: an expression that gives a plain value -/
def pkR (r : R D) : R D := match r with
  | .ok d => if flatD d = true then .ok d else .bad
  | .exc c .none => .exc c .none
  | _ => .bad
def pk (i : Nat) (m : Env → R D) : Env → R D := fun ρ => pkR (m (frz i ρ))
def pkT (i : Nat) (m : Env → R Bool) : Env → R Bool := fun ρ => match m (frz i ρ) with
  | .ok b => .ok b
  | .exc c .none => .exc c .none
  | _ => .bad
def off (p : Addr) (G : Hp) : Hp := fun q => if q = p then none else G q
theorem Gr.off {G H G' H' : Hp} {p : Addr} {o : HO} (hg : G p = none) (a : Gr (upd G p o) H G' H') : Gr G H (Q.off p G') H' :=
  ⟨fun b u h => by
    unfold Q.off
    rw [if_neg (ne_of_none h hg)]
    exact a.g b u (by rw [upd_ne (ne_of_none h hg)]; exact h),
   fun b u h => by
    unfold Q.off at h
    split at h
    · cases h
    · exact a.gh b u h,
   a.h,
   fun b h => by
    unfold Q.off at h
    split at h
    · exact absurd rfl h
    · rename_i hb
      rcases a.fr b h with z | z
      · rw [upd_ne hb] at z; exact .inl z
      · exact .inr z⟩
theorem flat_any {K : PySem.W.Frag} {G G' : Hp} {v : V} {d : D} (h : Rp K G v d) (f : flatD d = true) : Rp K G' v d := by
  cases h with
  | non => exact .non
  | bl b => exact .bl b
  | int b => exact .int b
  | str b => exact .str b
  | _ => cases f
theorem se_pk (i : Nat) (h : SE X B W e ma) : SE X B W e (pk i ma) := ⟨h.pe.imp fun σ H Q ⟨ρ, G, s, h⟩ => by
  rcases s.frz i with ⟨p, o, h1, h2, h3, h4, h5, s'⟩ | e1
  · refine ⟨frz i ρ, upd G p o, s', ?_⟩
    unfold pk pkR at h
    cases e2 : ma (frz i ρ) with
    | bad => rw [e2] at h; exact h.elim
    | ok d =>
      rw [e2] at h
      intro G' H' g v r
      by_cases hf : flatD d = true
      · simp only [if_pos hf] at h
        exact h _ _ (Gr.off h4 g) v (flat_any r hf)
      · simp only [if_neg hf] at h; exact h.elim
    | exc c x =>
      rw [e2] at h
      cases x with
      | none => exact fun cls dd G' H' g xc => h cls dd _ _ (Gr.off h4 g) xc
      | _ => exact h.elim
  · refine ⟨ρ, G, s, ?_⟩
    unfold pk pkR at h
    rw [e1] at h
    cases e2 : ma ρ with
    | bad => rw [e2] at h; exact h.elim
    | ok d =>
      rw [e2] at h
      by_cases hf : flatD d = true
      · simp only [if_pos hf] at h; exact h
      · simp only [if_neg hf] at h; exact h.elim
    | exc c x =>
      rw [e2] at h
      cases x with
      | none => exact h
      | _ => exact h.elim⟩
theorem st_pk (i : Nat) (h : ST X B W e mt) : ST X B W e (pkT i mt) := ⟨h.pt.imp fun σ H Q ⟨ρ, G, s, h⟩ => by
  rcases s.frz i with ⟨p, o, h1, h2, h3, h4, h5, s'⟩ | e1
  · refine ⟨frz i ρ, upd G p o, s', ?_⟩
    unfold pkT at h
    cases e2 : mt (frz i ρ) with
    | bad => rw [e2] at h; exact h.elim
    | ok d =>
      rw [e2] at h
      exact fun G' H' g => h _ _ (Gr.off h4 g)
    | exc c x =>
      rw [e2] at h
      cases x with
      | none => exact fun cls dd G' H' g xc => h cls dd _ _ (Gr.off h4 g) xc
      | _ => exact h.elim
  · refine ⟨ρ, G, s, ?_⟩
    unfold pkT at h
    rw [e1] at h
    cases e2 : mt ρ with
    | bad => rw [e2] at h; exact h.elim
    | ok d => rw [e2] at h; exact h
    | exc c x =>
      rw [e2] at h
      cases x with
      | none => exact h
      | _ => exact h.elim⟩

/-! ### refusals -/
/-- a class of refusal without a field, at C -/
structure ExcAt (K : PySem.W.Frag) (mg : Str → Option Value) (c : String) : Prop where
  ex : ∃ C, mg (Str.ofString c) = some (.ref C) ∧ PySem.W.excIn K C [.type "ValueError", .type "Exception", .type "BaseException", .type "object"] "ValueError.__new__" = true ∧ PySem.W.keepIn K (.ref C) = true ∧
    PySem.W.subIn K (.ref C) (.type "BaseException") = some true ∧ PySem.W.typeIn K (.ref C) = some (.type "type")
def rse (c : String) : SM := fun ρ => .exc c .none ρ
theorem ss_raise {c : String} {m : Str} {j : Nat} {p1 p2 p3 : Pos} (C : Cxt X W) (E : ExcAt X.K X.mg c) (hg : Gl X (Str.ofString c) := by rfl) (hdb : (Str.ofString c == ("__debug__" : Str)) = false := by decide) :
    SS X B W (.Raise (some (.Call (.Name (Str.ofString c) p1) [.Constant (.str m) j p2] [] p3)) none pos) (rse c) := by
  obtain ⟨D0, h1, h2, h3, h4, h5⟩ := E.ex
  exact ⟨(ps_raise C.calm C.tk (pmk_own PySem.F.excBase_ValueError h2 h1 h3 (raises_own h4 h5) hg hdb)).imp fun D' σ H ⟨ρ, G, s, h⟩ => h _ none σ G H s (Same.refl _) ⟨D0, h1, rfl, rfl⟩⟩
/-- try: .. except c: .. -/
def tryM (f : String → Option Bool) (m n : SM) : SM := fun ρ => match m ρ with
  | .exc c a ρ' => (match f c with
    | some true => (match n ρ' with
      | .exc _ _ _ => .bad
      | o => o)
    | some false => .exc c a ρ'
    | none => .bad)
  | o => o
theorem ss_try {sts sts' : List Stmt} {b₀ : Stmt} {m n : SM} {c : Str} {f : String → Option Bool} {CA : Addr} {np pos' : Pos} (C : Cxt X W) (hs : X.stack = X.env :: X.outer) (hf : X.env.frame = some X.env.locals) (hc : Names X c (.ref CA))
    (hx : ∀ c' b, f c' = some b → ∀ C', X.mg (Str.ofString c') = some (.ref C') → PySem.W.exmOne X.K (.ref C') (.ref CA) = some b)
    (hb : ∀ (W' : WX) (pn : List (Addr × Obj)) (xe : Value → Shared → Prop), Cxt (X.tr pn xe) W' → SSs (X.tr pn xe) B W' sts m)
    (hsu : ∀ (a : Addr) (oe : Obj) (pn : List (Addr × Obj)), SSs (X.suite a ((a, oe) :: pn)) B W0 (b₀ :: sts') n) :
    SS X B W (.Try sts [.ExceptHandler (some (.Name c np)) none (b₀ :: sts') pos'] [] [] pos) (tryM f m n) :=
  ⟨(ps_try_only (tb := fun W' => tSt ⟨X.K, X.mg, B, W'⟩ m) (ts := fun _ _ _ => tSt ⟨X.K, X.mg, B, W0⟩ n) hs hf hc C.tk (fun W' pn xe tk po => (hb W' pn xe ⟨C.calm, C.nd, tk, po⟩).ps) (fun a oe cls d pn _ _ => (hsu a oe pn).ps)).imp fun D' σ H ⟨ρ, G, s, h⟩ => by
    refine ⟨ρ, G, s, ?_⟩
    unfold tryM at h
    cases e : m ρ with
    | exc c' a ρ' =>
      rw [e] at h
      intro cls dd σ' G' H' s' q' xc
      obtain ⟨C', hm, rfl, hd⟩ := id xc
      simp only at h
      cases e2 : f c' with
      | none => rw [e2] at h; exact h.elim
      | some b =>
        rw [e2] at h
        refine ⟨b, hx c' b e2 C' hm, fun hb _ _ => ?_, fun hb => ?_⟩
        · subst hb
          simp only at h
          refine ⟨ρ', G', s', ?_⟩
          cases e3 : n ρ' with
          | exc c a ρ2 => rw [e3] at h; exact h.elim
          | nx ρ2 => rw [e3] at h; exact fun σ5 G5 H5 s5 q5 => h σ5 G5 H5 s5 (q'.trans q5)
          | bk ρ2 => rw [e3] at h; exact fun σ5 G5 H5 s5 q5 => h σ5 G5 H5 s5 (q'.trans q5)
          | ct ρ2 => rw [e3] at h; exact fun σ5 G5 H5 s5 q5 => h σ5 G5 H5 s5 (q'.trans q5)
          | rt d => rw [e3] at h; exact h
          | rl d => rw [e3] at h; exact h
          | bad => rw [e3] at h; exact h
        · subst hb
          exact h _ dd σ' G' H' s' q' xc
    | nx ρ' => rw [e] at h; exact h
    | bk ρ' => rw [e] at h; exact h
    | ct ρ' => rw [e] at h; exact h
    | rt d => rw [e] at h; exact h
    | rl d => rw [e] at h; exact h
    | bad => rw [e] at h; exact h⟩
end
end Q
namespace Q
/-- the most turns, by what the i-th name holds -/
def natOf : Option Slot → Nat
  | some (.dat (.int n)) => n.natAbs + 1
  | some (.dat (.list ds)) => ds.length + 1
  | some (.ol ds) => ds.length + 1
  | _ => 0
def fuel (i : Nat) : Env → Nat := fun ρ => natOf ρ[i]?
end Q

set_option maxHeartbeats 1000000
/-! # Qj: defs as they stand, the law's end -/
namespace Q
open PySem L2
theorem Cxt.blk {X : Cx} {W : WX} (C : Cxt X W) {s : Shared} {H : Hp} {scope : Scope} {ce : PySem.Env} {fp : List Addr} : Cxt (X.blk s H scope ce fp) W0 := ⟨C.calm, C.nd, takes0, PassesOwn.never⟩
/-- try: .. where nothing is refused -/
def calmM (m : SM) : SM := fun ρ => match m ρ with
  | .exc _ _ _ => .bad
  | o => o
theorem Cxt.nox {X : Cx} {W : WX} (C : Cxt X W) : Cxt X.nox W0 := ⟨C.calm, C.nd, takes0, PassesOwn.never⟩
theorem ss_try0 {X : Cx} {B : Bs} {W : WX} {sts : List Stmt} {h₀ : ExceptHandler} {hs : List ExceptHandler} {pos : Pos} {m : SM} (hb : SSs X.nox B W0 sts m) : SS X B W (.Try sts (h₀ :: hs) [] [] pos) (calmM m) :=
  ⟨(ps_try_thru0 hb.ps).imp fun D' σ H ⟨ρ, G, s, h⟩ => by
    refine ⟨ρ, G, s, ?_⟩
    unfold calmM at h
    cases e : m ρ with
    | exc c a ρ' => rw [e] at h; exact h.elim
    | nx ρ' => rw [e] at h; exact h
    | bk ρ' => rw [e] at h; exact h
    | ct ρ' => rw [e] at h; exact h
    | rt d => rw [e] at h; exact h
    | rl d => rw [e] at h; exact h
    | bad => rw [e] at h; exact h⟩
/-- a def as it stands behind the top -/
structure DefIn (K : PySem.W.Frag) (mg : Str → Option Value) (x : Str) (st : Stmt) (ps : List Str) : Prop where
  ex : ∃ g fd, Fun K x x st g fd ∧ mg x = some (.ref g) ∧ Binds K fd ps []
theorem def_in {K : PySem.W.Frag} {h : Heap} {mg : Str → Option Value} {x : Str} {st : Stmt} {ps : List Str} (X : K.In h) (G : h.Ns mainGlobals mg) {g : Addr} {oc : Value} {od an : Option Addr} {osl : Array (Option Value)} {kV doc pm cdv ct : Value}
    (a : PySem.W.nsIn K mainGlobals x = some (some (.ref g))) (l : K.lookup g = some ⟨oc, od, .func (PySem.W.fnOf x x (defArgs st) (defBody st) (defScope st) .none kV doc pm an cdv ct), osl⟩) (c : PySem.W.codeIn K cdv x = true) (k : PySem.W.keepIn K (.ref g) = true)
    (hb : ∀ (kV doc pm : Value) (an : Option Addr) (cdv ct : Value) (us : List Value), us.length = ps.length → bindArgs (PySem.W.fnOf x x (defArgs st) (defBody st) (defScope st) .none kV doc pm an cdv ct) ⟨us, []⟩ = pure (ps.zip us)) : DefIn K mg x st ps :=
  ⟨_, _, fun_mk l c k, PySem.W.mg_of X G a, (fun_mk l c k).binds hb⟩
variable {P : Program} {w : World} {K : PySem.W.Frag} {mg : Str → Option Value} {base : Heap}
theorem def_at {x : Str} {st : Stmt} {ps N : List Str} {kk : Nat} {mb : SM} (Dn : DefIn K mg x st ps) (S : FnScope N ps (defScope st))
    (hb : ∀ (g : Addr) (X : Cx) (E : XK) (B : Bs) (cdv : Value) (A : Around) (outer : List PySem.Env) (s : Shared) (H : Hp), X = cxOf (L2.CX P w) P w K mg base N x (defScope st) g cdv A outer s H E → Room kk X.A → Cxt X (WD E) → SSs X B (WD E) (defBody st) mb) : DefAt P w K mg base x (kk + 1) ps (runD N.length mb) := by
  obtain ⟨g, fd, F, hm, b⟩ := Dn.ex
  exact ⟨g, fd, hm, F.kp, b, fn_ok F S (hb g)⟩
/-- the law's promise -/
def spLaw (K : PySem.W.Frag) : Sp := fun vs H Q _ => ∃ (a : Addr) (ns : List Int), vs = [.ref a] ∧ SqL K H a (ns.map V.int) ∧ ns.length ≤ 63 ∧ ∀ H', Q (.bl true) H'
theorem law_ok {f : List D → RF} {g : Addr} {fd : FuncData} {kk : Nat} {ps : List Str} (F : FnOk P w K mg base (L2.CX P w) kk g fd ps (spM K mg 1 f)) (h : ∀ ns : List Int, ns.length ≤ 63 → f [.list (ns.map PyData.int)] = .ok (.bool true)) : FnOk P w K mg base (L2.CX P w) kk g fd ps (spLaw K) :=
  F.imp fun vs H Q E ⟨a, ns, e, hs, hl, q⟩ => by
    subst e
    refine ⟨H, [.list (ns.map PyData.int)], Same.refl H, .cons (.lst hs (RpA.ints ns)) .nil, rfl, ?_⟩
    rw [h ns hl]
    intro v G' H' g r
    cases r
    exact q H'
theorem law_walk {l : PySem.W.OpenLaw} {q : Program} {loose : List Str} {XP : (Str → Option Value) → Heap → Prop} {YP : World → Heap → Prop} {d : DefRec} {K : Params → PySem.W.Frag} {kk : Nat} (hn : l.most = some 63) (hdf : d.params.defaults = []) (hr : Room kk callerA)
    (hY : ∀ (w : World) (h : Heap), YP w h → (K w.params).In h)
    (F : ∀ (w : World) (mg : Str → Option Value) (fa : Addr) (h : Heap), (K w.params).In h → h.Ns mainGlobals mg → mg d.name = some (.ref fa) →
      ∃ fd : FuncData, (∀ (s : Shared) (u : Value), BindsTo s fd ⟨[u], []⟩ [("_law_script", u)]) ∧ ∀ base : Heap, (K w.params).In base → base.Ns mainGlobals mg → FnOk l.prog w (K w.params) mg base (L2.CX l.prog w) kk fa fd ["_law_script"] (spLaw (K w.params))) :
    PySem.W.WalkO q loose XP YP l.row.toRowW d [] (fun f vs => PySem.call f vs) :=
  L2.walk_of (n := 63) (k := kk) (x := "_law_script") (CX := fun w => L2.CX l.prog w) (sp := fun w => spLaw (K w.params)) hn (by decide) hdf hr hY F (fun _ _ a ns hl _ hS => ⟨a, ns, rfl, hS, hl, fun _ => rfl⟩) fun _ _ _ _ _ z => by
    obtain ⟨_, _, _, _, _, _, _, _, _, _, _, _, z⟩ := z
    exact z
/-- the law's def, as walk_of wants it -/
theorem law_def {f : List D → RF} {st : Stmt} {kk : Nat} {fa : Addr} (X : ∃ h : Heap, K.In h ∧ h.Ns mainGlobals mg) (hfa : mg "law" = some (.ref fa)) {oc : Value} {od an : Option Addr} {osl : Array (Option Value)} {kV doc pm cdv ct : Value} {g : Addr}
    (a : PySem.W.nsIn K mainGlobals "law" = some (some (.ref g))) (l : K.lookup g = some ⟨oc, od, .func (PySem.W.fnOf "law" "law" (defArgs st) (defBody st) (defScope st) .none kV doc pm an cdv ct), osl⟩) (c : PySem.W.codeIn K cdv "law" = true) (k : PySem.W.keepIn K (.ref g) = true)
    {N : List Str} {mb : SM} (S : FnScope N ["_law_script"] (defScope st)) (hbd : ∀ (s : Shared) (v : Value), BindsTo s (PySem.W.fnOf "law" "law" (defArgs st) (defBody st) (defScope st) .none kV doc pm an cdv ct) ⟨[v], []⟩ [("_law_script", v)])
    (hb : ∀ base : Heap, K.In base → base.Ns mainGlobals mg → ∀ (X : Cx) (E : XK) (B : Bs) (cdv : Value) (A : Around) (outer : List PySem.Env) (s : Shared) (H : Hp), X = cxOf (L2.CX P w) P w K mg base N "law" (defScope st) g cdv A outer s H E → Room kk X.A → Cxt X (WD E) → SSs X B (WD E) (defBody st) mb)
    (h : ∀ ns : List Int, ns.length ≤ 63 → runD N.length mb [.list (ns.map PyData.int)] = .ok (.bool true)) :
    ∃ fd : FuncData, (∀ (s : Shared) (u : Value), BindsTo s fd ⟨[u], []⟩ [("_law_script", u)]) ∧ ∀ base : Heap, K.In base → base.Ns mainGlobals mg → FnOk P w K mg base (L2.CX P w) (kk + 1) fa fd ["_law_script"] (spLaw K) := by
  obtain ⟨h0, KX, G⟩ := X
  have e := hfa.symm.trans (PySem.W.mg_of KX G a)
  cases e
  exact ⟨_, hbd, fun base h1 h2 => law_ok (fn_ok (fun_mk l c k) S (hb base h1 h2)) h⟩
end Q

set_option maxHeartbeats 1000000
/-! # Qk: an empty dict, == with it -/
namespace Q
open PySem L2
section
variable {prog : Program} {w : World} {A : Around} {E : Value → Shared → Prop} {s : Shared}
theorem samePairs0 {nm : String} {a b : Addr} {oa ob : Obj} {es : Array DictEntry} {ep ep' : Nat} {Q : Bool → Shared → Prop} (ha : (a == sysModules) = false) (hb : (b == sysModules) = false)
    (hoa : s.heap.get? a = some oa) (hda : oa.data = .dict es ep) (hob : s.heap.get? b = some ob) (hdb : ob.data = .dict #[] ep') (h : Q (es.size == 0) s) :
    wpAny (model prog w) A (Builtin.Dict.samePairs nm a b) Q E s := by
  unfold Builtin.Dict.samePairs Builtin.Dict.showsAll
  rw [if_neg (show ¬ (a == sysModules) = true by rw [ha]; exact Bool.false_ne_true), if_neg (show ¬ (b == sysModules) = true by rw [hb]; exact Bool.false_ne_true)]
  refine wpAny_bind (wpAny_pure (wpAny_bind (wpAny_pure ?_)))
  refine wpAny_bind (wpAny_dictEntries hoa hda ?_)
  dsimp only
  refine wpAny_bind (wpAny_dictEntries hob hdb ?_)
  by_cases hsz : es.size = 0
  case neg =>
    rw [if_pos (by simpa using hsz)]
    have hbf : (es.size == 0) = false := by simpa using hsz
    rw [hbf] at h
    exact wpAny_bind (wpAny_rule (wpAny_pure h))
  case pos =>
    rw [if_neg (by rw [hsz]; simp)]
    refine wpAny_bind (wpAny_dictEpoch hoa hda ?_)
    refine wpAny_bind ?_
    rw [Std.Legacy.Range.forIn_eq_forIn_range']
    simp only [Std.Legacy.Range.size, Nat.sub_zero, Nat.add_sub_cancel, Nat.div_one, hsz]
    rw [hsz] at h
    exact wpAny_pure (wpAny_pure h)
theorem rc_dict0 {a b : Addr} {oa ob : Obj} {es : Array DictEntry} {ep ep' : Nat} (ha : (a == sysModules) = false) (hb : (b == sysModules) = false)
    (ta : s.TypeIs (.ref a) "dict") (tb : s.TypeIs (.ref b) "dict")
    (hoa : s.heap.get? a = some oa) (hda : oa.data = .dict es ep) (hob : s.heap.get? b = some ob) (hdb : ob.data = .dict #[] ep') (hu : A.units < cLine) (E Q : Value → Shared → Prop) (h : Q (.bool (es.size == 0)) s) :
    wpAny (model prog w) A (richCompare .Eq (.ref a) (.ref b)) Q E s := by
  refine wpAny_richCompare_same_room (op := .Eq) ta tb PySem.F.slot_dict_eq (wpAny_call_entry PySem.F.slot_dict_eq ta PySem.F.entry_dict_eq ?_ (PySem.F.args_dict_eq_2 _ _)) hu
  show wpAny _ _ (Builtin.Dict.dictSlotArgs "__eq__" ⟨[.ref a, .ref b], []⟩ >>= _) _ _ s
  refine wpAny_bind ?_
  unfold Builtin.Dict.dictSlotArgs
  refine wpAny_bind (wpAny_notOrdered_dict ta ?_)
  show wpAny _ _ (pure (Value.ref a, Value.ref b)) _ _ s
  refine wpAny_pure ?_
  refine wpAny_bind (wpAny_isInstance (T := "dict") tb PySem.F.sub_dict_dict ?_)
  simp only [Bool.not_true, Bool.false_eq_true, if_false]
  refine wpAny_bind (wpAny_pure (wpAny_bind (wpAny_pure ?_)))
  refine wpAny_bind (samePairs0 ha hb hoa hda hob hdb ?_)
  refine wpAny_pure ⟨_, rfl, ?_, ?_⟩
  · exact fun x => nomatch x
  · simpa using h
end
section
variable {X : Cx} {B : Bs} {W : WX} {a b c e : Expr} {ma mb mc : Env → R D} {pos : Pos}
def rEq0 : R2 := fun x y H Q => ∃ a b kvs, x = .ref a ∧ y = .ref b ∧ H a = some (.dT kvs) ∧ H b = some (.dT []) ∧ Q (.bl kvs.isEmpty) H
theorem op_eq0 (hu : X.A.units < cLine) : OpR X (compareOp .Eq) rEq0 := by
  intro pins s σ H x y v u Q I rx ry h
  obtain ⟨a, b, kvs, rfl, rfl, ha, hb, q⟩ := h
  cases (show v = Value.ref a from rx)
  cases (show u = Value.ref b from ry)
  obtain ⟨_, ya, xa, ra, da⟩ := dt_of I.hok ha
  obtain ⟨_, yb, xb, rb, db⟩ := dt_of I.hok hb
  have ta := da.typeIs
  have tb := db.typeIs
  obtain ⟨oa, es, ep, a1, a2, a3, a4, _⟩ := da
  obtain ⟨ob, es', ep', b1, b2, b3, b4, _⟩ := db
  cases rb
  have e' : es' = #[] := by simpa using b4
  subst e'
  have ez : (es.size == 0) = kvs.isEmpty := by
    rw [← Array.length_toList, a4, List.length_map, ← ra.length]
    cases kvs <;> rfl
  refine rc_dict0 ya yb ta tb a1 a3 b1 b3 hu _ _ ?_
  rw [ez]
  exact ⟨.bl _, H, I, rfl, q⟩
def dEq0 : D → D → Option Bool
  | .dict es, .dict [] => some es.isEmpty
  | _, _ => none
theorem rpD_isEmpty {K : PySem.W.Frag} {G : Hp} : ∀ {kvs : List (List Key × V)} {es : List (D × D)}, RpD K G kvs es → kvs.isEmpty = es.isEmpty
  | _, _, .nil => rfl
  | _, _, .cons _ _ => rfl
theorem ok_eq0 {K : PySem.W.Frag} : OkB K rEq0 dEq0 fun b => b := by
  intro G H x y d e b Q g rx ry hz hq
  unfold dEq0 at hz
  split at hz
  · cases hz
    cases rx with
    | dict h1 r1 => cases ry with
      | dict h2 r2 => cases r2; exact ⟨_, _, _, rfl, rfl, g _ _ h1, g _ _ h2, by rw [rpD_isEmpty r1]; exact hq⟩
  · cases hz
def eq0 := e2 (bo dEq0)
theorem se_d0 : SE X B W (.Dict [] [] pos) (k (.dict [])) := ⟨pe_dnewT.imp fun σ H Q ⟨ρ, G, s, h⟩ p hp => by
  exact h (upd G p (.dT [])) (upd H p (.dT [])) (Gr.new s.same hp) _ (.dict upd_same .nil)⟩
theorem se_eq0 {k : Nat} (hr : Room k X.A) (ha : SE X B W a ma) (hb : SE X B W b mb) : SE X B W (.Compare a [.Eq] [b] pos) (eq0 ma mb) := se_cmpG (op_eq0 (by have := u64 hr; omega)) ok_eq0.op (nomark _) ha hb
theorem st_eq0 {k : Nat} (hr : Room k X.A) (ha : SE X B W a ma) (hb : SE X B W b mb) : ST X B W (.Compare a [.Eq] [b] pos) (tst (eq0 ma mb)) := st_cmpG (op_eq0 (by have := u64 hr; omega)) ok_eq0.op (nomark _) ha hb
end
end Q

set_option maxHeartbeats 1000000
/-! # Ql: the mirrors reckoned -/
namespace Q
open PySem L2
def outF : Out → RF
  | .rt d => .ok d
  | .rl ds => .ol ds
  | .nx _ => .ok .none
  | .exc c a _ => .exc c a
  | _ => .bad
theorem runD_eq (n : Nat) (m : SM) (ds : List D) : runD n m ds = outF (m (ds.map Slot.dat ++ List.replicate (n - ds.length) .no)) := by
  unfold runD outF
  cases m (ds.map Slot.dat ++ List.replicate (n - ds.length) .no) <;> rfl
section
variable {ρ : Env} {m n : SM} {ma mb mc : Env → R D} {mt mu : Env → R Bool} {mas : Env → R (List D)} {i j : Nat} {d e : D}
@[simp] theorem outF_rt : outF (.rt d) = .ok d := rfl
@[simp] theorem outF_rl (ds) : outF (.rl ds) = .ol ds := rfl
@[simp] theorem outF_nx : outF (.nx ρ) = .ok .none := rfl
@[simp] theorem outF_exc (c a) : outF (.exc c a ρ) = .exc c a := rfl
@[simp] theorem outF_ite (c : Prop) [Decidable c] (a b : Out) : outF (if c then a else b) = if c then outF a else outF b := by split <;> rfl
@[simp] theorem ev_v0 (s : Slot) : v 0 (.dat d :: ρ) = .ok d := rfl
@[simp] theorem ev_v0' : v 0 (.dat d :: ρ) = .ok d := rfl
@[simp] theorem ev_vs (s : Slot) : v (i + 1) (s :: ρ) = v i ρ := by simp [v]
@[simp] theorem ev_k : k d ρ = .ok d := rfl
@[simp] theorem go_ok {α : Type} (x : α) (f : α → Out) : (R.ok x).go ρ f = f x := rfl
@[simp] theorem go_exc {α : Type} (c x) (f : α → Out) : (R.exc c x : R α).go ρ f = .exc c x ρ := rfl
@[simp] theorem go_ite {α : Type} (c : Prop) [Decidable c] (a b : R α) (f : α → Out) : (if c then a else b).go ρ f = if c then a.go ρ f else b.go ρ f := by split <;> rfl
@[simp] theorem bind_ite {α β : Type} (c : Prop) [Decidable c] (a b : R α) (f : α → R β) : (if c then a else b).bind f = if c then a.bind f else b.bind f := by split <;> rfl
@[simp] theorem bind_ok' {α β : Type} (x : α) (f : α → R β) : (R.ok x).bind f = f x := rfl
@[simp] theorem bind_exc' {α β : Type} (c x) (f : α → R β) : (R.exc c x : R α).bind f = .exc c x := rfl
@[simp] theorem of_some {α : Type} (x : α) : R.of (some x) = .ok x := rfl
@[simp] theorem of_ite {α : Type} (c : Prop) [Decidable c] (a b : Option α) : R.of (if c then a else b) = if c then R.of a else R.of b := by split <;> rfl
def thn : Out → SM → Out
  | .nx ρ, n => n ρ
  | o, _ => o
@[simp] theorem thn_nx : thn (.nx ρ) n = n ρ := rfl
@[simp] theorem thn_rt : thn (.rt d) n = .rt d := rfl
@[simp] theorem thn_rl (ds) : thn (.rl ds) n = .rl ds := rfl
@[simp] theorem thn_exc (c a) : thn (.exc c a ρ) n = .exc c a ρ := rfl
@[simp] theorem thn_bk : thn (.bk ρ) n = .bk ρ := rfl
@[simp] theorem thn_ct : thn (.ct ρ) n = .ct ρ := rfl
@[simp] theorem thn_ite (c : Prop) [Decidable c] (a b : Out) : thn (if c then a else b) n = if c then thn a n else thn b n := by split <;> rfl
@[simp] theorem ev_seq : seq m n ρ = thn (m ρ) n := by unfold seq thn; cases m ρ <;> rfl
@[simp] theorem ev_pass : pass ρ = .nx ρ := rfl
@[simp] theorem ev_brk : brk ρ = .bk ρ := rfl
@[simp] theorem ev_cnt : cnt ρ = .ct ρ := rfl
@[simp] theorem ev_ret : ret ma ρ = (ma ρ).go ρ fun d => .rt d := rfl
@[simp] theorem ev_retO : retO mas ρ = (mas ρ).go ρ fun d => .rl d := rfl
@[simp] theorem ev_drop : drop ma ρ = (ma ρ).go ρ fun _ => .nx ρ := rfl
@[simp] theorem ev_ite : ite mt m n ρ = (mt ρ).go ρ fun b => if b = true then m ρ else n ρ := rfl
@[simp] theorem ev_setB : setB i ma ρ = (ma ρ).go ρ fun d => .nx (ρ.set i (.dat d)) := rfl
@[simp] theorem ev_setO : setO i mas ρ = (mas ρ).go ρ fun d => .nx (ρ.set i (.ol d)) := rfl
@[simp] theorem ev_setD : setD i ρ = .nx (ρ.set i (.od [])) := rfl
@[simp] theorem ev_fz : fz i m ρ = m (frz i ρ) := rfl
@[simp] theorem frz0_d : frz 0 (.dat d :: ρ) = .dat d :: ρ := rfl
@[simp] theorem frz0_l (ds) : frz 0 (.ol ds :: ρ) = .dat (.list ds) :: ρ := rfl
@[simp] theorem frz0_D (ds) : frz 0 (.od ds :: ρ) = .dat (.dict ds) :: ρ := rfl
@[simp] theorem frz_s (s : Slot) : frz (i + 1) (s :: ρ) = s :: frz i ρ := by
  unfold frz
  simp only [List.getElem?_cons_succ]
  cases ρ[i]? with
  | none => rfl
  | some sl => cases sl <;> rfl
@[simp] theorem ev_e2 (f) : e2 f ma mb ρ = (ma ρ).bind fun x => (mb ρ).bind fun y => R.of (f x y) := rfl
@[simp] theorem ev_add : add ma mb ρ = (ma ρ).bind fun x => (mb ρ).bind fun y => R.of (dAdd x y) := rfl
@[simp] theorem ev_sub : sub ma mb ρ = (ma ρ).bind fun x => (mb ρ).bind fun y => R.of (ii (fun i j => i - j) x y) := rfl
@[simp] theorem ev_mul : mul ma mb ρ = (ma ρ).bind fun x => (mb ρ).bind fun y => R.of (dMul x y) := rfl
@[simp] theorem ev_div : div ma mb ρ = (ma ρ).bind fun x => (mb ρ).bind fun y => R.of (dDiv x y) := rfl
@[simp] theorem ev_mod : mod ma mb ρ = (ma ρ).bind fun x => (mb ρ).bind fun y => R.of (dMod x y) := rfl
@[simp] theorem ev_pow : pow ma mb ρ = (ma ρ).bind fun x => (mb ρ).bind fun y => R.of (dPow x y) := rfl
@[simp] theorem ev_neg : neg ma ρ = (ma ρ).bind fun x => R.of (dNeg x) := rfl
@[simp] theorem ev_lt : lt ma mb ρ = (ma ρ).bind fun x => (mb ρ).bind fun y => R.of (ib (fun i j => decide (i < j)) x y) := rfl
@[simp] theorem ev_le : le ma mb ρ = (ma ρ).bind fun x => (mb ρ).bind fun y => R.of (ib (fun i j => decide (i ≤ j)) x y) := rfl
@[simp] theorem ev_gt : gt ma mb ρ = (ma ρ).bind fun x => (mb ρ).bind fun y => R.of (ib (fun i j => decide (j < i)) x y) := rfl
@[simp] theorem ev_ge : ge ma mb ρ = (ma ρ).bind fun x => (mb ρ).bind fun y => R.of (ib (fun i j => decide (j ≤ i)) x y) := rfl
@[simp] theorem ev_eq : eq ma mb ρ = (ma ρ).bind fun x => (mb ρ).bind fun y => R.of ((dEq x y).map .bool) := rfl
@[simp] theorem ev_ne : ne ma mb ρ = (ma ρ).bind fun x => (mb ρ).bind fun y => R.of ((dEq x y).map fun b => .bool (!b)) := rfl
@[simp] theorem ev_eq0 : eq0 ma mb ρ = (ma ρ).bind fun x => (mb ρ).bind fun y => R.of ((dEq0 x y).map .bool) := rfl
@[simp] theorem ev_isin : isin ma mb ρ = (ma ρ).bind fun x => (mb ρ).bind fun y => R.of ((dIn x y).map .bool) := rfl
@[simp] theorem ev_notin : notin ma mb ρ = (ma ρ).bind fun x => (mb ρ).bind fun y => R.of ((dIn x y).map fun b => .bool (!b)) := rfl
@[simp] theorem ev_isn : isn ma mb ρ = (ma ρ).bind fun x => (mb ρ).bind fun y => R.of ((dIsN x y).map .bool) := rfl
@[simp] theorem ev_notn : notn ma mb ρ = (ma ρ).bind fun x => (mb ρ).bind fun y => R.of ((dIsN x y).map fun b => .bool (!b)) := rfl
@[simp] theorem ev_ix : ix ma mb ρ = (ma ρ).bind fun x => (mb ρ).bind fun y => R.of (dIx x y) := rfl
@[simp] theorem ev_isi (T) : isi T ma ρ = (ma ρ).bind fun x => R.of ((kitB (tyN x) T).map .bool) := rfl
@[simp] theorem ev_bc (f) : bc f mas ρ = (mas ρ).bind fun ds => R.of (f ds) := rfl
@[simp] theorem ev_bcO (f) : bcO f mas ρ = (mas ρ).bind fun ds => R.of (f ds) := rfl
@[simp] theorem ev_anil : anil ρ = .ok [] := rfl
@[simp] theorem ev_acons : acons ma mas ρ = (ma ρ).bind fun d => (mas ρ).bind fun ds => .ok (d :: ds) := rfl
@[simp] theorem ev_argsN (n) : argsN n mas ρ = (mas ρ).bind fun ds => if ds.length = n then .ok ds else .bad := rfl
@[simp] theorem ev_call (f) : call f mas ρ = (mas ρ).bind fun ds => R.ofF (f ds) := rfl
@[simp] theorem ev_callO (f) : callO f mas ρ = (mas ρ).bind fun ds => R.ofFO (f ds) := rfl
@[simp] theorem ofF_exc (c a) : R.ofF (.exc c a) = .exc c a := rfl
@[simp] theorem ofFO_exc (c a) : R.ofFO (.exc c a) = .exc c a := rfl
@[simp] theorem ofF_ite (c : Prop) [Decidable c] (a b : RF) : R.ofF (if c then a else b) = if c then R.ofF a else R.ofF b := by split <;> rfl
@[simp] theorem ev_etup : etup mas ρ = (mas ρ).bind fun ds => if ds.length ≤ most then .ok (.tuple ds) else .bad := rfl
@[simp] theorem ev_elst : elst mas ρ = (mas ρ).bind fun ds => .ok (.list ds) := rfl
@[simp] theorem ev_olst : olst mas ρ = (mas ρ).bind fun ds => if ds.length ≤ most then .ok ds else .bad := rfl
@[simp] theorem ev_tst : tst ma ρ = (ma ρ).bind fun d => R.of (asB d) := rfl
@[simp] theorem asB_bool (b) : asB (.bool b) = some b := rfl
@[simp] theorem ev_tand : tand mt mu ρ = (mt ρ).bind fun b => if b = true then mu ρ else .ok false := rfl
@[simp] theorem ev_tor : tor mt mu ρ = (mt ρ).bind fun b => if b = true then .ok true else mu ρ := rfl
@[simp] theorem ev_tnot : tnot mt ρ = (mt ρ).bind fun b => .ok (!b) := rfl
@[simp] theorem ev_eand : eand ma mb ρ = (tst ma ρ).bind fun b => if b = true then mb ρ else .ok (.bool false) := rfl
@[simp] theorem ev_eor : eor ma mb ρ = (tst ma ρ).bind fun b => if b = true then .ok (.bool true) else mb ρ := rfl
@[simp] theorem ev_enot : enot ma ρ = (tst ma ρ).bind fun b => .ok (.bool (!b)) := rfl
@[simp] theorem ev_eif : eif mt ma mb ρ = (mt ρ).bind fun c => if c = true then ma ρ else mb ρ := rfl
@[simp] theorem ev_slc (ml mh) : slc ma ml mh ρ = (ma ρ).bind fun d => (ml ρ).bind fun lo => (mh ρ).bind fun hi => match d with
  | .list ds => .ok (.list (cutD ds lo hi))
  | .str z => if z.length ≤ most then .ok (.str (cutS z lo hi)) else .bad
  | _ => .bad := rfl
@[simp] theorem ev_slcO (ml mh) : slcO ma ml mh ρ = (ma ρ).bind fun d => (ml ρ).bind fun lo => (mh ρ).bind fun hi => match d with
  | .list ds => .ok (cutD ds lo hi)
  | _ => .bad := rfl
@[simp] theorem ev_pn : pn ρ = .ok none := rfl
@[simp] theorem ev_ps : ps ma ρ = (ma ρ).bind fun d => R.of ((asI d).map some) := rfl
@[simp] theorem asI_int (i) : asI (.int i) = some i := rfl
@[simp] theorem ev_cat : cat ma mb ρ = (ma ρ).bind fun x => (mb ρ).bind fun y => match x, y with
  | .list xs, .list ys => if xs.length + ys.length ≤ most then .ok (xs ++ ys) else .bad
  | _, _ => .bad := rfl
@[simp] theorem ev_iv (f) : iv f ma ρ = (ma ρ).bind fun d => R.of (f d) := rfl
@[simp] theorem ev_ivA (f) : ivA f mas ρ = (mas ρ).bind fun d => R.of (f d) := rfl
@[simp] theorem ev_each (b) : each mas b m ρ = (mas ρ).go ρ fun ds => loop b m ds ρ := rfl
@[simp] theorem ev_wh (f) : wh f mt m ρ = whl mt m (f ρ) ρ := rfl
@[simp] theorem ev_lc (vs bd) : lc mas vs bd mt ma ρ = (mas ρ).bind fun ds => lcl bd mt ma ds (wipeE ρ vs) [] := rfl
@[simp] theorem wipe_nil : wipeE ρ [] = ρ := rfl
@[simp] theorem wipe_cons (x vs) : wipeE ρ (x :: vs) = (wipeE ρ vs).set x .no := rfl
@[simp] theorem ev_tyes : tyes ρ = .ok true := rfl
@[simp] theorem bN_ev : bN i d ρ = some (ρ.set i (.dat d)) := rfl
@[simp] theorem ev_strM (f) : strM f ma mb ρ = (ma ρ).bind fun x => match x with
  | .str a => (mb ρ).bind fun y => f a y
  | _ => .bad := rfl
@[simp] theorem ev_strMO (f) : strMO f ma mb ρ = (ma ρ).bind fun x => match x with
  | .str a => (mb ρ).bind fun y => f a y
  | _ => .bad := rfl
@[simp] theorem ev_calm : calmM m ρ = match m ρ with
  | .exc _ _ _ => .bad
  | o => o := by unfold calmM; cases m ρ <;> rfl
@[simp] theorem asL_l (ds) : asL (.list ds) = some ds := rfl
@[simp] theorem asT_t (ds) : asT (.tuple ds) = some ds := rfl

end
/-! ### values -/
@[simp] theorem ii_int (g) (i j : Int) : ii g (.int i) (.int j) = some (.int (g i j)) := rfl
@[simp] theorem ib_int (g) (i j : Int) : ib g (.int i) (.int j) = some (.bool (g i j)) := rfl
@[simp] theorem dAdd_int (i j : Int) : dAdd (.int i) (.int j) = some (.int (i + j)) := rfl
@[simp] theorem dNeg_int (i : Int) : dNeg (.int i) = some (.int (-i)) := rfl
@[simp] theorem dEq_int (i j : Int) : dEq (.int i) (.int j) = some (decide (i = j)) := by
  have h : ∀ i : Int, SeqAt.shaped (.int i) = true := fun i => by simp [SeqAt.shaped, PyData.canLay0, PyData.depth]
  have e : dEq (.int i) (.int j) = if SeqAt.shaped (.int i) = true ∧ SeqAt.shaped (.int j) = true then some (PyData.eqv (.int i) (.int j)) else none := rfl
  rw [e, if_pos ⟨h i, h j⟩]
  simp only [PyData.eqv]
  congr 1
@[simp] theorem dEq_str (x y : Str) : dEq (.str x) (.str y) = some (decide (x = y)) := rfl
theorem dMul_ok {i j : Int} (h : mulOk i j = true) : dMul (.int i) (.int j) = some (.int (i * j)) := by simp [dMul, h]
theorem dDiv_pos {i j : Int} (h : 0 < j) (h2 : j.natAbs.log2 < 9000) : dDiv (.int i) (.int j) = some (.int (i / j)) := by
  have h3 : divOk j = true := by unfold divOk; simp; omega
  simp only [dDiv, h3, if_true]
  rw [Int.fdiv_eq_ediv_of_nonneg _ (by omega)]
theorem dMod_pos {i j : Int} (h : 0 < j) : dMod (.int i) (.int j) = some (.int (i % j)) := by
  simp only [dMod]
  rw [if_pos (by omega), Int.fmod_eq_emod_of_nonneg _ (by omega)]
theorem dPow_ok {i j : Int} (h : powOk i j = true) : dPow (.int i) (.int j) = some (.int (i ^ j.toNat)) := by simp [dPow, h]
@[simp] theorem dLen_l (ds) : dLen [.list ds] = some (.int ds.length) := rfl
@[simp] theorem dLen_t (ds) : dLen [.tuple ds] = some (.int ds.length) := rfl
@[simp] theorem dLen_d (ds) : dLen [.dict ds] = some (.int ds.length) := rfl
@[simp] theorem dAbs_int (i : Int) : dAbs [.int i] = some (.int (i.natAbs : Nat)) := by
  show some (PyData.int (if i < 0 then -i else i)) = _
  congr 2
  split <;> omega
@[simp] theorem dIx_l (ds) (i : Int) : dIx (.list ds) (.int i) = atI ds i := rfl
@[simp] theorem dIx_t (ds) (i : Int) : dIx (.tuple ds) (.int i) = atI ds i := rfl
@[simp] theorem atI0 {α : Type} (a : α) (r : List α) : atI (a :: r) 0 = some a := by simp [atI, ixN]
@[simp] theorem atI1 {α : Type} (a b : α) (r : List α) : atI (a :: b :: r) 1 = some b := by
  have h : (1 : Int) < ((a :: b :: r).length : Nat) := by simp; omega
  simp only [atI, ixN, if_pos h]; rfl
@[simp] theorem atI2 {α : Type} (a b c : α) (r : List α) : atI (a :: b :: c :: r) 2 = some c := by
  have h : (2 : Int) < ((a :: b :: c :: r).length : Nat) := by simp; omega
  simp only [atI, ixN, if_pos h]; rfl
theorem atI_nat {α : Type} (ds : List α) (k : Nat) : atI ds (k : Int) = ds[k]? := by
  unfold atI ixN
  rw [if_pos (by omega)]
  by_cases h : k < ds.length
  · rw [if_pos (by omega)]; simp
  · rw [if_neg (by omega)]; simp; omega
theorem bT_two {ρ : Env} (b c : Bd) (x y : D) : bT 2 (bsC b (bsC c bsN)) (.tuple [x, y]) ρ = (b x ρ).bind (c y) := by
  show ((b x ρ).bind fun r => (c y r).bind fun r => some r) = _
  cases b x ρ with
  | none => rfl
  | some r => simp
theorem bT_three {ρ : Env} (b c f : Bd) (x y z : D) : bT 3 (bsC b (bsC c (bsC f bsN))) (.tuple [x, y, z]) ρ = (b x ρ).bind fun r => (c y r).bind (f z) := by
  show ((b x ρ).bind fun r => (c y r).bind fun r => (f z r).bind fun r => some r) = _
  cases b x ρ with
  | none => rfl
  | some r => simp
end Q
namespace Q
@[simp] theorem asS_s (z) : asS (.str z) = some (signs z) := rfl
end Q
namespace Q
@[simp] theorem dMul_l' {i j : Int} (h : i.natAbs < 2 ^ 63) : dMul (.int i) (.int j) = some (.int (i * j)) := dMul_ok (by unfold mulOk; rw [decide_eq_true h]; rfl)
@[simp] theorem dMul_r' {i j : Int} (h : j.natAbs < 2 ^ 63) : dMul (.int i) (.int j) = some (.int (i * j)) := dMul_ok (by unfold mulOk; rw [decide_eq_true h]; simp)
@[simp] theorem dMod_p' {i j : Int} (h : 0 < j) : dMod (.int i) (.int j) = some (.int (i % j)) := dMod_pos h
@[simp] theorem dDiv_p' {i j : Int} (h : 0 < j) (h2 : j.natAbs < 2 ^ 63) : dDiv (.int i) (.int j) = some (.int (i / j)) := dDiv_pos h (by
  by_cases h0 : j.natAbs = 0
  · omega
  · exact Nat.lt_of_lt_of_le ((Nat.log2_lt h0).mpr h2) (by decide))
@[simp] theorem dPow_p' {i j : Int} (h : 0 ≤ j) (h1 : j ≤ 1000) (h2 : i.natAbs < 2 ^ 63) : dPow (.int i) (.int j) = some (.int (i ^ j.toNat)) := dPow_ok (by unfold powOk; rw [decide_eq_true h, decide_eq_true h1, decide_eq_true h2]; rfl)
end Q

set_option maxHeartbeats 1000000
/-! # Qm: loops, sizes, greatest common divisors, keys, texts -/
namespace Q
open PySem L2
/-! ### loops -/
theorem loop_fold {α S : Type} (enc : α → D) (I : S → Env → Prop) (f : S → α → S) {b : Bd} {mb : SM} : ∀ (xs : List α) (s : S) (ρ : Env), I s ρ → (∀ s x ρ, x ∈ xs → I s ρ → ∃ ρ1 ρ2, b (enc x) ρ = some ρ1 ∧ mb ρ1 = .nx ρ2 ∧ I (f s x) ρ2) →
    ∃ ρ', loop b mb (xs.map enc) ρ = .nx ρ' ∧ I (xs.foldl f s) ρ'
  | [], s, ρ, hI, _ => ⟨ρ, rfl, hI⟩
  | x :: xs, s, ρ, hI, h => by
    obtain ⟨ρ1, ρ2, e1, e2, h2⟩ := h s x ρ (List.mem_cons_self ..) hI
    obtain ⟨ρ', e3, h3⟩ := loop_fold enc I f xs (f s x) ρ2 h2 fun s y ρ hy => h s y ρ (List.mem_cons_of_mem _ hy)
    exact ⟨ρ', by simp only [List.map_cons, loop, e1, e2, e3], h3⟩
theorem loop_inv {b : Bd} {mb : SM} (I : List D → Env → Prop) : ∀ (ds : List D) (ρ : Env), I ds ρ → (∀ d r ρ, I (d :: r) ρ → ∃ ρ1 ρ2, b d ρ = some ρ1 ∧ mb ρ1 = .nx ρ2 ∧ I r ρ2) → ∃ ρ', loop b mb ds ρ = .nx ρ' ∧ I [] ρ'
  | [], ρ, hI, _ => ⟨ρ, rfl, hI⟩
  | d :: ds, ρ, hI, h => by
    obtain ⟨ρ1, ρ2, e1, e2, h2⟩ := h d ds ρ hI
    obtain ⟨ρ', e3, h3⟩ := loop_inv I ds ρ2 h2 h
    exact ⟨ρ', by simp only [loop, e1, e2, e3], h3⟩
theorem lcl_map {α : Type} (enc g : α → D) {bd : Bd} {mt : Env → R Bool} {me : Env → R D} {ρ : Env} : ∀ (xs : List α) (acc : List D), (∀ x ∈ xs, ∃ ρ1, bd (enc x) ρ = some ρ1 ∧ mt ρ1 = .ok true ∧ me ρ1 = .ok (g x)) → acc.length + xs.length ≤ most →
    lcl bd mt me (xs.map enc) ρ acc = .ok (acc ++ xs.map g)
  | [], acc, _, _ => by simp [lcl]
  | x :: xs, acc, h, hl => by
    obtain ⟨ρ1, e1, e2, e3⟩ := h x (List.mem_cons_self ..)
    simp only [List.length_cons] at hl
    simp only [List.map_cons, lcl, e1, e2, e3]
    rw [if_pos (by omega), lcl_map enc g xs _ (fun y hy => h y (List.mem_cons_of_mem _ hy)) (by simp; omega)]
    simp
theorem lcl_filter {α : Type} (enc g : α → D) (p : α → Bool) {bd : Bd} {mt : Env → R Bool} {me : Env → R D} {ρ : Env} : ∀ (xs : List α) (acc : List D), (∀ x ∈ xs, ∃ ρ1, bd (enc x) ρ = some ρ1 ∧ mt ρ1 = .ok (p x) ∧ (p x = true → me ρ1 = .ok (g x))) → acc.length + xs.length ≤ most →
    lcl bd mt me (xs.map enc) ρ acc = .ok (acc ++ (xs.filter p).map g)
  | [], acc, _, _ => by simp [lcl]
  | x :: xs, acc, h, hl => by
    obtain ⟨ρ1, e1, e2, e3⟩ := h x (List.mem_cons_self ..)
    simp only [List.length_cons] at hl
    cases hp : p x with
    | true =>
      rw [hp] at e2
      simp only [List.map_cons, lcl, e1, e2, e3 hp]
      rw [if_pos (by omega), lcl_filter enc g p xs _ (fun y hy => h y (List.mem_cons_of_mem _ hy)) (by simp; omega)]
      simp [hp]
    | false =>
      rw [hp] at e2
      simp only [List.map_cons, lcl, e1, e2]
      rw [lcl_filter enc g p xs _ (fun y hy => h y (List.mem_cons_of_mem _ hy)) (by omega)]
      simp [hp]
/-! ### sizes -/
def Sz (n : Nat) (i : Int) : Prop := i.natAbs < 2 ^ n
theorem Sz.mono {n m : Nat} {i : Int} (h : Sz n i) (hm : n ≤ m) : Sz m i := Nat.lt_of_lt_of_le h (Nat.pow_le_pow_right (by decide) hm)
theorem Sz.neg {n : Nat} {i : Int} (h : Sz n i) : Sz n (-i) := by unfold Sz at *; rw [Int.natAbs_neg]; exact h
theorem Sz.add {n : Nat} {i j : Int} (h : Sz n i) (h2 : Sz n j) : Sz (n + 1) (i + j) := by
  unfold Sz at *; rw [Nat.pow_succ]; omega
theorem Sz.sub {n : Nat} {i j : Int} (h : Sz n i) (h2 : Sz n j) : Sz (n + 1) (i - j) := by
  unfold Sz at *; rw [Nat.pow_succ]; omega
theorem Sz.mul {n m : Nat} {i j : Int} (h : Sz n i) (h2 : Sz m j) : Sz (n + m) (i * j) := by
  unfold Sz at *
  rw [Int.natAbs_mul, Nat.pow_add]
  by_cases hj : j.natAbs = 0
  · rw [hj]; exact Nat.mul_pos (Nat.pow_pos (by decide)) (Nat.pow_pos (by decide))
  · exact Nat.mul_lt_mul'' h h2
theorem Sz.log {n : Nat} {i : Int} (h : Sz n i) : i.natAbs.log2 ≤ n := by
  by_cases h0 : i.natAbs = 0
  · rw [h0]; exact Nat.zero_le _
  · exact Nat.le_of_lt ((Nat.log2_lt h0).mpr h)
theorem Sz.le {n : Nat} {i j : Int} (h : Sz n j) (h2 : i.natAbs ≤ j.natAbs) : Sz n i := Nat.lt_of_le_of_lt h2 h
theorem Sz.lit {n : Nat} {i : Int} (h : decide (i.natAbs < 2 ^ n) = true) : Sz n i := of_decide_eq_true (p := i.natAbs < 2 ^ n) h
theorem Sz.of_abs {n k : Nat} {i : Int} (h : i.natAbs ≤ k) (h2 : decide (k < 2 ^ n) = true) : Sz n i := Nat.lt_of_le_of_lt h (of_decide_eq_true h2)
theorem Sz.mulOk {n m : Nat} {i j : Int} (h : Sz n i) (h2 : Sz m j) (h3 : decide (n + m < 1000000) = true) : mulOk i j = true := by
  have h4 := of_decide_eq_true h3
  have a := h.log
  have b := h2.log
  unfold Q.mulOk
  have : decide (i.natAbs.log2 + j.natAbs.log2 < 1000000) = true := decide_eq_true (by omega)
  rw [this]; simp
theorem mulOk_l {i j : Int} (h : decide (i.natAbs < 2 ^ 63) = true) : mulOk i j = true := by unfold mulOk; rw [h]; rfl
theorem mulOk_r {i j : Int} (h : decide (j.natAbs < 2 ^ 63) = true) : mulOk i j = true := by unfold mulOk; rw [h]; simp
theorem dMul_sz {n m : Nat} {i j : Int} (h : Sz n i) (h2 : Sz m j) (h3 : decide (n + m < 1000000) = true) : dMul (.int i) (.int j) = some (.int (i * j)) := dMul_ok (h.mulOk h2 h3)
theorem dDiv_sz {n : Nat} {i j : Int} (h0 : 0 < j) (h : Sz n j) (h3 : decide (n < 9000) = true) : dDiv (.int i) (.int j) = some (.int (i / j)) := by
  have h4 := of_decide_eq_true h3
  exact dDiv_pos h0 (Nat.lt_of_le_of_lt h.log h4)
theorem Sz.mod {n : Nat} {i j : Int} (h : Sz n j) (h0 : 0 < j) : Sz n (i % j) := by
  have h1 := Int.emod_nonneg i (Int.ne_of_gt h0)
  have h2 := Int.emod_lt_of_pos i h0
  exact h.le (by omega)
/-! ### greatest common divisors -/
abbrev gBody : SM := seq (setB 2 (mod (v 0) (v 1))) (seq (setB 0 (v 1)) (setB 1 (v 2)))
theorem gcd_whl {c : Env → R Bool} (hc : ∀ (a b : Nat) (s : Slot), c [.dat (.int a), .dat (.int b), s] = .ok (decide (b ≠ 0))) : ∀ (n b a : Nat) (s : Slot), b < n → ∃ s', whl c gBody n [.dat (.int a), .dat (.int b), s] = .nx [.dat (.int (Nat.gcd a b)), .dat (.int 0), s']
  | 0, b, a, s, h => absurd h (Nat.not_lt_zero _)
  | n + 1, b, a, s, h => by
    unfold whl
    rw [hc]
    by_cases hb : b = 0
    · subst hb; exact ⟨s, by simp⟩
    · have hb' : (0 : Int) < b := by omega
      have e : dMod (.int a) (.int b) = some (.int ((a % b : Nat) : Int)) := by rw [dMod_pos hb']; simp
      obtain ⟨s', e2⟩ := gcd_whl hc n (a % b) b (.dat (.int ((a % b : Nat) : Int))) (by have := Nat.mod_lt a (Nat.pos_of_ne_zero hb); omega)
      refine ⟨s', ?_⟩
      simp [gBody, hb, e]
      have e3 : Nat.gcd a b = Nat.gcd b (a % b) := by rw [Nat.gcd_comm a b, Nat.gcd_rec b a, Nat.gcd_comm]
      rw [e3]
      simpa using e2
/-! ### keys of two numbers -/
def kt (p : Int × Int) : D := .tuple [.int p.1, .int p.2]
def ky (p : Int × Int) : List Key := [.inl p.1, .inl p.2]
theorem ky_inj {p q : Int × Int} : ky p = ky q ↔ p = q := by
  constructor
  · intro h
    simp only [ky, List.cons.injEq, Sum.inl.injEq, and_true] at h
    exact Prod.ext h.1 h.2
  · intro h; rw [h]
@[simp] theorem keyOf_kt (a b : Int) : keyOf [.int a, .int b] = some (ky (a, b)) := rfl
def tlook {α : Type} : List ((Int × Int) × α) → (Int × Int) → Option α
  | [], _ => none
  | e :: r, k => if e.1 = k then some e.2 else tlook r k
def tput {α : Type} (T : List ((Int × Int) × α)) (k : Int × Int) (v : α) : List ((Int × Int) × α) :=
  if k ∈ T.map (·.1) then T.map (fun e => if e.1 = k then (e.1, v) else e) else T ++ [(k, v)]
def encT {α : Type} (enc : α → D) (T : List ((Int × Int) × α)) : List (D × D) := T.map fun e => (kt e.1, enc e.2)
section
variable {α : Type} {enc : α → D} {T : List ((Int × Int) × α)} {k : Int × Int} {x : α}
theorem dlook_enc (enc : α → D) : ∀ (T : List ((Int × Int) × α)) (k : Int × Int), dlook (encT enc T) (ky k) = (tlook T k).map enc
  | [], _ => rfl
  | e :: r, k => by
    have ih := dlook_enc enc r k
    have h0 : encT enc (e :: r) = (kt e.1, enc e.2) :: encT enc r := rfl
    simp only [h0, kt, dlook, tlook, keyOf_kt, Option.some.injEq, ky_inj]
    by_cases h : e.1 = k
    · simp [h]
    · have h2 : ¬ ((e.1.1, e.1.2) = k) := h
      simp only [h, h2, if_false]; exact ih
theorem tlook_none : ∀ {T : List ((Int × Int) × α)} {k : Int × Int}, tlook T k = none ↔ k ∉ T.map (·.1)
  | [], k => by simp [tlook]
  | e :: r, k => by
    have ih := tlook_none (k := k) (T := r)
    unfold tlook
    by_cases h : e.1 = k
    · simp [h]
    · have h2 : ¬ k = e.1 := fun z => h z.symm
      simp only [h, if_false, List.map_cons, List.mem_cons, h2, false_or]; exact ih
theorem tlook_mem : ∀ {T : List ((Int × Int) × α)}, tlook T k = some x → (k, x) ∈ T
  | [], h => by simp [tlook] at h
  | e :: r, h => by
    unfold tlook at h
    by_cases h2 : e.1 = k
    · simp only [h2, if_true, Option.some.injEq] at h
      subst h2 h; exact List.mem_cons_self ..
    · simp only [h2, if_false] at h; exact List.mem_cons_of_mem _ (tlook_mem h)
theorem tlook_of_mem : ∀ {T : List ((Int × Int) × α)}, (T.map (·.1)).Nodup → (k, x) ∈ T → tlook T k = some x
  | [], _, h => by simp at h
  | e :: r, hn, h => by
    rw [List.map_cons, List.nodup_cons] at hn
    unfold tlook
    rcases List.mem_cons.mp h with h | h
    · subst h; simp
    · have h2 : ¬ e.1 = k := fun z => hn.1 (by rw [z]; exact List.mem_map.mpr ⟨_, h, rfl⟩)
      simp only [h2, if_false]; exact tlook_of_mem hn.2 h
theorem isKey_kt (p : Int × Int) : isKey (ky k) (kt p) = decide (p = k) := by
  simp only [isKey, kt, keyOf_kt, Option.some.injEq, ky_inj]
theorem dput_enc (enc : α → D) (T : List ((Int × Int) × α)) (k : Int × Int) (x : α) : dput (encT enc T) (ky k) (enc x) = encT enc (tput T k x) := by
  have h1 : ((encT enc T).any fun e => isKey (ky k) e.1) = decide (k ∈ T.map (·.1)) := by
    simp only [encT, List.any_map, Function.comp_def, isKey_kt]
    rw [Bool.eq_iff_iff, List.any_eq_true, decide_eq_true_eq, List.mem_map]
    constructor
    · rintro ⟨e, he, h⟩; exact ⟨e, he, of_decide_eq_true h⟩
    · rintro ⟨e, he, h⟩; exact ⟨e, he, decide_eq_true h⟩
  unfold dput tput
  rw [h1]
  by_cases h : k ∈ T.map (·.1)
  · rw [if_pos (decide_eq_true h), if_pos h]
    simp only [encT, List.map_map, Function.comp_def, isKey_kt]
    refine List.map_congr_left fun e _ => ?_
    by_cases h2 : e.1 = k <;> simp [h2]
  · rw [if_neg (by simpa using h), if_neg h]
    simp [encT, kt, ky, kD]
theorem dIn_enc (enc : α → D) (T : List ((Int × Int) × α)) (a b : Int) : dIn (.tuple [.int a, .int b]) (.dict (encT enc T)) = some (decide ((a, b) ∈ T.map (·.1))) := by
  show ((keyOf [.int a, .int b]).map fun k => (dlook (encT enc T) k).isSome) = _
  rw [keyOf_kt, Option.map_some, dlook_enc, Option.isSome_map]
  congr 1
  cases h : tlook T (a, b) with
  | none => simpa using tlook_none.mp h
  | some x => simpa using ⟨x, tlook_mem h⟩
theorem dIx_enc (enc : α → D) (T : List ((Int × Int) × α)) (a b : Int) : dIx (.dict (encT enc T)) (.tuple [.int a, .int b]) = (tlook T (a, b)).map enc := by
  show (keyOf [.int a, .int b]).bind _ = _
  rw [keyOf_kt, Option.bind_some, dlook_enc]
theorem tput_keys : ∀ (T : List ((Int × Int) × α)) (k : Int × Int) (x : α), (tput T k x).map (·.1) = if k ∈ T.map (·.1) then T.map (·.1) else T.map (·.1) ++ [k] := by
  intro T k x
  unfold tput
  split
  · rw [List.map_map]
    refine List.map_congr_left fun e _ => ?_
    simp only [Function.comp]
    split <;> rfl
  · simp
theorem tput_nodup (h : (T.map (·.1)).Nodup) : ((tput T k x).map (·.1)).Nodup := by
  rw [tput_keys]
  split
  · exact h
  · rename_i hk
    rw [List.nodup_append]
    exact ⟨h, by simp, fun a ha b hb => by simp at hb; subst hb; exact fun z => hk (z ▸ ha)⟩
theorem tput_length : (tput T k x).length ≤ T.length + 1 := by
  unfold tput; split <;> simp
theorem tlook_put_self : ∀ {T : List ((Int × Int) × α)}, tlook (tput T k x) k = some x := by
  intro T
  unfold tput
  split
  · rename_i h
    induction T with
    | nil => simp at h
    | cons e r ih =>
      by_cases h2 : e.1 = k
      · simp [tlook, h2]
      · have h3 : k ∈ r.map (·.1) := by
          rcases List.mem_cons.mp h with h | h
          · exact absurd h.symm h2
          · exact h
        simp only [List.map_cons, tlook, h2, if_false]
        exact ih h3
  · rename_i h
    induction T with
    | nil => simp [tlook]
    | cons e r ih =>
      have h2 : ¬ e.1 = k := fun z => h (by rw [← z]; simp)
      simp only [List.cons_append, tlook, h2, if_false]
      exact ih fun z => h (List.mem_cons_of_mem _ z)
theorem tlook_map_ne {q : Int × Int} (hq : q ≠ k) : ∀ T : List ((Int × Int) × α), tlook (T.map fun e => if e.1 = k then (e.1, x) else e) q = tlook T q
  | [] => rfl
  | e :: r => by
    have ih := tlook_map_ne hq r
    have h6 : ¬ k = q := fun z => hq z.symm
    by_cases h : e.1 = k
    · simp only [List.map_cons, tlook, h, if_true, h6, if_false]; exact ih
    · simp only [List.map_cons, tlook, h, if_false, ih]
theorem tlook_app_ne {q : Int × Int} (hq : q ≠ k) : ∀ T : List ((Int × Int) × α), tlook (T ++ [(k, x)]) q = tlook T q
  | [] => by
    have h6 : ¬ k = q := fun z => hq z.symm
    simp [tlook, h6]
  | e :: r => by
    have ih := tlook_app_ne hq r
    simp only [List.cons_append, tlook, ih]
theorem tlook_put_ne {q : Int × Int} (hq : q ≠ k) {T : List ((Int × Int) × α)} : tlook (tput T k x) q = tlook T q := by
  unfold tput
  split
  · exact tlook_map_ne hq T
  · exact tlook_app_ne hq T
end
/-! ### sorted keys -/
def kle (p q : Int × Int) : Bool := decide (p.1 < q.1 ∨ (p.1 = q.1 ∧ p.2 ≤ q.2))
def ksort (l : List (Int × Int)) : List (Int × Int) := l.mergeSort kle
theorem sortD_kt (l : List (Int × Int)) : sortD (l.map kt) = (ksort l).map kt := by
  unfold sortD ksort
  refine (List.map_mergeSort fun a _ b _ => ?_).symm
  have := congrFun (congrFun (PySem.W.dataLe_ii (β := Int × Int) (fun p => p.1) (fun p => p.2)) a) b
  exact this.symm
theorem alike_kt (p q : Int × Int) : PySem.W.alike (kt p) (kt q) = true := by simp [kt, PySem.W.alike, PySem.W.alikeAll]
theorem dSort_ok {l : List (Int × Int)} : (alikeL (l.map kt) && sortL (l.map kt) && deepL (l.map kt)) = true := by
  rw [Bool.and_eq_true, Bool.and_eq_true]
  refine ⟨⟨?_, ?_⟩, ?_⟩
  · unfold alikeL
    simp [alike_kt]
  · unfold sortL
    rw [Bool.or_eq_true]
    left
    simp [kt]
  · unfold deepL
    simp [kt, PyData.canLay0, PyData.canLayAll0, PyData.depth, PyData.depthAll]
theorem encT_fst {α : Type} (enc : α → D) (T : List ((Int × Int) × α)) : (encT enc T).map (·.1) = (T.map (·.1)).map kt := by simp [encT]
theorem dSort_encT {α : Type} (enc : α → D) (T : List ((Int × Int) × α)) : dSort [.dict (encT enc T)] = some ((ksort (T.map (·.1))).map kt) := by
  show (if _ then _ else _) = _
  rw [encT_fst, if_pos dSort_ok, sortD_kt]
theorem dSort_keys (l : List (Int × Int)) : dSort [.list (l.map kt)] = some ((ksort l).map kt) := by
  show (if _ then _ else _) = _
  rw [if_pos dSort_ok, sortD_kt]
theorem kle_trans (a b c : Int × Int) : kle a b = true → kle b c = true → kle a c = true := by
  simp only [kle, decide_eq_true_eq]; omega
theorem kle_total (a b : Int × Int) : (kle a b || kle b a) = true := by
  simp only [kle, Bool.or_eq_true, decide_eq_true_eq]; omega
theorem kle_anti {a b : Int × Int} (h : kle a b = true) (h2 : kle b a = true) : a = b := by
  simp only [kle, decide_eq_true_eq] at h h2
  exact Prod.ext (by omega) (by omega)
theorem ksort_perm (l : List (Int × Int)) : (ksort l).Perm l := List.mergeSort_perm ..
theorem ksort_sorted (l : List (Int × Int)) : (ksort l).Pairwise fun a b => kle a b = true := List.pairwise_mergeSort kle_trans kle_total l
theorem ksort_eq {l m : List (Int × Int)} (h : l.Perm m) : ksort l = ksort m :=
  List.Perm.eq_of_pairwise (fun a b _ _ h1 h2 => kle_anti h1 h2) (ksort_sorted l) (ksort_sorted m) ((ksort_perm l).trans (h.trans (ksort_perm m).symm))
theorem ksort_of_sorted {l : List (Int × Int)} (h : l.Pairwise fun a b => kle a b = true) : ksort l = l :=
  List.Perm.eq_of_pairwise (fun a b _ _ h1 h2 => kle_anti h1 h2) (ksort_sorted l) h (ksort_perm l)
end Q

set_option maxHeartbeats 1000000
/-! # Qn: texts of numbers -/
namespace Q
open PySem L2 TL SX
/-- the signs of a number -/
def decL (t : Int) : List Nat := if t < 0 then 45 :: numL t.natAbs else numL t.natAbs
theorem str_int (t : Int) : (Str.ofString (toString t) : Str) = S (decL t) := by
  unfold decL
  split
  · rename_i h
    have e : ∃ n : Nat, t = -((n + 1 : Nat) : Int) := ⟨t.natAbs - 1, by omega⟩
    obtain ⟨n, rfl⟩ := e
    have e2 : toString (-((n + 1 : Nat) : Int)) = "-" ++ toString ((n + 1 : Nat) : Int) := by rfl
    rw [e2]
    refine TL.ext_tl ?_
    have e3 := TL.tl_num (n + 1)
    rw [TL.tl_ofString] at e3 ⊢
    rw [String.toList_append, List.map_append, e3]
    have e4 : (-((n + 1 : Nat) : Int)).natAbs = n + 1 := by omega
    rw [e4]
    rfl
  · rename_i h
    have e : ∃ n : Nat, t = (n : Int) := ⟨t.natAbs, by omega⟩
    obtain ⟨n, rfl⟩ := e
    exact num_S n
theorem dStr_ok {i : Int} (h : Sz 1900 i) : dStr [.int i] = some (.str (S (decL i))) := by
  show (if i.natAbs.log2 < 1920 then some (PyData.str (Str.ofString (toString i))) else none) = _
  rw [if_pos (Nat.lt_of_le_of_lt h.log (by decide)), str_int]
theorem dAdd_S {a b : List Nat} (h : a.length + b.length ≤ most) : dAdd (.str (S a)) (.str (S b)) = some (.str (S (a ++ b))) := by
  show (if (S a).length + (S b).length ≤ most then some (PyData.str (S a ++ S b)) else none) = _
  rw [S_len, S_len, if_pos h, S_cat]
theorem dLen_S {a : List Nat} (h : a.length ≤ most) : dLen [.str (S a)] = some (.int a.length) := by
  show (if (S a).length ≤ most then some (PyData.int ((S a).length : Nat)) else none) = _
  rw [S_len, if_pos h]
theorem numL_head : ∀ (n : Nat) (l : List Nat), numL n = 48 :: l → n = 0 ∧ l = [] := by
  intro n
  induction n using Nat.strongRecOn with
  | _ n ih =>
    intro l h
    by_cases hn : n < 10
    · rw [numL_lt hn] at h
      simp only [List.cons.injEq] at h
      exact ⟨by omega, h.2.symm⟩
    · rw [numL_step (by omega)] at h
      cases e : numL (n / 10) with
      | nil => exact absurd e (numL_ne _)
      | cons c r =>
        rw [e] at h
        simp only [List.cons_append, List.cons.injEq] at h
        obtain ⟨rfl, _⟩ := h
        have := ih (n / 10) (by omega) r e
        omega
theorem decL_len {t : Int} {k : Nat} (hk : 0 < k) (h : t.natAbs < 10 ^ k) : (decL t).length ≤ k + 1 := by
  have := numL_len hk h
  unfold decL; split <;> simp <;> omega
theorem decL_nat (n : Nat) : decL (n : Int) = numL n := by unfold decL; rw [if_neg (by omega)]; rfl
theorem decL_free {t : Int} {s : Nat} (h : s < 45 ∨ 57 < s ∨ s = 46 ∨ s = 47) : s ∉ decL t := by
  unfold decL
  split
  · rw [List.mem_cons]
    rintro (h2 | h2)
    · omega
    · exact numL_free (by omega) h2
  · exact numL_free (by omega)
/-- a fraction's signs -/
def numT (a : Int × Int) : List Nat := if a.2 = 1 then decL a.1 else decL a.1 ++ 47 :: decL a.2
theorem numT_free {a : Int × Int} {s : Nat} (h : s < 45 ∨ 57 < s) : s ∉ numT a := by
  unfold numT
  split
  · exact decL_free (by omega)
  · rw [List.mem_append, List.mem_cons]
    rintro (h2 | h2 | h2)
    · exact decL_free (by omega) h2
    · omega
    · exact decL_free (by omega) h2
theorem numT_len {a : Int × Int} {k : Nat} (hk : 0 < k) (h : a.1.natAbs < 10 ^ k) (h2 : a.2.natAbs < 10 ^ k) : (numT a).length ≤ 2 * k + 3 := by
  have h3 := decL_len hk h
  have h4 := decL_len hk h2
  unfold numT
  split <;> simp <;> omega
theorem dInt_num {n : Nat} (h : (numL n).length ≤ 640) : dInt [.str (S (numL n))] = some (.int n) := by
  show (if (S (numL n)).length ≤ 640 then (PySem.intText? (S (numL n))).map PyData.int else none) = _
  rw [S_len, if_pos h, ← num_S, int_num (by omega)]
  rfl
theorem fSplit_ok {a b : List Nat} {l : List (List Nat)} (hb : b ≠ []) (hk : b.all (· < 256) = true) (hl : a.length + 2 ≤ most) (h : spl b 0 [] a = l) : fSplit (S a) (.str (S b)) = .ok (l.map fun x => .str (S x)) := by
  show (if (S b).length ≠ 0 ∧ (S a).length + 2 ≤ most then R.ok ((Txt.split (S a) (S b)).map PyData.str) else .bad) = _
  rw [S_len, S_len, if_pos ⟨by simpa using hb, hl⟩, split_S hb hk, h, List.map_map]
  rfl
theorem strsOf_S : ∀ ys : List (List Nat), strsOf (ys.map fun x => .str (S x)) = some (ys.map S)
  | [] => rfl
  | y :: ys => by
    show (strsOf (ys.map fun x => .str (S x))).map _ = _
    rw [strsOf_S ys]; rfl
theorem fJoin_ok {a : List Nat} {ys : List (List Nat)} (h : (ys.map (·.length)).sum + ys.length * a.length ≤ most) : fJoin (S a) (.list (ys.map fun x => .str (S x))) = .ok (.str (S (joinL a ys))) := by
  unfold fJoin
  simp only
  rw [strsOf_S]
  have e : ((ys.map S).map (·.length)).sum + (ys.map S).length * (S a).length = (ys.map (·.length)).sum + ys.length * a.length := by
    rw [SX.lens, List.length_map (f := S), S_len]
  simp only
  rw [e, if_pos h, join_S]
theorem sum_le {α : Type} (f : α → Nat) (c : Nat) : ∀ l : List α, (∀ x ∈ l, f x ≤ c) → (l.map f).sum ≤ l.length * c
  | [], _ => by simp
  | x :: l, h => by
    have ih := sum_le f c l fun y hy => h y (List.mem_cons_of_mem _ hy)
    have := h x (List.mem_cons_self ..)
    simp only [List.map_cons, List.sum_cons, List.length_cons, Nat.add_mul]
    omega
theorem joinL_len {a : List Nat} {c : Nat} : ∀ {ys : List (List Nat)}, (∀ y ∈ ys, y.length ≤ c) → (joinL a ys).length ≤ ys.length * (c + a.length)
  | [], _ => by simp [joinL]
  | [y], h => by have := h y (by simp); simp [joinL]; omega
  | y :: z :: r, h => by
    have ih := joinL_len (a := a) (c := c) (ys := z :: r) fun x hx => h x (List.mem_cons_of_mem _ hx)
    have h1 := h y (by simp)
    have e : joinL a (y :: z :: r) = y ++ a ++ joinL a (z :: r) := by simp [joinL]
    rw [e]
    have e2 : (y :: z :: r).length * (c + a.length) = (z :: r).length * (c + a.length) + (c + a.length) := by
      rw [List.length_cons, Nat.add_mul, Nat.one_mul]
    rw [e2]
    simp only [List.length_append] at ih ⊢
    omega
theorem dIn_sign (c : Nat) (l : List Nat) : dIn (.str ⟨#[c]⟩) (.str (S l)) = some (decide (c ∈ l)) := by
  show (if (⟨#[c]⟩ : Str).length = 1 then some (decide (c ∈ l)) else none) = _
  exact if_pos (by rfl)
end Q

set_option maxHeartbeats 1000000
/-! # Qo: ranges, comparisons of data -/
namespace Q
open PySem L2
theorem asR2_ok {i j : Int} (h : -1000000 ≤ i ∧ i ≤ 1000000 ∧ -1000000 ≤ j ∧ j ≤ 1000000) : asR2 [.int i, .int j] = some (intsFrom i (j - i).toNat) := by
  show (if (-big ≤ i ∧ i ≤ big) ∧ -big ≤ j ∧ j ≤ big then some (intsFrom i (j - i).toNat) else none) = _
  exact if_pos (by unfold big; omega)
theorem asR1_ok {j : Int} (h : -1000000 ≤ j ∧ j ≤ 1000000) : asR1 [.int j] = some (intsFrom 0 j.toNat) := by
  show (if -big ≤ j ∧ j ≤ big then some (intsFrom 0 j.toNat) else none) = _
  exact if_pos (by unfold big; omega)
@[simp] theorem dMin2_int (i j : Int) : dMin2 [.int i, .int j] = some (.int (min i j)) := by
  show some (PyData.int (if j < i then j else i)) = _
  congr 2; omega
@[simp] theorem dMax2_int (i j : Int) : dMax2 [.int i, .int j] = some (.int (max i j)) := by
  show some (PyData.int (if j > i then j else i)) = _
  congr 2; omega
theorem dEq_self {d : D} (h : SeqAt.shaped d = true) : dEq d d = some true := by
  have e : dEq d d = some true ∨ dEq d d = if SeqAt.shaped d = true ∧ SeqAt.shaped d = true then some (PyData.eqv d d) else none := by
    unfold dEq
    split
    · left; simp_all
    · right; rfl
  rcases e with e | e
  · exact e
  · rw [e, if_pos ⟨h, h⟩]
    have h2 : d.canLay0 = true := by unfold SeqAt.shaped at h; simp only [Bool.and_eq_true] at h; exact h.1
    rw [SeqAt.eqv_refl d h2]
theorem enum_map {α : Type} (f : α → D) : ∀ (l : List α) (n : Nat), enum n (l.map f) = (l.zipIdx n).map fun p => .tuple [.int p.2, f p.1]
  | [], _ => rfl
  | x :: l, n => by simp [enum, enum_map f l (n + 1)]
@[simp] theorem asE_l (ds) : asE [.list ds] = some (enum 0 ds) := rfl
end Q
namespace Q
open PySem L2 SX TL
section
variable {ρ : Env} {m n : SM} {ma mb mc : Env → R D} {mt mu : Env → R Bool} {mas : Env → R (List D)} {i j : Nat} {d e : D}
def outB : R Bool → R Bool
  | .ok b => .ok b
  | .exc c .none => .exc c .none
  | _ => .bad
@[simp] theorem outB_ok (b) : outB (.ok b) = .ok b := rfl
@[simp] theorem ev_pkT : pkT i mt ρ = outB (mt (frz i ρ)) := rfl
@[simp] theorem ev_pk : pk i ma ρ = pkR (ma (frz i ρ)) := rfl
@[simp] theorem pkR_int (x) : pkR (.ok (.int x)) = .ok (.int x) := rfl
@[simp] theorem pkR_bool (x) : pkR (.ok (.bool x)) = .ok (.bool x) := rfl
@[simp] theorem pkR_str (x) : pkR (.ok (.str x)) = .ok (.str x) := rfl
@[simp] theorem pkR_none : pkR (.ok .none) = .ok .none := rfl
/-- the i-th name's own list, own dict -/
def olOf (ρ : Env) (i : Nat) : Option (List D) := match ρ[i]? with
  | some (.ol ds) => some ds
  | _ => none
def odOf (ρ : Env) (i : Nat) : Option (List (D × D)) := match ρ[i]? with
  | some (.od ds) => some ds
  | _ => none
@[simp] theorem olOf0 (ds) : olOf (.ol ds :: ρ) 0 = some ds := rfl
@[simp] theorem olOfs (s : Slot) : olOf (s :: ρ) (i + 1) = olOf ρ i := by simp [olOf]
@[simp] theorem odOf0 (ds) : odOf (.od ds :: ρ) 0 = some ds := rfl
@[simp] theorem odOfs (s : Slot) : odOf (s :: ρ) (i + 1) = odOf ρ i := by simp [odOf]
def oL (f : List D → Out) : Option (List D) → Out
  | some ds => f ds
  | none => .bad
@[simp] theorem oL_some (f ds) : oL f (some ds) = f ds := rfl
theorem withL_eq (f) : withL i f ρ = oL f (olOf ρ i) := by
  unfold withL olOf oL
  cases ρ[i]? with
  | none => rfl
  | some s => cases s <;> rfl
@[simp] theorem ev_app : app i ma ρ = oL (fun ds => (ma ρ).go ρ fun d => if ds.length < most then .nx (ρ.set i (.ol (ds ++ [d]))) else .bad) (olOf ρ i) := withL_eq _
@[simp] theorem ev_retV (ds) (h : olOf ρ i = some ds) : retV i ρ = .rl ds := by
  unfold retV
  unfold olOf at h
  cases e : ρ[i]? with
  | none => rw [e] at h; cases h
  | some s => rw [e] at h; cases s <;> simp at h ⊢ <;> exact h
def oD (f : List (D × D) → Out) : Option (List (D × D)) → Out
  | some ds => f ds
  | none => .bad
@[simp] theorem oD_some (f ds) : oD f (some ds) = f ds := rfl
def putK (ρ : Env) (i : Nat) (es : List (D × D)) (d : D) : D → Out
  | .tuple ks => (match keyOf ks with
      | some k => if es.length < most then .nx (ρ.set i (.od (dput es k d))) else .bad
      | none => .bad)
  | _ => .bad
@[simp] theorem ev_putD : putD i ma mb ρ = (mb ρ).go ρ fun d => oD (fun es => (ma ρ).go ρ fun jd => putK ρ i es d jd) (odOf ρ i) := by
  unfold putD
  congr 1
  funext d
  unfold odOf oD
  cases ρ[i]? with
  | none => rfl
  | some s => cases s <;> rfl
theorem putK_enc {α : Type} (enc : α → D) (T : List ((Int × Int) × α)) (a b : Int) (x : α) (h : T.length < most) : putK ρ i (encT enc T) (enc x) (.tuple [.int a, .int b]) = .nx (ρ.set i (.od (encT enc (tput T (a, b) x)))) := by
  show (match keyOf [.int a, .int b] with
      | some k => if (encT enc T).length < most then Out.nx (ρ.set i (.od (dput (encT enc T) k (enc x)))) else .bad
      | none => .bad) = _
  rw [keyOf_kt]
  simp only
  rw [if_pos (by simpa [encT] using h), dput_enc]
def putI (ρ : Env) (i : Nat) (ds : List D) (d : D) : D → Out
  | .int j => (match ixN ds.length j with
    | some k => .nx (ρ.set i (.ol (ds.set k d)))
    | none => .bad)
  | _ => .bad
@[simp] theorem ev_putL : putL i ma mb ρ = (mb ρ).go ρ fun d => oL (fun ds => (ma ρ).go ρ fun jd => putI ρ i ds d jd) (olOf ρ i) := by
  unfold putL
  congr 1
  funext d
  exact withL_eq _
@[simp] theorem putI_ev (ds d) (j : Int) : putI ρ i ds d (.int j) = match ixN ds.length j with
    | some k => .nx (ρ.set i (.ol (ds.set k d)))
    | none => .bad := rfl
@[simp] theorem ev_oixL (ds) (h : olOf ρ i = some ds) : oix i ma ρ = (ma ρ).bind fun d => R.of (dIx (.list ds) d) := by
  unfold oix
  unfold olOf at h
  cases e : ρ[i]? with
  | none => rw [e] at h; cases h
  | some s => rw [e] at h; cases s <;> simp at h ⊢; subst h; rfl
@[simp] theorem ev_oixD (ds) (h : odOf ρ i = some ds) : oix i ma ρ = (ma ρ).bind fun d => R.of (dIx (.dict ds) d) := by
  unfold oix
  unfold odOf at h
  cases e : ρ[i]? with
  | none => rw [e] at h; cases h
  | some s => rw [e] at h; cases s <;> simp at h ⊢; subst h; rfl
end
@[simp] theorem kit_ss : kitB "str" "str" = some true := by decide +kernel
@[simp] theorem kit_ls : kitB "list" "str" = some false := by decide +kernel
@[simp] theorem kit_ll : kitB "list" "list" = some true := by decide +kernel
@[simp] theorem kit_tt : kitB "tuple" "tuple" = some true := by decide +kernel
@[simp] theorem kit_ii : kitB "int" "int" = some true := by decide +kernel
@[simp] theorem kit_ib : kitB "int" "bool" = some false := by decide +kernel
@[simp] theorem tyN_str (x) : tyN (.str x) = "str" := rfl
@[simp] theorem tyN_int (x) : tyN (.int x) = "int" := rfl
@[simp] theorem tyN_list (x) : tyN (.list x) = "list" := rfl
@[simp] theorem tyN_tuple (x) : tyN (.tuple x) = "tuple" := rfl
theorem dIx_S {l : List Nat} {c : Nat} (i : Int) (hl : l.length ≤ most) (h : atI l i = some c) : dIx (.str (S l)) (.int i) = some (.str (S [c])) := by
  show (if (S l).length ≤ most then (atI l i).map fun c => PyData.str ⟨#[c]⟩ else none) = _
  rw [S_len, if_pos hl, h]; rfl
theorem S_ne {a b : List Nat} : (S a = S b) ↔ a = b := ⟨S_inj, fun h => by rw [h]⟩
theorem cutS_sl (z : Str) (lo hi : Option Int) : cutS z lo hi = Txt.slice z lo hi := by
  rw [← sliceText_cut] <;> rfl
theorem cutS_to {l : List Nat} {i : Int} (h : 0 ≤ i) : cutS (S l) none (some i) = S (l.take i.toNat) := by rw [cutS_sl, slice_to h]
theorem cutS_from {l : List Nat} {i : Int} (h : 0 ≤ i) : cutS (S l) (some i) none = S (l.drop i.toNat) := by rw [cutS_sl, slice_from h]
end Q
namespace Q
open PySem L2 SX TL
theorem loop_done {α : Type} (enc : α → D) {b : Bd} {mb : SM} (xs : List α) (I : List α → Env → Prop) (ρ : Env) (h0 : I [] ρ) (h : ∀ done x rest ρ, xs = done ++ x :: rest → I done ρ → ∃ ρ1 ρ2, b (enc x) ρ = some ρ1 ∧ mb ρ1 = .nx ρ2 ∧ I (done ++ [x]) ρ2) :
    ∃ ρ', loop b mb (xs.map enc) ρ = .nx ρ' ∧ I xs ρ' := by
  have key : ∀ (rest done : List α) (ρ : Env), xs = done ++ rest → I done ρ → ∃ ρ', loop b mb (rest.map enc) ρ = .nx ρ' ∧ I xs ρ' := by
    intro rest
    induction rest with
    | nil => intro done ρ e hI; rw [List.append_nil] at e; subst e; exact ⟨ρ, rfl, hI⟩
    | cons x r ih =>
      intro done ρ e hI
      obtain ⟨ρ1, ρ2, e1, e2, hI2⟩ := h done x r ρ e hI
      obtain ⟨ρ', e3, hI3⟩ := ih (done ++ [x]) ρ2 (by rw [e]; simp) hI2
      exact ⟨ρ', by simp only [List.map_cons, loop, e1, e2, e3], hI3⟩
  exact key xs [] ρ rfl h0
theorem loop_cons {b : Bd} {mb : SM} {d : D} {ds : List D} {ρ ρ1 ρ2 : Env} (h1 : b d ρ = some ρ1) (h2 : mb ρ1 = .nx ρ2) : loop b mb (d :: ds) ρ = loop b mb ds ρ2 := by
  simp only [loop, h1, h2]
theorem loop_nil {b : Bd} {mb : SM} {ρ : Env} : loop b mb [] ρ = .nx ρ := rfl
theorem cutD_to {α : Type} (f : α → D) (l : List α) (k : Nat) (h : k ≤ l.length) : cutD (l.map f) none (some (k : Int)) = (l.take k).map f := by
  unfold cutD
  rw [HT.sIx_none, HT.sIx_nat, List.length_map, Nat.min_eq_left h, List.drop_zero, Nat.sub_zero, List.map_take]
theorem cutD_from {α : Type} (f : α → D) (l : List α) (k : Nat) (h : k ≤ l.length) : cutD (l.map f) (some (k : Int)) none = (l.drop k).map f := by
  unfold cutD
  rw [HT.sIx_none, HT.sIx_nat, List.length_map, Nat.min_eq_left h, ← List.map_drop, List.take_of_length_le (by simp)]
theorem dAdd_l {xs ys : List D} (h : xs.length + ys.length ≤ most) : dAdd (.list xs) (.list ys) = some (.list (xs ++ ys)) := by
  show (if xs.length + ys.length ≤ most then some (PyData.list (xs ++ ys)) else none) = _
  exact if_pos h
theorem perm_of_mem {α : Type} [BEq α] [LawfulBEq α] {l m : List α} (h1 : l.Nodup) (h2 : m.Nodup) (h : ∀ a, a ∈ l ↔ a ∈ m) : l.Perm m := by
  rw [List.perm_iff_count]
  intro a
  rw [h1.count, h2.count]
  simp only [h a]
end Q

set_option maxHeartbeats 1000000
/-! # Qp: refusals that are caught by a name -/
namespace Q
open PySem L2
/-- the refusal that is held, as the context has it -/
def Hx (X : Cx) (B : Bs) : Prop := ∀ a c dd, B.X a c dd → ∃ oe C, X.mg (Str.ofString c) = some (.ref C) ∧ (a, oe) ∈ X.pn ∧ Zc (.ref C) dd oe ∧ ∃ vs, oe.data = .fields vs
/-- x is a class, cv -/
def IsCls (X : Cx) (x : String) (cv : Value) : Prop := Gl X (Str.ofString x) ∧ ((∃ C, X.mg (Str.ofString x) = some (.ref C) ∧ cv = .ref C) ∨ ∃ T, X.mg (Str.ofString x) = none ∧ bootBuiltins (Str.ofString x) = some (.type T) ∧ Str.ofString x ≠ "__name__" ∧ cv = .type T)
/-- which of the classes' instances are x's: T -/
def Subs (K : PySem.W.Frag) (mg : Str → Option Value) (T : String → Option Bool) (cv : Value) : Prop := ∀ c b, T c = some b → ∀ C, mg (Str.ofString c) = some (.ref C) → ExcC K C ∧ PySem.W.kitOne K (.ref C) cv = some b
def isx (T : String → Option Bool) (i : Nat) : Env → R D := fun ρ => match ρ[i]? with
  | some (.fx c _) => R.of ((T c).map .bool)
  | _ => .bad
section
variable {X : Cx} {B : Bs} {W : WX} {a b c e : Expr} {ma mb mc : Env → R D} {mas : Env → R (List D)} {pos p q : Pos} {st : Stmt} {rest sts sts' : List Stmt} {m n : SM}
def rIsX (K : PySem.W.Frag) (mg : Str → Option Value) (pn : List (Addr × Obj)) (T : String → Option Bool) : List V → Hp → VK → Prop := fun xs H Q => ∃ (a : Addr) (oe : Obj) (c : String) (C : Addr) (dd : Option Addr) (cl : V) (cv : Value) (b : Bool), xs = [.ref a, cl] ∧ (∀ u, RelV cl u → u = cv) ∧ (a, oe) ∈ pn ∧
  mg (Str.ofString c) = some (.ref C) ∧ Zc (.ref C) dd oe ∧ (dd = none ∨ ∃ d fs, dd = some d ∧ H d = some (.xd fs)) ∧ (∃ vs, oe.data = .fields vs) ∧ T c = some b ∧ Subs K mg T cv ∧ Q (.bl b) H
theorem call_isX {T : String → Option Bool} : CallR X (.builtin "isinstance") (rIsX X.K X.mg X.pn T) := by
  intro pins s σ H xs us Q I r h
  obtain ⟨a, oe, c, C, dd, cl, cv, b, rfl, hcv, hpn, hm, hz, hdd, ⟨vs, hv⟩, ht, hs, q⟩ := h
  have eu : us = [.ref a, cv] := by
    cases r with
    | cons rx rr =>
      cases rr with
      | cons rt rr => cases rr; cases rx; rw [hcv _ rt]
  subst eu
  have hget := (I.pin (a, oe) (List.mem_append.mpr (.inl hpn))).1
  obtain ⟨E, hk⟩ := hs c b ht C hm
  obtain ⟨cd, hcl, _⟩ := PySem.W.any_some E.hd
  have J : ∃ od, PySem.W.InstAt s.heap a oe C od := by
    obtain ⟨oc, od, oda, osl⟩ := oe
    have h1 := hz.1
    have h2 := hz.2
    dsimp only at h1 h2 hv
    subst h1 h2 hv
    rcases hdd with rfl | ⟨d, fs, rfl, hx⟩
    · exact ⟨none, hget, rfl, rfl, trivial⟩
    · obtain ⟨mA, hns, _⟩ := (show ObjOk X.prog X.w H s.heap d (.xd fs) from I.hok d _ hx)
      obtain ⟨o, _, _, ho, _⟩ := hns
      exact ⟨some o, hget, rfl, rfl, ho⟩
  obtain ⟨od, J⟩ := J
  exact PySem.W.kia_one (PySem.W.kitx_exc (by rw [hcl]; rfl) E.hg E.hk E.hs E.ha E.hn E.ht E.hm) I.kIn J hk (fun z => nomatch z) fun tk => ⟨.bl b, H, I.kept (t' := tk) fun _ _ z => z, rfl, q⟩
/-- isinstance(e, x) -/
theorem se_isx {T : String → Option Bool} {x : String} {cv : Value} {n : Str} {px pn : Pos} (i : Nat) (HX : Hx X B) (hc : IsCls X x cv) (hs : Subs X.K X.mg T cv) (hm : X.mg "isinstance" = none) (hN : X.N[i]? = some n := by rfl) (hv : Vis X.env.scope n := by first | exact Or.inl rfl | exact Or.inr (Or.inl rfl) | exact Or.inr (Or.inr rfl)) (hd : (n == ("__debug__" : Str)) = false := by decide)
    (hcd : (n == ("__classdict__" : Str)) = false := by decide) (hdb : (Str.ofString x == ("__debug__" : Str)) = false := by decide) (hg : Gl X "isinstance" := by rfl)
    (he : starEach [.Name n pn, .Name (Str.ofString x) px] X.env = (false, eval (.Name n pn) X.env) :: starEach [.Name (Str.ofString x) px] X.env := by rfl) (he2 : starEach [.Name (Str.ofString x) px] X.env = (false, eval (.Name (Str.ofString x) px) X.env) :: starEach [] X.env := by rfl) (hpl : (backTo pos (starEach [.Name (Str.ofString x) px] X.env)).any (·.1) = false := by rfl) :
    SE X B W (.Call (.Name "isinstance" p) [.Name n pn, .Name (Str.ofString x) px] [] pos) (isx T i) := by
  have key : ∀ cl : V, (∀ u, RelV cl u → u = cv) → PE X (.Name (Str.ofString x) px) (tC cl) → SE X B W (.Call (.Name "isinstance" p) [.Name n pn, .Name (Str.ofString x) px] [] pos) (isx T i) := fun cl hcl hpe =>
    ⟨(pe_callB (call_isX (T := T)) hg hm (by decide +kernel) (pa_cons (pe_var hN hv hd hcd) (pa_cons hpe pa_nil he2) he) (by decide) (by decide) he hpl).imp fun σ H Q ⟨ρ, G, s, h⟩ => by
      unfold isx at h
      cases e : ρ[i]? with
      | none => rw [e] at h; exact h.elim
      | some sl =>
        rw [e] at h
        cases sl with
        | fx c x2 =>
          obtain ⟨z, hz, hq⟩ := Af.of h
          rw [Option.map_eq_some_iff] at hz
          obtain ⟨b, hb, rfl⟩ := hz
          obtain ⟨a, dd, h1, h2, h3⟩ := s.fx i c x2 e
          obtain ⟨oe, C, k1, k2, k3, k4⟩ := HX a c dd h2
          refine ⟨.ref a, h1, ?_⟩
          have h4 : dd = none ∨ ∃ d fs, dd = some d ∧ H d = some (.xd fs) := by
            unfold Fld at h3
            split at h3
            · obtain ⟨d, v, e1, e2, _⟩ := h3
              exact .inr ⟨d, _, e1, s.same _ _ e2⟩
            · exact .inl h3
          exact ⟨a, oe, c, C, dd, cl, cv, b, rfl, hcl, k2, k1, k3, h4, k4, hb, hs, hq G H (Gr.refl s.same) _ (.bl b)⟩
        | _ => exact h.elim⟩
  obtain ⟨hg', ⟨C, hm', rfl⟩ | ⟨T', hm', hv', hn', rfl⟩⟩ := hc
  · exact key (.ref C) (fun u hu => hu) (pe_glob hg' hm' rfl hdb)
  · exact key (.ty T') (fun u hu => hu) (pe_bltn hg' hm' hv' rfl hn' hdb)
/-- x = e, in a suite too -/
theorem ss_setN (i : Nat) {x : Str} (nd : X.N.Nodup) (h : SE X B W e ma) (hi : X.N[i]? = some x := by rfl) (hx : Loc X.env.scope x := by first | exact Or.inl rfl | exact Or.inr rfl) (hs : swapsWith e (some (.Name x p)) pos.line X.env = pure false := by rfl)
    (hf : X.fn x = true ∨ X.env.scope.names.lookup x = some .local := by first | exact .inl rfl | exact .inr rfl) : SS X B W (.Assign [.Name x p] e pos) (setB i ma) :=
  ⟨(ps_set nd hi hx h.pe hs hf).imp fun D' σ H ⟨ρ, G, s, h⟩ => ⟨ρ, G, s, (Af.go s h).imp fun d G1 H1 g1 h1 v r => h1 _ G1 H1 ((s.step g1).set r i) (Same.refl _)⟩⟩
/-- what a def gives that refuses nothing -/
def spR (K : PySem.W.Frag) (r : RF) (G H : Hp) (Q : VK) : Prop := match r with
  | .ok d => ∀ v G' H', Gr G H G' H' → Rp K G' v d → Q v H'
  | .ol es => ∀ p ws G' H', Gr G H G' H' → H p = none → G' p = none → H' p = some (.lst ws) → RpA K G' ws es → Q (.ref p) H'
  | _ => False
/-- a def of one refusal, called within an except suite -/
structure FnX (P : Program) (w : World) (K : PySem.W.Frag) (mg : Str → Option Value) (base : Heap) (kk : Nat) (f : Addr) (fd : FuncData) (e : Str) (m : String → D → RF) : Prop where
  run : ∀ (A : Around) (outer : List PySem.Env) (s : Shared) (H : Hp) (args : Args) (Q : VK) (p : Addr × Obj) (c : String) (C : Addr) (dd : Option Addr) (x : D) (G : Hp), L2H.RoomH kk A → L2H.PinOk outer H s p → Env0 P w K mg base A outer s H → BindsTo s fd args [(e, .ref p.1)] →
    mg (Str.ofString c) = some (.ref C) → Zc (.ref C) dd p.2 → (∃ vs, p.2.data = .fields vs) → Same G H → Fld K G dd x → spR K (m c x) G H Q → codeAny (model P w) A (.call (.ref f) args) (CR L2.CX0 outer P w H s Q fun _ _ _ => False) s
theorem fnx_ok {P : Program} {w : World} {K : PySem.W.Frag} {mg : Str → Option Value} {base : Heap} {qual e : Str} {st : Stmt} {g : Addr} {fd : FuncData} {N : List Str} {mb : SM} {kk : Nat} {x : Str} (F : Fun K x qual st g fd) (S : FnScope N [e] (defScope st))
    (hb : ∀ (X : Cx) (B : Bs) (cdv : Value) (A : Around) (outer : List PySem.Env) (s : Shared) (H : Hp) (p : Addr × Obj), X = L2H.cxH L2.CX0 P w K mg base N qual (defScope st) g cdv A outer s H (fun _ _ _ => False) p → Hx X B → SSs X B W0 (defBody st) mb) :
    FnX P w K mg base (kk + 1) g fd e (fun c x => outF (mb (.fx c x :: List.replicate (N.length - 1) .no))) := by
  obtain ⟨oc, od, kV, doc, pm, an, cdv, ct, osl, rfl, lk, hcd⟩ := F.ex
  refine ⟨fun A outer s H args Q p c C dd x G hr hpin e0 hbd hm hz hv hG hF h => ?_⟩
  have KX : K.In s.heap := e0.mod.kin.keeps fun b o q => (e0.bs b o q).1
  have lim : s.heap.NoLimit := e0.mod.nolimit.keeps fun b o q => (e0.bs b o q).1
  have hkind : ∀ y ∈ [e].zip [Value.ref p.1], (defScope st).names.lookup y.1 = some .local ∨ ((defScope st).names.lookup y.1 = some .cell ∧ ((cellsFrom (s.heap.objs.size + 1) (defScope st).names []).lookup y.1).isSome = true) := by
    rintro ⟨n, v⟩ hy
    rcases S.par n (List.of_mem_zip hy).1 with q | q
    · exact .inl q
    · exact .inr ⟨q, PySem.W.cellsFrom_some _ _ _ (.inl q)⟩
  refine codeAny_call_function hr.depth (KX _ _ lk) rfl S.co S.gen rfl (PySem.W.codeRec_of KX hcd) (hbd _ _ _ _ ?_)
  refine wpAny_newFunctionEnv_cells S.kind hkind fun env he s1 xc => ?_
  subst he
  refine ⟨lim.keeps xc.toInCall.keep, codeAny_func ?_⟩
  have I := L2H.inv_startH (CX := L2.CX0) (E := fun _ _ _ => False) (vs := [V.ref p.1]) S hpin e0 rfl (.cons rfl .nil) xc
  have T := (hb _ ⟨G, H, fun a' c' d' => a' = p.1 ∧ c' = c ∧ d' = dd⟩ cdv A outer s H p rfl (fun a' c' d' ⟨e1, e2, e3⟩ => by
    subst e1 e2 e3
    exact ⟨p.2, C, hm, List.mem_cons_self, hz, hv⟩)).ps
  have sl : Sl K ⟨G, H, fun a' c' d' => a' = p.1 ∧ c' = c ∧ d' = dd⟩ (.fx c x :: List.replicate (N.length - 1) .no) G (L2.start N [V.ref p.1]) H := by
    have s0 := (sl_start (K := K) (N := N) (vs := []) (ds := []) (F := fun a' c' d' => a' = p.1 ∧ c' = c ∧ d' = dd) hG .nil).setX (a := p.1) (dd := dd) (c := c) (x := x) ⟨rfl, rfl, rfl⟩ hF 0
    cases N with
    | nil => have := S.pre; simp at this
    | cons n0 N => exact s0
  refine wpAny_mono (T.run [] s1 _ H { nx := fun _ H' => Q .non H', rt := Q } I ⟨_, G, sl, ?_⟩) (fun fl s' hs => ?_) fun e s' hs => hs
  · cases e2 : mb (.fx c x :: List.replicate (N.length - 1) .no) with
    | nx ρ => rw [e2] at h; exact fun σ G' H' s _ => h .non G' H' s.gr .non
    | bk ρ => rw [e2] at h; exact h.elim
    | ct ρ => rw [e2] at h; exact h.elim
    | rt d => rw [e2] at h; exact fun v G' H' g r => h v G' H' g r
    | rl d => rw [e2] at h; exact fun q ws G' H' g h0 hg hp r => h q ws G' H' g h0 hg hp r
    | exc c a ρ => rw [e2] at h; exact h.elim
    | bad => rw [e2] at h; exact h.elim
  · cases fl with
    | ret u => obtain ⟨v, σ', H', J, rv, q⟩ := hs; exact ⟨v, H', J.os, J.bare, J.base, J.hok, rv, q⟩
    | next => obtain ⟨σ', H', J, q⟩ := hs; exact ⟨.non, H', J.os, J.bare, J.base, J.hok, rfl, q⟩
    | brk => obtain ⟨_, _, _, q⟩ := hs; exact q.elim
    | cont => obtain ⟨_, _, _, q⟩ := hs; exact q.elim
/-- the module's name x is such a def -/
structure DefX (P : Program) (w : World) (K : PySem.W.Frag) (mg : Str → Option Value) (base : Heap) (x : Str) (kk : Nat) (m : String → D → RF) : Prop where
  ex : ∃ f fd e, mg x = some (.ref f) ∧ PySem.W.keepIn K (.ref f) = true ∧ Binds K fd [e] [] ∧ FnX P w K mg base kk f fd e m
theorem defx_at {P : Program} {w : World} {K : PySem.W.Frag} {mg : Str → Option Value} {base : Heap} {x e : Str} {st : Stmt} {N : List Str} {kk : Nat} {mb : SM} (Dn : DefIn K mg x st [e]) (S : FnScope N [e] (defScope st))
    (hb : ∀ (g : Addr) (X : Cx) (B : Bs) (cdv : Value) (A : Around) (outer : List PySem.Env) (s : Shared) (H : Hp) (p : Addr × Obj), X = L2H.cxH L2.CX0 P w K mg base N x (defScope st) g cdv A outer s H (fun _ _ _ => False) p → Hx X B → SSs X B W0 (defBody st) mb) :
    DefX P w K mg base x (kk + 1) (fun c x => outF (mb (.fx c x :: List.replicate (N.length - 1) .no))) := by
  obtain ⟨g, fd, F, hm, b⟩ := Dn.ex
  exact ⟨g, fd, e, hm, F.kp, b, fnx_ok F S (hb g)⟩
/-- a call of it in a suite -/
def callx (m : String → D → RF) (i : Nat) : Env → R D := fun ρ => match ρ[i]? with
  | some (.fx c x) => (match m c x with
    | .ok d => .ok d
    | .ol ds => .ok (.list ds)
    | _ => .bad)
  | _ => .bad
theorem se_callx {m : String → D → RF} {f n : Str} {kk : Nat} {pn : Pos} (hd : DefX X.prog X.w X.K X.mg X.base f kk m) (i : Nat) (HX : Hx X B) (hr : L2H.RoomH kk X.A) (hN : X.N[i]? = some n := by rfl) (hv : Vis X.env.scope n := by first | exact Or.inl rfl | exact Or.inr (Or.inl rfl) | exact Or.inr (Or.inr rfl)) (hdn : (n == ("__debug__" : Str)) = false := by decide)
    (hcd : (n == ("__classdict__" : Str)) = false := by decide) (hg : Gl X f := by rfl) (hdb : (f == ("__debug__" : Str)) = false := by decide)
    (he : starEach [.Name n pn] X.env = (false, eval (.Name n pn) X.env) :: starEach [] X.env := by rfl) (hpl : (backTo pos (starEach [] X.env)).any (·.1) = false := by rfl) : SE X B W (.Call (.Name f p) [.Name n pn] [] pos) (callx m i) := by
  obtain ⟨a, fd, en, hm, hk, hb, F⟩ := hd.ex
  refine ⟨⟨fun pins s σ H Q I ⟨ρ, G, sl, h⟩ => ?_⟩⟩
  unfold callx at h
  cases e : ρ[i]? with
  | none => rw [e] at h; exact h.elim
  | some s' =>
    rw [e] at h
    cases s' with
    | fx c x =>
      obtain ⟨a1, dd, h1, h2, h3⟩ := sl.fx i c x e
      obtain ⟨oe, C, k1, k2, k3, k4⟩ := HX a1 c dd h2
      have pa := pa_cons (pe_var (pos := pn) hN hv hdn hcd) pa_nil he
      refine wpAny_Call_Name_kw (ld_glob I hg hm ?_ hdb)
      refine PySem.W.callWith_K (h₀ := X.base) I.ok.mod.kin hk (L2.thn (pa.run pos pins s σ H (fun vs H1 => vs = [V.ref a1] ∧ H1 = H) I ⟨.ref a1, h1, rfl, rfl⟩) fun us s1 ⟨vs, H1, I1, r, ev, eH⟩ => ⟨I1.kIn, ?_⟩) he hpl
      subst ev eH
      have eu : us = [.ref a1] := by cases r with | cons r0 rr => cases rr; cases r0; rfl
      subst eu
      have b := hb s1 [.ref a1] I1.kIn rfl
      have P1 := I1.pin (a1, oe) (List.mem_append_left _ k2)
      have hpin : L2H.PinOk X.stack H1 s1 (a1, oe) := ⟨P1.1, P1.2.1, fun hm => (List.mem_cons.mp (I1.stkSub a1 hm)).elim P1.2.2.1 P1.2.2.2.1, P1.2.2.2.2⟩
      have spr : spR X.K (m c x) G H1 Q := by
        simp only at h
        cases e3 : m c x with
        | ok d => rw [e3] at h; exact fun v G' H' g r => h G' H' g v r
        | ol ds => rw [e3] at h; exact fun q ws G' H' g h0 hg hp r => h _ _ (g.freeze h0 hg hp) _ (.lst (SqL.of upd_same) (r.mono (Same.fz hg)))
        | exc _ _ => rw [e3] at h; exact h.elim
        | bad => rw [e3] at h; exact h.elim
      refine wpAny_call (codeAny_mono (F.run X.A X.stack s1 H1 ⟨[.ref a1], []⟩ Q (a1, oe) c C dd x G hr hpin I1.env0 b k1 k3 k4 sl.same h3 spr) fun r s2 hq => ?_)
      cases r with
      | error e => exact hq.elim
      | ok fl =>
        cases fl with
        | ret u => exact I1.after hq
        | next => exact hq.elim
        | brk => exact hq.elim
        | cont => exact hq.elim
    | _ => exact h.elim
/-! ### try: .. except x as n: .. -/
def noFx (ρ : Env) : Bool := ρ.all fun s => match s with
  | .fx _ _ => false
  | _ => true
def Bs.hold (B : Bs) (a : Addr) (c : String) (d : Option Addr) : Bs := ⟨B.G0, B.H0, fun a' c' d' => a' = a ∧ c' = c ∧ d' = d⟩
theorem noFx_at {ρ : Env} (h : noFx ρ = true) {i : Nat} {c : String} {x : D} : ρ[i]? ≠ some (.fx c x) := fun e => by
  have := List.all_eq_true.mp h _ (List.mem_of_getElem? e)
  simp at this
theorem Sl.rehold {K : PySem.W.Frag} {B B' : Bs} {ρ : Env} {G H : Hp} {σ : St} (s : Sl K B ρ G σ H) (h : noFx ρ = true) (hG : B'.G0 = B.G0) (hH : B'.H0 = B.H0) : Sl K B' ρ G σ H := by
  obtain ⟨G0, H0, F⟩ := B
  obtain ⟨G0', H0', F'⟩ := B'
  cases hG
  cases hH
  exact ⟨s.gr, s.len, s.dat, s.ol, s.od, s.ne, fun i c x e => absurd e (noFx_at h)⟩
/-- behind a suite: the name is gone -/
def gone (i : Nat) (f : Env → Out) (ρ : Env) : Out := if noFx (ρ.set i .no) = true then f (ρ.set i .no) else .bad
/-- what a suite does, the name's slot i -/
def suiteM (i : Nat) (n : SM) (c : String) (x : D) (ρ : Env) : Out := if noFx ρ = true then (match n (ρ.set i (.fx c x)) with
    | .nx ρ2 => gone i .nx ρ2
    | .bk ρ2 => gone i .bk ρ2
    | .ct ρ2 => gone i .ct ρ2
    | .rt d => .rt d
    | .rl ds => .rl ds
    | _ => .bad) else .bad
def tryAs (i : Nat) (f : String → Option Bool) (m n : SM) : SM := fun ρ => match m ρ with
  | .exc c x ρ' => (match f c with
    | some true => suiteM i n c x ρ'
    | some false => .exc c x ρ'
    | none => .bad)
  | o => o
theorem gone_t {k : Kx} {P : Ends} {G : Hp} {i : Nat} {B' : Bs} {fo : Env → Out} {D5 : St → Hp → Prop} {ρ2 : Env} (hfo : ∀ ρ, AfS k P G (fo ρ) → ∀ σ5 G5 H5, Sl k.K k.B ρ G5 σ5 H5 → Same G G5 → D5 σ5 H5) (h : AfS k P G (gone i fo ρ2)) (hG : k.B.G0 = B'.G0) (hH : k.B.H0 = B'.H0) :
    ∀ σ5 G5 H5, Sl k.K B' ρ2 G5 σ5 H5 → Same G G5 → D5 (σ5.set i none) H5 := by
  unfold gone at h
  by_cases hn : noFx (ρ2.set i .no) = true
  · rw [if_pos hn] at h
    exact fun σ5 G5 H5 s q => hfo _ h _ G5 H5 ((s.forget i).rehold hn hG hH) q
  · rw [if_neg hn] at h; exact h.elim
theorem ss_tryAs {b₀ : Stmt} {c n0 : Str} {f : String → Option Bool} {CA : Addr} {np pos' : Pos} (i : Nat) (C : Cxt X W) (hs : X.stack = X.env :: X.outer) (hf : X.env.frame = some X.env.locals) (hc : Names X c (.ref CA))
    (hx : ∀ c' b, f c' = some b → ∀ C', X.mg (Str.ofString c') = some (.ref C') → PySem.W.exmOne X.K (.ref C') (.ref CA) = some b)
    (hb : ∀ (W' : WX) (pn : List (Addr × Obj)) (xe : Value → Shared → Prop), Cxt (X.tr pn xe) W' → SSs (X.tr pn xe) B W' sts m)
    (hsu : ∀ (a : Addr) (oe : Obj) (pn : List (Addr × Obj)) (c : String) (d : Option Addr), Hx (X.suite a ((a, oe) :: pn)) (B.hold a c d) → SSs (X.suite a ((a, oe) :: pn)) (B.hold a c d) W0 (b₀ :: sts') n)
    (hi : X.N[i]? = some n0 := by rfl) (hln : X.env.kindOf n0 = some .local := by rfl) :
    SS X B W (.Try sts [.ExceptHandler (some (.Name c np)) (some n0) (b₀ :: sts') pos'] [] [] pos) (tryAs i f m n) :=
  ⟨(ps_try_as (tb := fun W' => tSt ⟨X.K, X.mg, B, W'⟩ m) (ts := fun a cls d => fun D' σ H => ∃ (c : String) (C : Addr), cls = .ref C ∧ X.mg (Str.ofString c) = some (.ref C) ∧ tSt ⟨X.K, X.mg, B.hold a c d, W0⟩ n D' σ H) hs hf C.nd hi hln hc C.tk (fun W' pn xe tk po => (hb W' pn xe ⟨C.calm, C.nd, tk, po⟩).ps)
    (fun a oe cls d pn hz hv => ⟨fun pins s σ H D' I ⟨c, C', e1, e2, h⟩ => by
      subst e1
      exact (hsu a oe pn c d fun a' c' d' ⟨z1, z2, z3⟩ => by subst z1 z2 z3; exact ⟨oe, C', e2, List.mem_cons_self, hz, hv⟩).ps.run pins s σ H D' I h⟩)).imp fun D' σ H ⟨ρ, G, s, h⟩ => by
    refine ⟨ρ, G, s, ?_⟩
    unfold tryAs at h
    cases e : m ρ with
    | exc c' x ρ' =>
      rw [e] at h
      intro cls dd σ' G' H' s' q' xc
      obtain ⟨C', hm, rfl, hd⟩ := id xc
      simp only at h
      cases e2 : f c' with
      | none => rw [e2] at h; exact h.elim
      | some b =>
        rw [e2] at h
        refine ⟨b, hx c' b e2 C' hm, fun hbt a ha => ?_, fun hbf => ?_⟩
        · subst hbt
          simp only at h
          unfold suiteM at h
          by_cases hn : noFx ρ' = true
          · rw [if_pos hn] at h
            refine ⟨c', C', rfl, hm, ρ'.set i (.fx c' x), G', (s'.rehold (B' := B.hold a c' dd) hn rfl rfl).setX ⟨rfl, rfl, rfl⟩ hd i, ?_⟩
            have h := AfS.mono q' h
            cases e3 : n (ρ'.set i (.fx c' x)) with
            | nx ρ2 => rw [e3] at h; exact gone_t (k := kx X B W) (B' := B.hold a c' dd) (fo := .nx) (fun ρ h => h) h rfl rfl
            | bk ρ2 => rw [e3] at h; exact gone_t (k := kx X B W) (B' := B.hold a c' dd) (fo := .bk) (fun ρ h => h) h rfl rfl
            | ct ρ2 => rw [e3] at h; exact gone_t (k := kx X B W) (B' := B.hold a c' dd) (fo := .ct) (fun ρ h => h) h rfl rfl
            | rt d => rw [e3] at h; exact h
            | rl d => rw [e3] at h; exact h
            | exc c a ρ2 => rw [e3] at h; exact h.elim
            | bad => rw [e3] at h; exact h.elim
          · rw [if_neg hn] at h; exact h.elim
        · subst hbf
          exact h _ dd σ' G' H' s' q' xc
    | nx ρ' => rw [e] at h; exact h
    | bk ρ' => rw [e] at h; exact h
    | ct ρ' => rw [e] at h; exact h
    | rt d => rw [e] at h; exact h
    | rl d => rw [e] at h; exact h
    | bad => rw [e] at h; exact h⟩
/-! ### classes by their names -/
structure IsAt (K : PySem.W.Frag) (mg : Str → Option Value) (x : String) (T : String → Option Bool) : Prop where
  ex : ∃ cv, ((∃ C, mg (Str.ofString x) = some (.ref C) ∧ cv = .ref C) ∨ ∃ T, mg (Str.ofString x) = none ∧ bootBuiltins (Str.ofString x) = some (.type T) ∧ Str.ofString x ≠ "__name__" ∧ cv = .type T) ∧ Subs K mg T cv
structure HndAt (K : PySem.W.Frag) (mg : Str → Option Value) (x : String) (T : String → Option Bool) : Prop where
  ex : ∃ CA, mg (Str.ofString x) = some (.ref CA) ∧ ∀ c b, T c = some b → ∀ C, mg (Str.ofString c) = some (.ref C) → PySem.W.exmOne K (.ref C) (.ref CA) = some b
theorem isAt_own {K : PySem.W.Frag} {mg : Str → Option Value} {x : String} {T : String → Option Bool} {C : Addr} (hm : mg (Str.ofString x) = some (.ref C)) (hs : ∀ c b, T c = some b → ∃ C', mg (Str.ofString c) = some (.ref C') ∧ ExcC K C' ∧ PySem.W.kitOne K (.ref C') (.ref C) = some b) : IsAt K mg x T :=
  ⟨_, .inl ⟨C, hm, rfl⟩, fun c b h C' hm' => by
    obtain ⟨C2, h1, h2, h3⟩ := hs c b h
    rw [h1] at hm'; cases hm'
    exact ⟨h2, h3⟩⟩
theorem isAt_blt {K : PySem.W.Frag} {mg : Str → Option Value} {x T0 : String} {T : String → Option Bool} (hm : mg (Str.ofString x) = none) (hv : bootBuiltins (Str.ofString x) = some (.type T0)) (hn : Str.ofString x ≠ "__name__") (hs : ∀ c b, T c = some b → ∃ C', mg (Str.ofString c) = some (.ref C') ∧ ExcC K C' ∧ PySem.W.kitOne K (.ref C') (.type T0) = some b) : IsAt K mg x T :=
  ⟨_, .inr ⟨T0, hm, hv, hn, rfl⟩, fun c b h C' hm' => by
    obtain ⟨C2, h1, h2, h3⟩ := hs c b h
    rw [h1] at hm'; cases hm'
    exact ⟨h2, h3⟩⟩
theorem hndAt {K : PySem.W.Frag} {mg : Str → Option Value} {x : String} {T : String → Option Bool} {C : Addr} (hm : mg (Str.ofString x) = some (.ref C)) (h1 : PySem.W.subIn K (.ref C) (.type "BaseException") = some true) (hd : PySem.W.hasDictIn K C = true) (ht : PySem.W.typeIn K (.ref C) = some (.type "type"))
    (hs : ∀ c b, T c = some b → ∃ C', mg (Str.ofString c) = some (.ref C') ∧ PySem.W.subIn K (.ref C') (.ref C) = some b) : HndAt K mg x T :=
  ⟨C, hm, fun c b h C' hm' => by
    obtain ⟨C2, e1, e2⟩ := hs c b h
    rw [e1] at hm'; cases hm'
    exact PySem.W.exm_ref h1 hd ht e2⟩
theorem kit_own {K : PySem.W.Frag} {C C' : Addr} {b : Bool} (hd : PySem.W.hasDictIn K C = true) (ht : PySem.W.typeIn K (.ref C) = some (.type "type")) (h4 : PySem.W.subIn K (.ref C') (.ref C) = some b) (hb : b = true ∨ (Value.ref C' == Value.ref C) = false) : PySem.W.kitOne K (.ref C') (.ref C) = some b := by
  obtain ⟨cd, hc, _⟩ := PySem.W.any_some hd
  have e2 : ((PySem.W.clsIn K C).isSome && PySem.W.typeIn K (.ref C) == some (.type "type")) = true := by rw [hc, ht]; rfl
  have e3 : PySem.W.kitCls K (.ref C') (.ref C) = some b := by
    show (if ((PySem.W.clsIn K C).isSome && PySem.W.typeIn K (.ref C) == some (.type "type")) = true then PySem.W.subIn K (.ref C') (.ref C) else none) = _
    rw [if_pos e2]; exact h4
  unfold PySem.W.kitOne
  split
  · rcases hb with rfl | h
    · rfl
    · rename_i h2; rw [h] at h2; cases h2
  · exact e3
theorem kit_blt {K : PySem.W.Frag} {C' : Addr} {T : String} {b : Bool} (hk : PySem.W.kitMeta T = true) (h4 : PySem.W.subIn K (.ref C') (.type T) = some b) : PySem.W.kitOne K (.ref C') (.type T) = some b := by
  have e3 : PySem.W.kitCls K (.ref C') (.type T) = some b := by
    show (if PySem.W.kitMeta T = true then PySem.W.subIn K (.ref C') (.type T) else none) = _
    rw [if_pos hk]; exact h4
  unfold PySem.W.kitOne
  split
  · rename_i h2
    have : (Value.ref C' == Value.type T) = false := by rfl
    rw [this] at h2; cases h2
  · exact e3
theorem se_isa {T : String → Option Bool} {x : String} {n : Str} {px pn : Pos} (i : Nat) (HX : Hx X B) (I : IsAt X.K X.mg x T) (hm : X.mg "isinstance" = none) (hgx : Gl X (Str.ofString x) := by rfl) (hN : X.N[i]? = some n := by rfl) (hv : Vis X.env.scope n := by first | exact Or.inl rfl | exact Or.inr (Or.inl rfl) | exact Or.inr (Or.inr rfl)) (hd : (n == ("__debug__" : Str)) = false := by decide)
    (hcd : (n == ("__classdict__" : Str)) = false := by decide) (hdb : (Str.ofString x == ("__debug__" : Str)) = false := by decide) (hg : Gl X "isinstance" := by rfl)
    (he : starEach [.Name n pn, .Name (Str.ofString x) px] X.env = (false, eval (.Name n pn) X.env) :: starEach [.Name (Str.ofString x) px] X.env := by rfl) (he2 : starEach [.Name (Str.ofString x) px] X.env = (false, eval (.Name (Str.ofString x) px) X.env) :: starEach [] X.env := by rfl) (hpl : (backTo pos (starEach [.Name (Str.ofString x) px] X.env)).any (·.1) = false := by rfl) :
    SE X B W (.Call (.Name "isinstance" p) [.Name n pn, .Name (Str.ofString x) px] [] pos) (isx T i) := by
  obtain ⟨cv, h1, h2⟩ := I.ex
  exact se_isx i HX ⟨hgx, h1⟩ h2 hm hN hv hd hcd hdb hg he he2 hpl
theorem roomS {a : Addr} {pn : List (Addr × Obj)} {j k : Nat} (hr : Room k X.A) (h : j ≤ k) : L2H.RoomH j (X.suite a pn).A :=
  ⟨by have := hr.dp; show X.A.depth + 3 * j + 5 < _; omega, by have := hr.un; show X.A.units + 16 * j + 200 < _; omega⟩
theorem ss_tryAsH {b₀ : Stmt} {c : String} {n0 : Str} {f : String → Option Bool} {np pos' : Pos} (i : Nat) (C : Cxt X W) (I : HndAt X.K X.mg c f)
    (hb : ∀ (W' : WX) (pn : List (Addr × Obj)) (xe : Value → Shared → Prop), Cxt (X.tr pn xe) W' → SSs (X.tr pn xe) B W' sts m)
    (hsu : ∀ (a : Addr) (oe : Obj) (pn : List (Addr × Obj)) (c : String) (d : Option Addr), Hx (X.suite a ((a, oe) :: pn)) (B.hold a c d) → SSs (X.suite a ((a, oe) :: pn)) (B.hold a c d) W0 (b₀ :: sts') n)
    (hs : X.stack = X.env :: X.outer := by rfl) (hf : X.env.frame = some X.env.locals := by rfl) (hg : Gl X (Str.ofString c) := by rfl) (hdb : (Str.ofString c == ("__debug__" : Str)) = false := by decide) (hi : X.N[i]? = some n0 := by rfl) (hln : X.env.kindOf n0 = some .local := by rfl) :
    SS X B W (.Try sts [.ExceptHandler (some (.Name (Str.ofString c) np)) (some n0) (b₀ :: sts') pos'] [] [] pos) (tryAs i f m n) := by
  obtain ⟨CA, h1, h2⟩ := I.ex
  exact ss_tryAs i C hs hf ⟨hg, hdb, .inl h1⟩ h2 hb hsu hi hln
theorem ss_tryH {b₀ : Stmt} {c : String} {f : String → Option Bool} {np pos' : Pos} (C : Cxt X W) (I : HndAt X.K X.mg c f)
    (hb : ∀ (W' : WX) (pn : List (Addr × Obj)) (xe : Value → Shared → Prop), Cxt (X.tr pn xe) W' → SSs (X.tr pn xe) B W' sts m)
    (hsu : ∀ (a : Addr) (oe : Obj) (pn : List (Addr × Obj)), SSs (X.suite a ((a, oe) :: pn)) B W0 (b₀ :: sts') n)
    (hs : X.stack = X.env :: X.outer := by rfl) (hf : X.env.frame = some X.env.locals := by rfl) (hg : Gl X (Str.ofString c) := by rfl) (hdb : (Str.ofString c == ("__debug__" : Str)) = false := by decide) :
    SS X B W (.Try sts [.ExceptHandler (some (.Name (Str.ofString c) np)) none (b₀ :: sts') pos'] [] [] pos) (tryM f m n) := by
  obtain ⟨CA, h1, h2⟩ := I.ex
  exact ss_try C hs hf ⟨hg, hdb, .inl h1⟩ h2 hb hsu
end
end Q

set_option maxHeartbeats 1000000
/-! # Qq: numbers read from signs -/
namespace Q
open PySem L2 TL SX
def isFig (c : Nat) : Bool := decide (48 ≤ c) && decide (c ≤ 57)
/-- a whole number of at most thirty figures -/
def figs (l : List Nat) : Option Nat :=
  if l.length = 0 ∨ 30 < l.length ∨ (l.head? = some 48 ∧ 1 < l.length) ∨ l.all isFig = false then none else some (NumText.digitsVal l)
theorem isFig_mem {c : Nat} : isFig c = true ↔ c ∈ [48, 49, 50, 51, 52, 53, 54, 55, 56, 57] := by
  simp only [isFig, Bool.and_eq_true, decide_eq_true_eq, List.mem_cons, List.not_mem_nil, or_false]; omega
theorem all_digits {l : List Nat} (h : l.all isFig = true) : NumText.AllDigits l := fun c hc => by
  have := List.all_eq_true.mp h c hc
  simpa [isFig] using this
theorem val_lt : ∀ (l : List Nat) (a : Nat), NumText.AllDigits l → l.foldl (fun acc c => acc * 10 + (c - 48)) a < (a + 1) * 10 ^ l.length
  | [], a, _ => by simp
  | c :: l, a, h => by
    have h1 := h.head
    have ih := val_lt l (a * 10 + (c - 48)) h.tail
    simp only [List.foldl_cons, List.length_cons, Nat.pow_succ]
    refine Nat.lt_of_lt_of_le ih ?_
    have : a * 10 + (c - 48) + 1 ≤ (a + 1) * 10 := by omega
    calc (a * 10 + (c - 48) + 1) * 10 ^ l.length ≤ ((a + 1) * 10) * 10 ^ l.length := Nat.mul_le_mul_right _ this
      _ = (a + 1) * (10 ^ l.length * 10) := by rw [Nat.mul_assoc, Nat.mul_comm 10]
theorem figs_lt {l : List Nat} {n : Nat} (h : figs l = some n) : n < 10 ^ 30 := by
  unfold figs at h
  split at h
  · cases h
  · rename_i hn
    cases h
    have h1 : l.all isFig = true := by
      cases e : l.all isFig with
      | true => rfl
      | false => exact absurd (.inr (.inr (.inr e))) hn
    have h2 : l.length ≤ 30 := Nat.le_of_not_lt fun z => hn (.inr (.inl z))
    have := val_lt l 0 (all_digits h1)
    refine Nat.lt_of_lt_of_le this ?_
    rw [Nat.zero_add, Nat.one_mul]
    exact Nat.pow_le_pow_right (by decide) h2
theorem figs_num {n : Nat} (h : n < 10 ^ 30) : figs (numL n) = some n := by
  have l1 := numL_len (by decide) h
  have h0 := numL_ne n
  have h1 : (numL n).all isFig = true := List.all_eq_true.mpr fun c hc => by
    have := numL_digits n c hc
    simpa [isFig] using this
  have h2 : ¬ ((numL n).head? = some 48 ∧ 1 < (numL n).length) := by
    rintro ⟨e, hl⟩
    cases e2 : numL n with
    | nil => exact h0 e2
    | cons c r =>
      rw [e2] at e hl
      simp only [List.head?_cons, Option.some.injEq] at e
      subst e
      obtain ⟨_, rfl⟩ := numL_head n r e2
      simp at hl
  unfold figs
  rw [if_neg]
  · rw [numL_val]
  · rintro (h | h | h | h)
    · exact h0 (List.length_eq_zero_iff.mp h)
    · omega
    · exact h2 h
    · rw [h1] at h; cases h
/-- parted at the strokes -/
def parts (l : List Nat) : List (List Nat) := spl [47] 0 [] l
theorem spl_acc (c : Nat) (a : List Nat) : ∀ (l acc : List Nat), ∃ p ps, spl [c] 0 acc l = p :: ps ∧ spl [c] 0 (a ++ acc) l = (a ++ p) :: ps
  | [], acc => ⟨acc, [], by rw [spl_nil], by rw [spl_nil]⟩
  | d :: l, acc => by
    cases h : pre [c] (d :: l) with
    | true => exact ⟨acc, _, spl_hit h, spl_hit h⟩
    | false =>
      obtain ⟨p, ps, e1, e2⟩ := spl_acc c a l (acc ++ [d])
      rw [spl_miss h, spl_miss h]
      refine ⟨p, ps, e1, ?_⟩
      rw [List.append_assoc]; exact e2
theorem parts_neg (l : List Nat) : ∃ p ps, parts l = p :: ps ∧ parts (45 :: l) = (45 :: p) :: ps := by
  obtain ⟨p, ps, e1, e2⟩ := spl_acc 47 [45] l []
  refine ⟨p, ps, e1, ?_⟩
  unfold parts
  rw [spl_miss (pre_of_head [] l (by decide))]
  exact e2
theorem parts_pos {l : List Nat} (h : l.head? ≠ some 45) : ∃ p ps, parts l = p :: ps ∧ p.head? ≠ some 45 := by
  cases l with
  | nil => exact ⟨[], [], by unfold parts; rw [spl_nil], by simp⟩
  | cons c l =>
    by_cases hc : c = 47
    · subst hc
      exact ⟨[], _, spl_hit (by rfl), by simp⟩
    · obtain ⟨p, ps, e1, e2⟩ := spl_acc 47 [c] l []
      refine ⟨c :: p, ps, ?_, by simpa using h⟩
      unfold parts
      rw [spl_miss (pre_of_head [] l hc)]
      exact e2
theorem spl_len (c : Nat) : ∀ (l acc : List Nat), ∀ p ∈ spl [c] 0 acc l, p.length ≤ acc.length + l.length
  | [], acc, p, hp => by rw [spl_nil] at hp; simp at hp; subst hp; simp
  | d :: l, acc, p, hp => by
    cases h : pre [c] (d :: l) with
    | true =>
      rw [spl_hit h] at hp
      rcases List.mem_cons.mp hp with e | hp
      · subst e; omega
      · have := spl_len c l [] p hp
        simp at this ⊢; omega
    | false =>
      rw [spl_miss h] at hp
      have := spl_len c l _ p hp
      simp at this ⊢; omega
/-- what the parts tell, under the sign -/
def numP (neg : Bool) : List (List Nat) → Option (Int × Int)
  | [p] => (figs p).bind fun t => if neg = true ∧ t = 0 then none else some (if neg = true then -(t : Int) else t, 1)
  | [p, q] => (figs p).bind fun t => (figs q).bind fun b => if (neg = true ∧ t = 0) ∨ b < 2 ∨ Nat.gcd t b ≠ 1 then none else some (if neg = true then -(t : Int) else t, b)
  | _ => none
def num (l : List Nat) : Option (Int × Int) := if l.head? = some 45 then numP true (parts l.tail) else numP false (parts l)
/-- a fraction in its lowest terms, of not too many figures -/
structure Fr (a : Int × Int) : Prop where
  pos : 0 < a.2
  low : Nat.gcd a.1.natAbs a.2.natAbs = 1
  top : a.1.natAbs < 10 ^ 30
  bot : a.2.natAbs < 10 ^ 30
theorem numP_fr {neg : Bool} {ps : List (List Nat)} {a : Int × Int} (h : numP neg ps = some a) : Fr a := by
  unfold numP at h
  split at h
  · rename_i p
    rw [Option.bind_eq_some_iff] at h
    obtain ⟨t, ht, h⟩ := h
    have := figs_lt ht
    split at h
    · cases h
    · cases h
      refine ⟨Int.one_pos, Nat.gcd_one_right _, ?_, show (1 : Int).natAbs < 10 ^ 30 by decide⟩
      show (if neg = true then -(t : Int) else t).natAbs < 10 ^ 30
      split <;> omega
  · rename_i p q
    rw [Option.bind_eq_some_iff] at h
    obtain ⟨t, ht, h⟩ := h
    rw [Option.bind_eq_some_iff] at h
    obtain ⟨b, hb, h⟩ := h
    have := figs_lt ht
    have := figs_lt hb
    split at h
    · cases h
    · rename_i hn
      cases h
      have h2 : ¬ b < 2 := fun z => hn (.inr (.inl z))
      have h3 : Nat.gcd t b = 1 := Classical.byContradiction fun z => hn (.inr (.inr z))
      have e : (if neg = true then -(t : Int) else t).natAbs = t := by split <;> omega
      refine ⟨by show 0 < (b : Int); omega, ?_, ?_, by show (b : Int).natAbs < 10 ^ 30; omega⟩
      · show Nat.gcd (if neg = true then -(t : Int) else t).natAbs (b : Int).natAbs = 1
        rw [e]; exact h3
      · show (if neg = true then -(t : Int) else t).natAbs < 10 ^ 30
        rw [e]; assumption
  · cases h
theorem num_fr {l : List Nat} {a : Int × Int} (h : num l = some a) : Fr a := by
  unfold num at h
  split at h <;> exact numP_fr h
theorem parts_num {n : Nat} : parts (numL n) = [numL n] := spl_last1 (S := []) (numL_free (by omega))
theorem parts_frac {n m : Nat} : parts (numL n ++ 47 :: numL m) = [numL n, numL m] := by
  have := spl_part1 (s := 47) (S := []) (p := numL n) (rest := numL m) (acc := []) (numL_free (by omega))
  have e : numL n ++ 47 :: numL m = numL n ++ ([47] ++ numL m) := rfl
  unfold parts
  rw [e, this, spl_last1 (S := []) (numL_free (by omega))]; rfl
theorem numL_head45 (n : Nat) (r : List Nat) : (numL n ++ r).head? ≠ some 45 := by
  cases e : numL n with
  | nil => exact absurd e (numL_ne n)
  | cons c l =>
    have := numL_digits n c (by rw [e]; simp)
    simp; omega
theorem num_numT {a : Int × Int} (h : Fr a) : num (numT a) = some a := by
  obtain ⟨t, b⟩ := a
  have hp := h.pos
  have hl := h.low
  have ht := h.top
  have hb := h.bot
  simp only at hp hl ht hb
  have eb : decL b = numL b.natAbs := if_neg (by omega)
  have eb2 : (b.natAbs : Int) = b := by omega
  have f1 := figs_num ht
  have f2 := figs_num hb
  by_cases h0 : t < 0
  · have et : decL t = 45 :: numL t.natAbs := if_pos h0
    have e2 : -(t.natAbs : Int) = t := by omega
    have hz : ¬ t.natAbs = 0 := by omega
    by_cases h1 : b = 1
    · subst h1
      have : numT (t, 1) = 45 :: numL t.natAbs := by unfold numT; rw [if_pos rfl]; exact et
      rw [this]
      unfold num
      rw [if_pos (List.head?_cons ..), List.tail_cons, parts_num]
      simp only [numP, f1, Option.bind_some]
      rw [if_neg (fun z => hz z.2)]
      simp [e2]
    · have : numT (t, b) = 45 :: (numL t.natAbs ++ 47 :: numL b.natAbs) := by unfold numT; rw [if_neg h1]; show decL t ++ 47 :: decL b = _; rw [et, eb]; rfl
      rw [this]
      unfold num
      rw [if_pos (List.head?_cons ..), List.tail_cons, parts_frac]
      simp only [numP, f1, f2, Option.bind_some]
      rw [if_neg (by rintro (z | z | z); exact hz z.2; omega; exact z hl)]
      simp [e2, eb2]
  · have et : decL t = numL t.natAbs := if_neg h0
    have e2 : (t.natAbs : Int) = t := by omega
    by_cases h1 : b = 1
    · subst h1
      have : numT (t, 1) = numL t.natAbs := by unfold numT; rw [if_pos rfl]; exact et
      rw [this]
      unfold num
      have := numL_head45 t.natAbs []
      rw [List.append_nil] at this
      rw [if_neg this, parts_num]
      simp only [numP, f1, Option.bind_some]
      simp [e2]
    · have : numT (t, b) = numL t.natAbs ++ 47 :: numL b.natAbs := by unfold numT; rw [if_neg h1]; show decL t ++ 47 :: decL b = _; rw [et, eb]
      rw [this]
      unfold num
      rw [if_neg (numL_head45 _ _), parts_frac]
      simp only [numP, f1, f2, Option.bind_some]
      rw [if_neg (by rintro (z | z | z); exact absurd z.1 (by decide); omega; exact z hl)]
      simp [e2, eb2]
end Q

set_option maxHeartbeats 1000000
/-! # Qr: refusals with a field -/
namespace Q
open PySem L2
section
variable {X : Cx} {B : Bs} {W : WX} {a b c e : Expr} {ma mb mc : Env → R D} {mas : Env → R (List D)} {pos p q p1 p2 : Pos} {st : Stmt} {rest sts sts' : List Stmt} {m n : SM} {es : List Expr} {ta : TA}
/-- an own class of refusals without an init of its own, whose init is called by its name -/
structure BaseAt (K : PySem.W.Frag) (mg : Str → Option Value) (x : String) : Prop where
  ex : ∃ C, mg (Str.ofString x) = some (.ref C) ∧ PySem.W.specialIn K (.ref C) "__getattribute__" = some (some (.builtin "type.__getattribute__")) ∧ PySem.W.typeIn K (.ref C) = some (.type "type") ∧ PySem.W.readsIn K C (.type "type") = true ∧
    PySem.W.findCls K (.ref C) (.type "type") "__init__" = some (.val (.builtin "ValueError.__init__"))
theorem pe_ownInit {x : String} {pl : Sem Bool} (I0 : BaseAt X.K X.mg x) (ha : PA X (e :: es) ta) (hg : Gl X (Str.ofString x) := by rfl) (hdb : (Str.ofString x == ("__debug__" : Str)) = false := by decide)
    (hc : eval (.Call (.Attribute (.Name (Str.ofString x) p1) "__init__" p2) (e :: es) [] pos) X.env = (do
      let ov ← eval (.Name (Str.ofString x) p1) X.env
      standAt p2.atName
      let (f, first) ← holding [ov] (getMethod ov "__init__" pl)
      callWith pos f first (backTo pos (starEach (e :: es) X.env)) (backToKw pos (keywordEach [] X.env))) := by rfl)
    (he : starEach (e :: es) X.env = (false, eval e X.env) :: starEach es X.env := by rfl) (hpl : (backTo pos (starEach es X.env)).any (·.1) = false := by rfl) :
    PE X (.Call (.Attribute (.Name (Str.ofString x) p1) "__init__" p2) (e :: es) [] pos) (tVeI X.K ta) := by
  obtain ⟨C0, hm, h1, h2, h3, h4⟩ := I0.ex
  refine ⟨fun pins s σ H Q I h => PySem.W.methodCall_KW (ld_glob I hg hm ?_ hdb) hc⟩
  obtain ⟨m, fr⟩ := I.fr
  refine PySem.W.method_of_cls fr I.ok.mod.kin h1 (PySem.W.cls_val fr I.ok.mod.kin h2 h3 h4 (by decide +kernel) ?_)
  refine PyProof.Rows.callWith_method1 (L2.thn (ha.run pos pins _ σ H _ (I.tok _) h) fun us s1 ⟨vs, H1, I1, r1, a, C, ws, ev, hl, T, ea, q⟩ => ?_) he hpl
  have hlv := Paired.length r1
  subst ev
  obtain ⟨ur, rfl⟩ : ∃ ur, us = .ref a :: ur := by
    cases r1 with
    | cons ra rw' => cases ra; exact ⟨_, rfl⟩
  exact oinit_ok T I1 ea (by simp only [List.length_cons] at hlv; rw [sizeLine_eq]; omega) fun s' J => ⟨.non, H1, J, rfl, q⟩
/-- what such an init does: the field f -/
def spIni (K : PySem.W.Frag) (f : Str) : Sp := fun vs H Q _ => ∃ (a C : Addr) (y : V), vs = [.ref a, y] ∧ OexC K C ∧ PySem.W.findIn K (.ref C) f = some none ∧ H a = some (exo a C none) ∧ ∀ dx, H dx = none → dx ≠ a → Q .non (upd (upd H dx (exd dx [(f, y)])) a (exo a C (some dx)))
end
section
variable {P : Program} {w : World} {K : PySem.W.Frag} {mg : Str → Option Value} {base : Heap}
/-- the init of an own class of refusals -/
structure IniAt (P : Program) (w : World) (K : PySem.W.Frag) (mg : Str → Option Value) (base : Heap) (x : String) (f : Str) : Prop where
  ex : ∃ C fI fd ps, mg (Str.ofString x) = some (.ref C) ∧ OexC K C ∧ PySem.W.findIn K (.ref C) f = some none ∧ PySem.W.findIn K (.ref C) "__init__" = some (some (.ref fI)) ∧ PySem.W.typeIn K (.ref fI) = some (.type "function") ∧ Binds K fd ps [] ∧ FnOk P w K mg base L2.CX0 1 fI fd ps (spIni K f)
/-- the body of such an init -/
def tIni (K : PySem.W.Frag) (f : Str) : TS := fun D' σ H => ∃ (a C : Addr) (y : V), σ[0]? = some (some (.ref a)) ∧ σ[1]? = some (some y) ∧ OexC K C ∧ PySem.W.findIn K (.ref C) f = some none ∧ H a = some (exo a C none) ∧ ∀ dx, H dx = none → dx ≠ a → D'.nx σ (upd (upd H dx (exd dx [(f, y)])) a (exo a C (some dx)))
theorem pss_ini {X : Cx} {x : String} {f slf arg msg : Str} {j : Nat} {p1 p2 p3 p4 p5 p6 p7 p8 p9 p10 : Pos} (I0 : BaseAt X.K X.mg x) (h0 : PE X (.Name slf p3) (tVar 0)) (h0' : PE X (.Name slf p7) (tVar 0)) (h1 : PE X (.Name arg p9) (tVar 1)) (hg : Gl X (Str.ofString x)) (hdb : (Str.ofString x == ("__debug__" : Str)) = false)
    {pl : Sem Bool}
    (hc : eval (.Call (.Attribute (.Name (Str.ofString x) p1) "__init__" p2) [.Name slf p3, .Constant (.str msg) j p4] [] p5) X.env = (do
      let ov ← eval (.Name (Str.ofString x) p1) X.env
      standAt p2.atName
      let (f, first) ← holding [ov] (getMethod ov "__init__" pl)
      callWith p5 f first (backTo p5 (starEach [.Name slf p3, .Constant (.str msg) j p4] X.env)) (backToKw p5 (keywordEach [] X.env))))
    (he : starEach [.Name slf p3, .Constant (.str msg) j p4] X.env = (false, eval (.Name slf p3) X.env) :: starEach [.Constant (.str msg) j p4] X.env) (he2 : starEach [.Constant (.str msg) j p4] X.env = (false, eval (.Constant (.str msg) j p4) X.env) :: starEach [] X.env) (hpl : (backTo p5 (starEach [.Constant (.str msg) j p4] X.env)).any (·.1) = false)
    (hs : swapsWith (.Call (.Attribute (.Name (Str.ofString x) p1) "__init__" p2) [.Name slf p3, .Constant (.str msg) j p4] [] p5) none p6.line X.env = pure false) (hs2 : swapsWith (.Name arg p9) (some (.Attribute (.Name slf p7) f p8)) p10.line X.env = pure false) :
    PSs X [.Expr (.Call (.Attribute (.Name (Str.ofString x) p1) "__init__" p2) [.Name slf p3, .Constant (.str msg) j p4] [] p5) p6, .Assign [.Attribute (.Name slf p7) f p8] (.Name arg p9) p10] (tIni X.K f) :=
  (pss_cons (ps_expr (pe_ownInit I0 (pa_cons h0 (pa_cons pe_str pa_nil he2) he) hg hdb hc he hpl) hs) (pss_one (ps_ost h0' h1 hs2))).imp fun D' σ H ⟨a, C, y, e0, e1, hO, hf, ha, q⟩ => by
    refine ⟨.ref a, e0, ?_⟩
    refine ⟨a, C, [V.str msg], rfl, by simp, hO, ha, ?_⟩
    refine ⟨y, e1, .ref a, e0, a, C, rfl, hO, hf, .inl ⟨ha, q⟩⟩
/-- the init as it stands behind the top -/
structure IniIn (K : PySem.W.Frag) (mg : Str → Option Value) (x : String) (f qual : Str) (st : Stmt) (ps : List Str) : Prop where
  ex : ∃ C fI fd, mg (Str.ofString x) = some (.ref C) ∧ OexC K C ∧ PySem.W.findIn K (.ref C) f = some none ∧ PySem.W.findIn K (.ref C) "__init__" = some (some (.ref fI)) ∧ PySem.W.typeIn K (.ref fI) = some (.type "function") ∧ Binds K fd ps [] ∧ Fun K "__init__" qual st fI fd
theorem ini_at {x : String} {f qual slf arg : Str} {st : Stmt} (I : IniIn K mg x f qual st [slf, arg]) (S : FnScope [slf, arg] [slf, arg] (defScope st))
    (hb : ∀ (X : Cx) (g : Addr) (cdv : Value) (A : Around) (outer : List PySem.Env) (s : Shared) (H : Hp) (E : XK), X = (cxOf L2.CX0 P w K mg base [slf, arg] qual (defScope st) g cdv A outer s H E).nox → PSs X (defBody st) (tIni X.K f)) : IniAt P w K mg base x f := by
  obtain ⟨C, fI, fd, hm, hO, hf, hi, ht, hbd, F⟩ := I.ex
  refine ⟨C, fI, fd, _, hm, hO, hf, hi, ht, hbd, F.ok (k := 0) S (fun vs H Q E ⟨_, _, _, e, _⟩ => by rw [e]; rfl) fun cdv A outer s H vs Q E hr ⟨a, C', y, e, h1, h2, h3, q⟩ => ?_⟩
  subst e
  exact ⟨_, hb _ fI cdv A outer s H E rfl, a, C', y, rfl, rfl, h1, h2, h3, q⟩
end
section
variable {X : Cx} {B : Bs} {W : WX} {a b c e : Expr} {ma mb mc : Env → R D} {mas : Env → R (List D)} {pos p q p1 p2 : Pos} {st : Stmt} {rest sts sts' : List Stmt} {m n : SM} {es : List Expr} {ta : TA}
/-- raise c(e), the field f -/
def rseF (c : String) (f : Str) (ma : Env → R D) : SM := fun ρ => (ma ρ).go ρ fun d => .exc c (.tuple [.str f, d]) ρ
theorem xd_heap {H1 H2 : Hp} {a C dx : Addr} {f : Str} {y : V} (ha : H1 a = none) (hd : dx ≠ a) : upd (del (upd (upd (upd H1 a (exo a C none)) dx (exd dx [(f, y)])) a (exo a C (some dx))) a) dx (.xd [(f, y)]) = upd H1 dx (.xd [(f, y)]) := by
  funext b
  by_cases h1 : b = dx
  · subst h1; rw [upd_same, upd_same]
  · rw [upd_ne h1, upd_ne h1]
    by_cases h2 : b = a
    · subst h2; rw [del_same, ha]
    · rw [del_ne h2, upd_ne h2, upd_ne h1, upd_ne h2]
theorem ss_raiseF {c : String} {f : Str} (C : Cxt X W) (I : IniAt X.prog X.w X.K X.mg X.base c f) (hr : Room 2 X.A) (he1 : SE X B W e ma) (hg : Gl X (Str.ofString c) := by rfl) (hdb : (Str.ofString c == ("__debug__" : Str)) = false := by decide)
    (he : starEach [e] X.env = (false, eval e X.env) :: starEach [] X.env := by rfl) (hpl : (backTo q (starEach [] X.env)).any (·.1) = false := by rfl) : SS X B W (.Raise (some (.Call (.Name (Str.ofString c) p1) [e] [] q)) none pos) (rseF c f ma) := by
  obtain ⟨C0, fI, fd, ps, hm, hO, hf, hi, ht, hbd, F⟩ := I.ex
  refine ⟨(ps_raise C.calm C.tk (pmk_oex (CX := L2.CX0) hO hi ht F hr hbd .nil (fun _ _ _ _ _ _ _ h => h.elim) hg hm (pa_cons he1.pe pa_nil he) hdb he hpl)).imp fun D' σ H ⟨ρ, G, s, h⟩ => ⟨ρ, G, s, (Af.go s h).imp fun d G1 H1 g1 h1 v r => ?_⟩⟩
  refine ⟨by simp, fun a ha => ⟨a, C0, v, by simp, hO, hf, upd_same, fun dx hdx hne => ⟨rfl, dx, [(f, v)], upd_same, ?_, ?_, ?_⟩⟩⟩
  · rw [upd_ne hne, upd_same]
  · rw [upd_ne hne] at hdx; exact hdx
  · have hd1 : H1 dx = none := by rw [upd_ne hne] at hdx; exact hdx
    rw [xd_heap (H2 := H1) ha hne]
    have gn := Gr.new (o := .xd [(f, v)]) g1.gh hd1
    exact h1 _ (some dx) σ (upd G1 dx (.xd [(f, v)])) _ ((s.step g1).step gn) gn.g ⟨C0, hm, rfl, dx, v, rfl, upd_same, r.mono gn.g⟩
end
end Q

set_option maxHeartbeats 1000000
/-! # Qs: slices of tuples, a refusal's field, several except clauses -/
namespace Q
open PySem L2
section
variable {X : Cx} {B : Bs} {W : WX} {a b c e : Expr} {ma mb mc : Env → R D} {mas : Env → R (List D)} {pos p q p1 p2 : Pos} {st : Stmt} {rest sts sts' : List Stmt} {m n : SM} {es : List Expr} {ta : TA}
variable {lo hi : Option Expr} {ml mh : Env → R (Option Int)}
def slcT (m : Env → R D) (l h : Env → R (Option Int)) : Env → R D := fun ρ => (m ρ).bind fun d => (l ρ).bind fun lo => (h ρ).bind fun hi => match d with
  | .tuple ds => .ok (.tuple (cutD ds lo hi))
  | _ => .bad
theorem se_slT (ha : SE X B W a ma) (hl : SP X B W lo ml) (hh : SP X B W hi mh) : SE X B W (.Subscript a (.Slice lo hi none p2) pos) (slcT ma ml mh) :=
  ⟨(pe_slice sl_tupA ha.pe hl.po hh.po).imp fun σ H Q ⟨ρ, G, s, h⟩ => ⟨ρ, G, s, (Af.bind h).imp fun d G1 H1 g1 h1 v r => ⟨ρ, G1, s.step g1, (Af.bind h1).imp fun o1 G2 H2 g2 h2 => ⟨ρ, G2, (s.step g1).step g2, (Af.bind h2).imp fun o2 G3 H3 g3 h3 => by
    have r3 := r.mono (g2.g.trans g3.g)
    cases r3 with
    | @tup l xs ds h' r' =>
      refine ⟨l, xs, rfl, SqT.of (g3.gh _ _ h'), fun hw => ?_, fun _ p hp => ?_⟩
      · have e : cutV xs o1 o2 = xs := by
          unfold cutV
          rw [hw.1, hw.2, List.drop_zero, Nat.sub_zero, List.take_length]
        have rc : RpA X.K G3 (cutV xs o1 o2) (cutD ds o1 o2) := cut_rp r'
        rw [e] at rc
        exact h3 G3 H3 (Gr.refl g3.gh) _ (.tup h' rc)
      · have gn := Gr.new (o := .tup (cutV xs o1 o2)) g3.gh hp
        exact h3 _ _ gn _ (.tup upd_same (cut_rp (r'.mono gn.g)))
    | _ => exact h3.elim⟩⟩⟩⟩
/-! ### a refusal's field -/
/-- the classes (T) whose refusals' field f is read -/
structure FldAt (K : PySem.W.Frag) (mg : Str → Option Value) (f : Str) (T : String → Bool) : Prop where
  ex : ∀ c, T c = true → ∀ C, mg (Str.ofString c) = some (.ref C) → XfC K C ∧ PySem.W.findIn K (.ref C) f = some none
def fldx (T : String → Bool) (f : Str) (i : Nat) : Env → R D := fun ρ => match ρ[i]? with
  | some (.fx c (.tuple [.str g, d])) => if T c = true ∧ g = f then .ok d else .bad
  | _ => .bad
theorem se_fldx {T : String → Bool} {f n : Str} {pn : Pos} (i : Nat) (HX : Hx X B) (I : FldAt X.K X.mg f T) (hN : X.N[i]? = some n := by rfl) (hv : Vis X.env.scope n := by first | exact Or.inl rfl | exact Or.inr (Or.inl rfl) | exact Or.inr (Or.inr rfl)) (hd : (n == ("__debug__" : Str)) = false := by decide)
    (hcd : (n == ("__classdict__" : Str)) = false := by decide) (hb : attributeBase (.Name n pn) f X.env (eval (.Name n pn) X.env) = eval (.Name n pn) X.env := by rfl) : SE X B W (.Attribute (.Name n pn) f pos) (fldx T f i) := by
  refine ⟨⟨fun pins s σ H Q J ⟨ρ, G, sl, h⟩ => ?_⟩⟩
  unfold fldx at h
  split at h
  · rename_i c g d e
    by_cases ht : T c = true ∧ g = f
    · rw [if_pos ht] at h
      obtain ⟨ht, rfl⟩ := ht
      obtain ⟨a, dd, h1, h2, dx, v, rfl, hx, rv⟩ := sl.fx i c _ e
      obtain ⟨oe, C, k1, k2, k3, vs, k4⟩ := HX a c _ h2
      obtain ⟨T1, hno⟩ := I.ex c ht C k1
      have pv := pe_var (X := X) (pos := pn) hN hv hd hcd
      refine attr_of hb (L2.thn (pv.run pins s σ H (fun x H1 => x = .ref a ∧ H1 = H) J ⟨.ref a, h1, rfl, rfl⟩) fun u s1 ⟨x, H1, J1, rx, ex, eH⟩ => ?_)
      subst ex eH
      obtain rfl : u = Value.ref a := rx
      have hget := (J1.pin (a, oe) (List.mem_append_left _ k2)).1
      obtain ⟨mA, hns, hr⟩ := (show ObjOk X.prog X.w H1 s1.heap dx (.xd [(g, v)]) from J1.hok dx _ (sl.same _ _ hx))
      obtain ⟨od, ho, hl⟩ := lookIn_ns hns
      have l : List.lookup g [(g, v)] = some v := by simp [List.lookup]
      have hr' := hr g
      rw [l] at hr'
      obtain ⟨u, hu, ru⟩ := RelO.some_of (v := v) (o := mA g) hr'
      have IA : PySem.W.InstAt s1.heap a oe C (some od) := ⟨hget, k3.1, by unfold PySem.W.notCls; rw [k4] <;> rfl, by rw [k3.2]; exact ho⟩
      exact HandSPX.exc_get J1.kIn IA T1.ga T1.gg T1.exC (PySem.W.findObj_own T1.hdC hno rfl (by rw [hl, hu])) (handed_of ru) ⟨v, H1, J1.tok _, ru, h G H1 (Gr.refl sl.same) v rv⟩
    · rw [if_neg ht] at h; exact h.elim
  · exact h.elim
/-- c(e).f, the field that its init has just kept -/
theorem se_mkFld {c : String} {f : Str} (I0 : IniAt X.prog X.w X.K X.mg X.base c f) (I1 : FldAt X.K X.mg f (fun c' => c' == c)) (hr : Room 2 X.A) (he1 : SE X B W e ma) (hg : Gl X (Str.ofString c) := by rfl) (hdb : (Str.ofString c == ("__debug__" : Str)) = false := by decide)
    (he : starEach [e] X.env = (false, eval e X.env) :: starEach [] X.env := by rfl) (hpl : (backTo q (starEach [] X.env)).any (·.1) = false := by rfl)
    (hb : attributeBase (.Call (.Name (Str.ofString c) p1) [e] [] q) f X.env (eval (.Call (.Name (Str.ofString c) p1) [e] [] q) X.env) = eval (.Call (.Name (Str.ofString c) p1) [e] [] q) X.env := by rfl) :
    SE X B W (.Attribute (.Call (.Name (Str.ofString c) p1) [e] [] q) f pos) ma := by
  obtain ⟨C0, fI, fd, ps, hm, hO, hf, hi, ht, hbd, FI⟩ := I0.ex
  obtain ⟨T1, _⟩ := I1.ex c (by simp) C0 hm
  refine ⟨⟨fun pins s σ H Q J ⟨ρ, G, sl, h⟩ => ?_⟩⟩
  obtain ⟨nm, qn, N, bs, bm, sn, sub, ab, col, dd, k0, k1, k2, k3, k5, hC, hbm⟩ := id hO.cls
  refine attr_of hb (wpAny_Call_Name_kw (ld_glob J hg hm ?_ hdb))
  have pa := pa_cons he1.pe pa_nil he
  refine PySem.W.callWith_K (h₀ := X.base) J.ok.mod.kin hO.kC (L2.thn (pa.run q pins s σ H (fun vs H1 => ∃ v : V, vs = [v] ∧ ∃ (G1 : Hp) (d : D), Gr G H G1 H1 ∧ Rp X.K G1 v d ∧ ∀ G' H', Gr G1 H1 G' H' → ∀ v, Rp X.K G' v d → Q v H') J ⟨ρ, G, sl, ?_⟩) fun us s1 ⟨vs, H1, J1, r1, v, ev, G1, d, g1, rv, qv⟩ => ⟨J1.kIn, ?_⟩) he hpl
  · cases e1 : ma ρ with
    | ok d => rw [e1] at h; exact fun G1 H1 g1 v rv => ⟨v, rfl, G1, d, g1, rv, fun G' H' g' v' r' => h G' H' (g1.trans g') v' r'⟩
    | exc _ _ => rw [e1] at h; exact h
    | bad => rw [e1] at h; exact h
  subst ev
  obtain ⟨u, rfl, ru⟩ : ∃ u, us = [u] ∧ RelV v u := by
    cases r1 with
    | cons ra rr => cases rr; exact ⟨_, rfl, ra⟩
  show wpAny _ _ (PySem.call (.ref C0) [u]) _ _ _
  obtain ⟨hp, gs, dr, tk, os⟩ := s1
  have hsz : hp.objs.size ≤ hp.objs.size + 1 := Nat.le_succ _
  have hn : H1 (hp.objs.size + 1) = none := J1.hok.fresh hsz
  have kk : ∀ b o, hp.get? b = some o → ((hp.push (PySem.W.kdv_tup [u])).push (PySem.HandSPX.excO C0 hp.objs.size)).get? b = some o := fun b o e => Heap.get?_push_of_some _ (Heap.get?_push_of_some _ e)
  have hget : ((hp.push (PySem.W.kdv_tup [u])).push (PySem.HandSPX.excO C0 hp.objs.size)).get? (hp.objs.size + 1) = some (PySem.HandSPX.excO C0 hp.objs.size) := by heap_get
  have J2 : L2.Inv X pins σ (upd H1 (hp.objs.size + 1) (exo (hp.objs.size + 1) C0 none)) ⟨(hp.push (PySem.W.kdv_tup [u])).push (PySem.HandSPX.excO C0 hp.objs.size), gs, dr, tk, os⟩ :=
    J1.laid (t' := tk) (a := hp.objs.size + 1) (o := exo (hp.objs.size + 1) C0 none) (h' := (hp.push (PySem.W.kdv_tup [u])).push (PySem.HandSPX.excO C0 hp.objs.size)) kk hsz (exo_ok hget)
  have hk : PySem.W.keepIn X.K (.ref fI) = true ∨ True := .inr trivial
  have sp : spIni X.K f [.ref (hp.objs.size + 1), v] (upd H1 (hp.objs.size + 1) (exo (hp.objs.size + 1) C0 none)) (fun v' H2 => v' = .non ∧ ∃ dx, H2 = upd (upd (upd H1 (hp.objs.size + 1) (exo (hp.objs.size + 1) C0 none)) dx (exd dx [(f, v)])) (hp.objs.size + 1) (exo (hp.objs.size + 1) C0 (some dx)) ∧ H1 dx = none ∧ dx ≠ hp.objs.size + 1) (fun _ _ _ => False) :=
    ⟨_, C0, v, rfl, hO, hf, upd_same, fun dx h1 h2 => ⟨rfl, dx, rfl, by rw [upd_ne h2] at h1; exact h1, h2⟩⟩
  have hl : ([Value.ref (hp.objs.size + 1), u] ++ ([] : List Value)).length = ps.length := by
    have e := FI.len _ _ _ _ sp
    rw [← e]; rfl
  refine wpAny_call (PySem.HandSPX.call_own PySem.F.excBase_ValueError (fun Y => PySem.HandSPX.refsVE_contains Y bm hbm) (J1.kIn _ _ hC) (PySem.W.looks_findIn J1.kIn hi) (fun self => PySem.W.bind_fn J1.kIn self ht) (by rw [sizeLine_eq]; simp)
    (codeAny_mono (FI.run _ X.stack _ _ ⟨[Value.ref (hp.objs.size + 1), u], []⟩ [Value.ref (hp.objs.size + 1), u] _ _ (fun _ _ _ => False) (hr.make C0 [u] []) (J2.env0.make C0 [u] []) (by have := hbd _ [Value.ref (hp.objs.size + 1), u] J2.kIn hl; rw [List.append_nil] at this; exact this) (show Vals [V.ref (hp.objs.size + 1), v] [Value.ref (hp.objs.size + 1), u] from .cons rfl (.cons ru .nil)) sp) fun r s' hq' => ?_))
  cases r with
  | error er => exact hq'.elim
  | ok fl =>
    cases fl with
    | next => exact hq'.elim
    | brk => exact hq'.elim
    | cont => exact hq'.elim
    | ret u0 =>
      obtain ⟨v0, H2, os2, bare2, un2, hok2, rv0, ev0, dx, eH, hdx, hne⟩ := hq'
      subst ev0
      refine ⟨rv0, ?_⟩
      obtain ⟨h2, g2, d2, t2, os'⟩ := s'
      obtain rfl : os' = os := os2
      have J3 := J2.call (h' := h2) (g' := g2) (d' := d2) (t' := t2) (ch := []) un2 hok2 bare2 (fun b z => absurd z (by simp))
      have e2 : H2 = upd (upd H1 (hp.objs.size + 1) (exo (hp.objs.size + 1) C0 (some dx))) dx (exd dx [(f, v)]) := by
        rw [eH]
        funext b
        by_cases hb1 : b = dx
        · subst hb1; rw [upd_same, upd_ne hne, upd_same]
        · by_cases hb2 : b = hp.objs.size + 1
          · subst hb2; rw [upd_same, upd_ne hb1, upd_same]
          · rw [upd_ne hb2, upd_ne hb1, upd_ne hb2, upd_ne hb1, upd_ne hb2]
      have ea : H2 (hp.objs.size + 1) = some (exo (hp.objs.size + 1) C0 (some dx)) := by rw [eH, upd_same]
      have ed : H2 dx = some (exd dx [(f, v)]) := by rw [e2, upd_same]
      obtain ⟨t1, hoe⟩ := exo_at hok2 ea
      obtain ⟨mA, hns, rel⟩ := exd_at hok2 ed
      obtain ⟨od, ho, hlk⟩ := lookIn_ns hns
      have l : List.lookup f [(f, v)] = some v := by simp [List.lookup]
      have hr' := rel f
      rw [l] at hr'
      obtain ⟨u1, hu1, ru1⟩ := RelO.some_of (v := v) (o := mA f) hr'
      have IA : PySem.W.InstAt h2 (hp.objs.size + 1) _ C0 (some od) := ⟨hoe, rfl, rfl, ho⟩
      refine HandSPX.exc_get J3.kIn IA T1.ga T1.gg T1.exC (PySem.W.findObj_own T1.hdC hf rfl (by rw [hlk, hu1])) (handed_of ru1) ⟨v, H2, J3.tok _, ru1, ?_⟩
      have gr1 := Gr.own (o := exo (hp.objs.size + 1) C0 (some dx)) g1.gh hn
      have hdx2 : upd H1 (hp.objs.size + 1) (exo (hp.objs.size + 1) C0 (some dx)) dx = none := by rw [upd_ne hne]; exact hdx
      have gr2 := Gr.own (o := exd dx [(f, v)]) gr1.gh hdx2
      rw [e2]
      exact qv G1 _ (gr1.trans gr2) v rv
end
end Q

set_option maxHeartbeats 1000000
/-! # Qt: several except clauses, each with a name -/
namespace Q
open PySem L2
/-- a clause: its class, its name's slot, what its suite does -/
abbrev Cl := Value × Nat × (Addr → Value → Option Addr → TS)
/-- behind a suite the name goes -/
def offE (i : Nat) (D : Ends) : Ends := { nx := fun σ H => D.nx (σ.set i none) H, rt := D.rt, bk := fun σ H => D.bk (σ.set i none) H, ct := fun σ H => D.ct (σ.set i none) H }
def wMn (K : PySem.W.Frag) (W : WX) (D : Ends) : List Cl → WX
  | [] => W
  | (c, i, ts) :: r => fun cls d σ H => ∃ b, PySem.W.exmOne K cls c = some b ∧ (b = true → ∀ a, H a = none → ts a cls d (offE i D) (σ.set i (some (.ref a))) H) ∧ (b = false → wMn K W D r cls d σ H)
inductive ClsOk (X : Cx) : List ExceptHandler → List Cl → Prop
  | nil : ClsOk X [] []
  | cons {x n : Str} {c : Value} {i : Nat} {ts : Addr → Value → Option Addr → TS} {b₀ : Stmt} {ss : List Stmt} {q1 q2 : Pos} {hs : List ExceptHandler} {l : List Cl} (hc : Names X x c) (hi : X.N[i]? = some n) (hn : X.env.kindOf n = some .local)
      (hsu : ∀ (a : Addr) (oe : Obj) (cls : Value) (d : Option Addr) (pn : List (Addr × Obj)), Zc cls d oe → (∃ vs, oe.data = .fields vs) → PSs (X.suite a ((a, oe) :: pn)) (b₀ :: ss) (ts a cls d)) (r : ClsOk X hs l) : ClsOk X (.ExceptHandler (some (.Name x q1)) (some n) (b₀ :: ss) q2 :: hs) ((c, i, ts) :: l)
section
variable {X : Cx} {body : List Stmt} {h₀ : ExceptHandler} {hds : List ExceptHandler} {l : List Cl} {pos : Pos} {tb : WX → TS} {W : WX}
theorem ps_try_named (hs : X.stack = X.env :: X.outer) (hf : X.env.frame = some X.env.locals) (hN : X.N.Nodup) (tk : Takes X W)
    (hb : ∀ (W : WX) (pn : List (Addr × Obj)) (xe : Value → Shared → Prop), Takes (X.tr pn xe) W → PassesOwn (model X.prog X.w) X.A X.env xe → PSs (X.tr pn xe) body (tb W))
    (hh : ClsOk X (h₀ :: hds) l) : PS X (.Try body (h₀ :: hds) [] [] pos) (fun D σ H => tb (wMn X.K W D l) D σ H) := ⟨fun pins s σ H D I h => by
  have ok := I.ok
  have hfr : X.A.frames = some (X.env :: X.outer) := by rw [ok.frames, hs]
  refine wpAny_Try_except (wpAny_mono ((hb (wMn X.K W D l) (X.pn ++ pins) (fun e t => wpAny (model X.prog X.w) X.A (noteFrame e X.env) (fun _ t => wpAny (model X.prog X.w) X.A (setFlight e none) (fun _ t => wpAny (model X.prog X.w) X.A (handleBy e X.env (h₀ :: hds)) (L2.SP X pins D) X.xe t) X.xe t) X.xe t)
    (fun u s' xx => ?_) PassesOwn.looking).run [] s σ H D (I.toTry _) h) (fun f s1 hsp => ?_) (fun _ _ he => he))
  · obtain ⟨a, G0, sI, pins', σ', H', cls, d, rfl, J', nb, up, sky, na, os, ag, w⟩ := xx
    have J : L2.Inv X pins σ' H' sI := J'.ofTry ok
    have sky2 : Sky G0 (X.env :: X.outer) a (Zc cls d) X.env.locals s'.heap := by rw [← hs]; exact sky
    show wpAny (model X.prog X.w) X.A (noteFrame (.ref a) X.env) _ _ _
    refine Sky.land Zc.steady hfr hf sky2 fun h3 fl up3 => ?_
    have J3 : L2.Inv X pins σ' H' { s' with heap := h3 } := J.landed nb fl.1 (up.trans up3) os ag
    obtain ⟨o3, v3, ho3, hz3, hd3⟩ := fl.there
    have nfr : a ∉ frs (X.env :: X.outer) := fun hm => by
      obtain ⟨_, o', e', hnf⟩ := (fl.2.2.1).mem hm
      rw [ho3] at e'; cases e'; exact hnf _ hd3
    have nL : a ≠ X.env.locals := fun z => nfr (List.mem_filterMap.mpr ⟨X.env, List.mem_cons_self, by rw [hf, z]⟩)
    have nF : a ∉ X.fs := fun hm => by
      obtain ⟨e, he, q⟩ := List.mem_filterMap.mp hm; exact nfr (List.mem_filterMap.mpr ⟨e, List.mem_cons_of_mem _ he, q⟩)
    have S3 := J3.suite ho3 hd3 na nL nF
    have LT : PySem.W.Looks (model X.prog X.w) h3 (typeOf (.ref a)) cls := fun A Q E s k q => wpAny_typeOf_ref (k _ _ ho3) (by rw [hz3.1]; exact q)
    suffices go : ∀ {hs' : List ExceptHandler} {l' : List Cl}, ClsOk X hs' l' → wMn X.K W D l' cls d σ' H' → wpAny (model X.prog X.w) X.A (handleBy (.ref a) X.env hs') (L2.SP X pins D) X.xe { s' with heap := h3 } from go hh w
    intro hs' l' hk
    induction hk with
    | nil =>
      intro w
      obtain ⟨_, _, _, oe, vs, T, oT, ts', he, hz, hd, h1, hr⟩ := id fl
      refine wpAny_handleBy_nil ?_
      unfold PySem.passOn
      refine wpAny_bind (wpAny_field he hd h1 ?_)
      rw [if_neg (show ¬ ((Value.ref T == Value.none) = true) by simp)]
      have fin : wpAny (model X.prog X.w) X.A (setFlight (.ref a) X.env.frame) (fun _ t => wpAny (model X.prog X.w) X.A (throw (.ref a) : Sem Flow) (L2.SP X pins D) X.xe t) X.xe { s' with heap := h3 } := by
        rw [hf]
        refine HandSPX.setFlight_upZ fl fun h4 hh4 up4 => wpAny_throw (tk _ _ ⟨a, G0, sI, pins, σ', H', cls, d, rfl, J, nb, (up.trans up3).trans up4, .inr (.inr (by rw [hs]; exact hh4)), na, os, ag, w⟩)
      first | exact wpAny_bind (wpAny_pure (wpAny_bind fin)) | exact wpAny_bind fin
    | @cons x n c i ts b₀ ss q1 q2 hs2 l2 hc hi hn hsu r ih =>
      intro w
      obtain ⟨b, hb1, hyes, hno⟩ := w
      have LM := PySem.W.exm_one (M := model X.prog X.w) J3.kIn LT hb1
      have test : ∀ {Q E : Value → Shared → Prop}, Q c { s' with heap := h3 } → wpAny (model X.prog X.w) (X.A.mark (some (.ref a))) (eval (.Name x q1) X.env) Q E { s' with heap := h3 } := fun {Q E} q => by
        obtain ⟨hg, hdbg, hm | ⟨hm, hv, hnn⟩⟩ := hc
        · exact ld_glob (X := X.suite a ((a, o3) :: (X.pn ++ pins))) S3 hg hm q hdbg
        · exact ld_blt (X := X.suite a ((a, o3) :: (X.pn ++ pins))) S3 hg hm hv q hnn hdbg
      refine wpAny_handleBy_cons (codeAny_handlers_test (test (LM.here ?_))) (by intro q; cases q)
      cases b with
      | false => show wpAny _ X.A (handleBy (.ref a) X.env hs2) _ _ _; exact ih (hno rfl)
      | true =>
        refine codeAny_handlers_suite_as (HandSPX.lands_againZ fl fun h4 fl4 up4 => ?_)
        have J4 : L2.Inv X pins σ' H' { s' with heap := h4 } := J.landed nb fl4.1 ((up.trans up3).trans up4) os ag
        obtain ⟨o4, v4, ho4, hz4, hd4⟩ := fl4.there
        refine store_ok (X := X.suite a ((a, o4) :: (X.pn ++ pins))) (v := .ref a) (J4.suite ho4 hd4 na nL nF) hN hi (.inl hn) rfl (fun s5 S5 => ?_) (.inr hn)
        refine wpAny_mono ((hsu a o4 cls d (X.pn ++ pins) hz4 ⟨_, hd4⟩).run [] s5 _ H' _ S5 (hyes rfl a na)) (fun f s6 hsp => ?_) (fun _ _ z => z.elim)
        have fin : ∀ {σ6 : St} {H6 : Hp} {Q : Shared → Prop}, L2.Inv (X.suite a ((a, o4) :: (X.pn ++ pins))) [] σ6 H6 s6 → (∀ s7, L2.Inv X pins (σ6.set i none) H6 s7 → Q s7) → wpAny (model X.prog X.w) X.A (do bindName X.env n .none; unbindBehindTheSuite X.env n q2) (fun _ s7 => Q s7) X.xe s6 := fun S6 hq => gone_ok (S6.unsuite ok) hN hi hn hq
        cases f with
        | next => obtain ⟨_, _, S6, q6⟩ := hsp; exact fin S6 fun s7 J7 => ⟨_, _, J7, q6⟩
        | brk => obtain ⟨_, _, S6, q6⟩ := hsp; exact fin S6 fun s7 J7 => ⟨_, _, J7, q6⟩
        | cont => obtain ⟨_, _, S6, q6⟩ := hsp; exact fin S6 fun s7 J7 => ⟨_, _, J7, q6⟩
        | ret u => obtain ⟨_, _, _, S6, r6, q6⟩ := hsp; exact fin S6 fun s7 J7 => ⟨_, _, _, J7, r6, q6⟩
  · cases f with
    | next => obtain ⟨σ', H', J', q⟩ := hsp; exact wpAny_execs_nil ⟨σ', H', J'.ofTry ok, q⟩
    | brk => obtain ⟨σ', H', J', q⟩ := hsp; exact ⟨σ', H', J'.ofTry ok, q⟩
    | cont => obtain ⟨σ', H', J', q⟩ := hsp; exact ⟨σ', H', J'.ofTry ok, q⟩
    | ret u => obtain ⟨v, σ', H', J', r, q⟩ := hsp; exact ⟨v, σ', H', J'.ofTry ok, r, q⟩⟩
end
abbrev Mc := Nat × (String → Option Bool) × SM
def tryNs : List Mc → String → D → Env → Out
  | [], c, x, ρ => .exc c x ρ
  | (i, f, n) :: r, c, x, ρ => match f c with
    | some true => suiteM i n c x ρ
    | some false => tryNs r c x ρ
    | none => .bad
def tryN (l : List Mc) (m : SM) : SM := fun ρ => match m ρ with
  | .exc c x ρ' => tryNs l c x ρ'
  | o => o
inductive SCl (X : Cx) (B : Bs) : List ExceptHandler → List Mc → Prop
  | nil : SCl X B [] []
  | cons {c : String} {f : String → Option Bool} {i : Nat} {n0 : Str} {b₀ : Stmt} {ss : List Stmt} {n : SM} {q1 q2 : Pos} {hs : List ExceptHandler} {l : List Mc} (I : HndAt X.K X.mg c f) (hg : Gl X (Str.ofString c)) (hdb : (Str.ofString c == ("__debug__" : Str)) = false) (hi : X.N[i]? = some n0) (hn : X.env.kindOf n0 = some .local)
      (hsu : ∀ (a : Addr) (oe : Obj) (pn : List (Addr × Obj)) (c : String) (d : Option Addr), Hx (X.suite a ((a, oe) :: pn)) (B.hold a c d) → SSs (X.suite a ((a, oe) :: pn)) (B.hold a c d) W0 (b₀ :: ss) n) (r : SCl X B hs l) : SCl X B (.ExceptHandler (some (.Name (Str.ofString c) q1)) (some n0) (b₀ :: ss) q2 :: hs) ((i, f, n) :: l)
theorem scl_cons {X : Cx} {B : Bs} {c : String} {f : String → Option Bool} {n0 : Str} {b₀ : Stmt} {ss : List Stmt} {n : SM} {q1 q2 : Pos} {hs : List ExceptHandler} {l : List Mc} (i : Nat) (I : HndAt X.K X.mg c f)
    (hsu : ∀ (a : Addr) (oe : Obj) (pn : List (Addr × Obj)) (c : String) (d : Option Addr), Hx (X.suite a ((a, oe) :: pn)) (B.hold a c d) → SSs (X.suite a ((a, oe) :: pn)) (B.hold a c d) W0 (b₀ :: ss) n) (r : SCl X B hs l)
    (hg : Gl X (Str.ofString c) := by rfl) (hdb : (Str.ofString c == ("__debug__" : Str)) = false := by decide) (hi : X.N[i]? = some n0 := by rfl) (hn : X.env.kindOf n0 = some .local := by rfl) : SCl X B (.ExceptHandler (some (.Name (Str.ofString c) q1)) (some n0) (b₀ :: ss) q2 :: hs) ((i, f, n) :: l) := .cons I hg hdb hi hn hsu r
section
variable {X : Cx} {B : Bs} {W : WX}
theorem suite_t {D' : Ends} {i : Nat} {n : SM} {c' : String} {x : D} {ρ' : Env} {C' a : Addr} {dd : Option Addr} {G' H' : Hp} {σ' : St} (hm : X.mg (Str.ofString c') = some (.ref C')) (s' : Sl X.K B ρ' G' σ' H') (hd : Fld X.K G' dd x) (h : AfS (kx X B W) D' G' (suiteM i n c' x ρ')) :
    ∃ (c : String) (C : Addr), (Value.ref C' : Value) = .ref C ∧ X.mg (Str.ofString c) = some (.ref C) ∧ tSt ⟨X.K, X.mg, B.hold a c dd, W0⟩ n (offE i D') (σ'.set i (some (.ref a))) H' := by
  unfold suiteM at h
  by_cases hn : noFx ρ' = true
  · rw [if_pos hn] at h
    refine ⟨c', C', rfl, hm, ρ'.set i (.fx c' x), G', (s'.rehold (B' := B.hold a c' dd) hn rfl rfl).setX ⟨rfl, rfl, rfl⟩ hd i, ?_⟩
    cases e3 : n (ρ'.set i (.fx c' x)) with
    | nx ρ2 => rw [e3] at h; exact gone_t (k := kx X B W) (B' := B.hold a c' dd) (fo := .nx) (fun ρ h => h) h rfl rfl
    | bk ρ2 => rw [e3] at h; exact gone_t (k := kx X B W) (B' := B.hold a c' dd) (fo := .bk) (fun ρ h => h) h rfl rfl
    | ct ρ2 => rw [e3] at h; exact gone_t (k := kx X B W) (B' := B.hold a c' dd) (fo := .ct) (fun ρ h => h) h rfl rfl
    | rt d => rw [e3] at h; exact h
    | rl d => rw [e3] at h; exact h
    | exc c a ρ2 => rw [e3] at h; exact h.elim
    | bad => rw [e3] at h; exact h.elim
  · rw [if_neg hn] at h; exact h.elim
theorem SCl.ok {hds : List ExceptHandler} {l : List Mc} (h : SCl X B hds l) : ∃ L : List Cl, ClsOk X hds L ∧ ∀ (D' : Ends) (c : String) (x : D) (ρ : Env) (G H : Hp) (σ : St) (C : Addr) (dd : Option Addr), X.mg (Str.ofString c) = some (.ref C) → Fld X.K G dd x → Sl X.K B ρ G σ H → AfS (kx X B W) D' G (tryNs l c x ρ) → wMn X.K W D' L (.ref C) dd σ H := by
  induction h with
  | nil => exact ⟨[], .nil, fun D' c x ρ G H σ C dd hm hf s h => h _ dd σ G H s (Same.refl _) ⟨C, hm, rfl, hf⟩⟩
  | @cons c f i n0 b₀ ss n q1 q2 hs l I hg hdb hi hn hsu r ih =>
    obtain ⟨L, k1, k2⟩ := ih
    obtain ⟨CA, m1, m2⟩ := I.ex
    refine ⟨(.ref CA, i, fun a cls d => fun D' σ H => ∃ (c : String) (C : Addr), cls = .ref C ∧ X.mg (Str.ofString c) = some (.ref C) ∧ tSt ⟨X.K, X.mg, B.hold a c d, W0⟩ n D' σ H) :: L, .cons ⟨hg, hdb, .inl m1⟩ hi hn (fun a oe cls d pn hz hv => ⟨fun pins s σ H D' J ⟨c, C', e1, e2, h⟩ => ?_⟩) k1, ?_⟩
    · subst e1
      exact (hsu a oe pn c d fun a' c' d' ⟨z1, z2, z3⟩ => by subst z1 z2 z3; exact ⟨oe, C', e2, List.mem_cons_self, hz, hv⟩).ps.run pins s σ H D' J h
    · intro D' c' x ρ G H σ C dd hm hf s h
      unfold tryNs at h
      cases e2 : f c' with
      | none => rw [e2] at h; exact h.elim
      | some b =>
        rw [e2] at h
        refine ⟨b, m2 c' b e2 C hm, fun hb a _ => ?_, fun hb => ?_⟩
        · subst hb; exact suite_t hm s hf h
        · subst hb; exact k2 D' c' x ρ G H σ C dd hm hf s h
theorem ss_tryN {sts : List Stmt} {h₀ : ExceptHandler} {hds : List ExceptHandler} {l : List Mc} {m : SM} {pos : Pos} (C : Cxt X W) (hb : ∀ (W' : WX) (pn : List (Addr × Obj)) (xe : Value → Shared → Prop), Cxt (X.tr pn xe) W' → SSs (X.tr pn xe) B W' sts m) (hc : SCl X B (h₀ :: hds) l)
    (hs : X.stack = X.env :: X.outer := by rfl) (hf : X.env.frame = some X.env.locals := by rfl) : SS X B W (.Try sts (h₀ :: hds) [] [] pos) (tryN l m) := by
  obtain ⟨L, k1, k2⟩ := hc.ok (W := W)
  exact ⟨(ps_try_named (tb := fun W' => tSt ⟨X.K, X.mg, B, W'⟩ m) hs hf C.nd C.tk (fun W' pn xe tk po => (hb W' pn xe ⟨C.calm, C.nd, tk, po⟩).ps) k1).imp fun D' σ H ⟨ρ, G, s, h⟩ => by
    refine ⟨ρ, G, s, ?_⟩
    unfold tryN at h
    cases e : m ρ with
    | exc c' x ρ' =>
      rw [e] at h
      intro cls dd σ' G' H' s' q' xc
      obtain ⟨C', hm, rfl, hd⟩ := xc
      exact k2 D' c' x ρ' G' H' σ' C' dd hm hd s' (AfS.mono q' h)
    | nx ρ' => rw [e] at h; exact h
    | bk ρ' => rw [e] at h; exact h
    | ct ρ' => rw [e] at h; exact h
    | rt d => rw [e] at h; exact h
    | rl d => rw [e] at h; exact h
    | bad => rw [e] at h; exact h⟩
end
end Q

set_option maxHeartbeats 1000000
/-! # Qu: refusals reckoned -/
namespace Q
open PySem L2
@[simp] theorem isx_0 {T : String → Option Bool} {c : String} {x : D} {ρ : Env} : isx T 0 (.fx c x :: ρ) = R.of ((T c).map .bool) := rfl
@[simp] theorem isx_s {T : String → Option Bool} {i : Nat} {s : Slot} {ρ : Env} : isx T (i + 1) (s :: ρ) = isx T i ρ := by simp [isx]
def outX : RF → R D
  | .ok d => .ok d
  | .ol ds => .ok (.list ds)
  | _ => .bad
@[simp] theorem outX_ok (d) : outX (.ok d) = .ok d := rfl
@[simp] theorem outX_ol (d) : outX (.ol d) = .ok (.list d) := rfl
@[simp] theorem callx_0 {m : String → D → RF} {c : String} {x : D} {ρ : Env} : callx m 0 (.fx c x :: ρ) = outX (m c x) := rfl
@[simp] theorem callx_s {m : String → D → RF} {i : Nat} {s : Slot} {ρ : Env} : callx m (i + 1) (s :: ρ) = callx m i ρ := by simp [callx]
def tryO (i : Nat) (f : String → Option Bool) (n : SM) : Out → Out
  | .exc c x ρ' => (match f c with
    | some true => suiteM i n c x ρ'
    | some false => .exc c x ρ'
    | none => .bad)
  | o => o
@[simp] theorem ev_tryAs {i : Nat} {f : String → Option Bool} {m n : SM} {ρ : Env} : tryAs i f m n ρ = tryO i f n (m ρ) := by
  unfold tryAs tryO
  cases m ρ <;> rfl
@[simp] theorem tryO_nx {i : Nat} {f : String → Option Bool} {n : SM} {ρ : Env} : tryO i f n (.nx ρ) = .nx ρ := rfl
@[simp] theorem tryO_exc {i : Nat} {f : String → Option Bool} {n : SM} {c : String} {x : D} {ρ : Env} : tryO i f n (.exc c x ρ) = match f c with
    | some true => suiteM i n c x ρ
    | some false => .exc c x ρ
    | none => .bad := rfl
def goneO (i : Nat) : Out → Out
  | .nx ρ2 => gone i .nx ρ2
  | .bk ρ2 => gone i .bk ρ2
  | .ct ρ2 => gone i .ct ρ2
  | .rt d => .rt d
  | .rl ds => .rl ds
  | _ => .bad
@[simp] theorem ev_suiteM {i : Nat} {n : SM} {c : String} {x : D} {ρ : Env} : suiteM i n c x ρ = if noFx ρ = true then goneO i (n (ρ.set i (.fx c x))) else .bad := by
  unfold suiteM goneO
  split <;> rfl
@[simp] theorem goneO_nx {i : Nat} {ρ : Env} : goneO i (.nx ρ) = if noFx (ρ.set i .no) = true then .nx (ρ.set i .no) else .bad := rfl
@[simp] theorem goneO_rt {i : Nat} {d : D} : goneO i (.rt d) = .rt d := rfl
@[simp] theorem noFx_nil : noFx [] = true := rfl
@[simp] theorem noFx_dat {d : D} {ρ : Env} : noFx (.dat d :: ρ) = noFx ρ := rfl
@[simp] theorem noFx_no {ρ : Env} : noFx (.no :: ρ) = noFx ρ := rfl
@[simp] theorem noFx_ol {ds : List D} {ρ : Env} : noFx (.ol ds :: ρ) = noFx ρ := rfl
@[simp] theorem noFx_od {ds : List (D × D)} {ρ : Env} : noFx (.od ds :: ρ) = noFx ρ := rfl
@[simp] theorem fldx_s {T : String → Bool} {f : Str} {i : Nat} {s : Slot} {ρ : Env} : fldx T f (i + 1) (s :: ρ) = fldx T f i ρ := by simp [fldx]
@[simp] theorem fldx_0 {T : String → Bool} {f g : Str} {c : String} {d : D} {ρ : Env} : fldx T f 0 (.fx c (.tuple [.str g, d]) :: ρ) = if T c = true ∧ g = f then .ok d else .bad := rfl
@[simp] theorem ev_rse {c : String} {ρ : Env} : rse c ρ = .exc c .none ρ := rfl
@[simp] theorem ev_rseF {c : String} {f : Str} {m : Env → R D} {ρ : Env} : rseF c f m ρ = (m ρ).go ρ fun d => .exc c (.tuple [.str f, d]) ρ := rfl
def tryMo (f : String → Option Bool) (n : SM) : Out → Out
  | .exc c a ρ' => (match f c with
    | some true => (match n ρ' with
      | .exc _ _ _ => .bad
      | o => o)
    | some false => .exc c a ρ'
    | none => .bad)
  | o => o
@[simp] theorem ev_tryM {f : String → Option Bool} {m n : SM} {ρ : Env} : tryM f m n ρ = tryMo f n (m ρ) := by
  unfold tryM tryMo
  cases m ρ <;> rfl
@[simp] theorem tryMo_nx {f : String → Option Bool} {n : SM} {ρ : Env} : tryMo f n (.nx ρ) = .nx ρ := rfl
theorem tryMo_exc {f : String → Option Bool} {n : SM} {c : String} {a : D} {ρ : Env} (h : f c = some true) : tryMo f n (.exc c a ρ) = match n ρ with
    | .exc _ _ _ => .bad
    | o => o := by simp only [tryMo, h]
def tryNo (l : List Mc) : Out → Out
  | .exc c x ρ' => tryNs l c x ρ'
  | o => o
@[simp] theorem ev_tryN {l : List Mc} {m : SM} {ρ : Env} : tryN l m ρ = tryNo l (m ρ) := by
  unfold tryN tryNo
  cases m ρ <;> rfl
@[simp] theorem tryNo_nx {l : List Mc} {ρ : Env} : tryNo l (.nx ρ) = .nx ρ := rfl
@[simp] theorem tryNo_exc {l : List Mc} {c : String} {x : D} {ρ : Env} : tryNo l (.exc c x ρ) = tryNs l c x ρ := rfl
@[simp] theorem ev_slcT {m : Env → R D} {l h : Env → R (Option Int)} {ρ : Env} : slcT m l h ρ = (m ρ).bind fun d => (l ρ).bind fun lo => (h ρ).bind fun hi => match d with
  | .tuple ds => .ok (.tuple (cutD ds lo hi))
  | _ => .bad := rfl
@[simp] theorem dEq_bool (a b : Bool) : dEq (.bool a) (.bool b) = some (a == b) := by
  have h : ∀ i : Bool, SeqAt.shaped (.bool i) = true := fun i => by simp [SeqAt.shaped, PyData.canLay0, PyData.depth]
  have e : dEq (.bool a) (.bool b) = if SeqAt.shaped (.bool a) = true ∧ SeqAt.shaped (.bool b) = true then some (PyData.eqv (.bool a) (.bool b)) else none := rfl
  rw [e, if_pos ⟨h a, h b⟩]
  simp only [PyData.eqv]
end Q

set_option maxHeartbeats 1000000
/-! # Qv: planes read from signs -/
namespace Q
open PySem L2 TL SX
abbrev Pl := (Int × Int) × (Int × Int)
def dig8 : List Nat → Option Int
  | [c] => if 48 ≤ c ∧ c ≤ 56 then some ((c - 48 : Nat) : Int) else none
  | _ => none
def planeW : List (List Nat) → Option Pl
  | [a, b, c] => (dig8 a).bind fun i => (dig8 b).bind fun j => (num c).map fun h => ((i, j), h)
  | _ => none
def planeS (l : List Nat) : Option Pl := planeW (spl [32] 0 [] l)
/-- the planes, or the place of the first part that is none -/
def rd : Nat → List (List Nat) → Except Nat (List Pl)
  | _, [] => .ok []
  | k, p :: r => match planeS p with
    | none => .error k
    | some x => match rd (k + 1) r with
      | .error j => .error j
      | .ok xs => .ok (x :: xs)
theorem dig8_some {a : List Nat} {i : Int} (h : dig8 a = some i) : ∃ c, a = [c] ∧ 48 ≤ c ∧ c ≤ 56 ∧ i = ((c - 48 : Nat) : Int) := by
  unfold dig8 at h
  split at h
  · rename_i c
    split at h
    · rename_i hc; cases h; exact ⟨c, rfl, hc.1, hc.2, rfl⟩
    · cases h
  · cases h
structure Pok (p : Pl) : Prop where
  i0 : 0 ≤ p.1.1
  i8 : p.1.1 ≤ 8
  j0 : 0 ≤ p.1.2
  j8 : p.1.2 ≤ 8
  fr : Fr p.2
theorem planeS_ok {l : List Nat} {p : Pl} (h : planeS l = some p) : Pok p := by
  unfold planeS planeW at h
  split at h
  · rename_i a b c e
    rw [Option.bind_eq_some_iff] at h
    obtain ⟨i, hi, h⟩ := h
    rw [Option.bind_eq_some_iff] at h
    obtain ⟨j, hj, h⟩ := h
    rw [Option.map_eq_some_iff] at h
    obtain ⟨x, hx, rfl⟩ := h
    obtain ⟨c1, _, h1, h2, rfl⟩ := dig8_some hi
    obtain ⟨c2, _, h3, h4, rfl⟩ := dig8_some hj
    exact ⟨by show 0 ≤ ((c1 - 48 : Nat) : Int); omega, by show ((c1 - 48 : Nat) : Int) ≤ 8; omega, by show 0 ≤ ((c2 - 48 : Nat) : Int); omega, by show ((c2 - 48 : Nat) : Int) ≤ 8; omega, num_fr hx⟩
  · cases h
theorem rd_ok : ∀ {ps : List (List Nat)} {k : Nat} {xs : List Pl}, rd k ps = .ok xs → (∀ x ∈ xs, Pok x) ∧ xs.length = ps.length
  | [], k, xs, h => by cases h; simp
  | p :: r, k, xs, h => by
    unfold rd at h
    cases hp : planeS p with
    | none => rw [hp] at h; cases h
    | some x =>
      rw [hp] at h
      cases hr : rd (k + 1) r with
      | error j => rw [hr] at h; cases h
      | ok ys =>
        rw [hr] at h
        cases h
        obtain ⟨h1, h2⟩ := rd_ok hr
        exact ⟨fun y hy => by
          rcases List.mem_cons.mp hy with e | hy
          · subst e; exact planeS_ok hp
          · exact h1 y hy, by simp [h2]⟩
end Q

set_option maxHeartbeats 4000000
namespace G
open PySem L2 Q
def it_NoRoof : String → Option Bool := fun c => if c = "NoFraction" then some false else if c = "NoRoof" then some true else if c = "TooSteep" then some false else if c = "TooMany" then some false else if c = "NoNumber" then some false else if c = "NoText" then some false else none
def it_NoFraction : String → Option Bool := fun c => if c = "NoFraction" then some true else if c = "NoRoof" then some false else if c = "TooSteep" then some false else if c = "TooMany" then some false else if c = "NoNumber" then some false else if c = "NoText" then some false else none
def it_ValueError : String → Option Bool := fun c => if c = "NoFraction" then some true else if c = "NoRoof" then some true else if c = "TooSteep" then some true else if c = "TooMany" then some true else if c = "NoNumber" then some true else if c = "NoText" then some true else none
def it_NoNumber : String → Option Bool := fun c => if c = "NoFraction" then some false else if c = "NoRoof" then some false else if c = "TooSteep" then some false else if c = "TooMany" then some false else if c = "NoNumber" then some true else if c = "NoText" then some false else none
def it_TooMany : String → Option Bool := fun c => if c = "NoFraction" then some false else if c = "NoRoof" then some false else if c = "TooSteep" then some false else if c = "TooMany" then some true else if c = "NoNumber" then some false else if c = "NoText" then some false else none
def it_TooSteep : String → Option Bool := fun c => if c = "NoFraction" then some false else if c = "NoRoof" then some false else if c = "TooSteep" then some true else if c = "TooMany" then some false else if c = "NoNumber" then some false else if c = "NoText" then some false else none
def it_NoRow : String → Option Bool := fun c => if c = "NoFraction" then some false else if c = "NoRoof" then some false else if c = "TooSteep" then some false else if c = "TooMany" then some false else if c = "NoNumber" then some false else if c = "NoText" then some false else none
def it_NoDealing : String → Option Bool := fun c => if c = "NoFraction" then some false else if c = "NoRoof" then some false else if c = "TooSteep" then some false else if c = "TooMany" then some false else if c = "NoNumber" then some false else if c = "NoText" then some false else none
def it_NoCorner : String → Option Bool := fun c => if c = "NoFraction" then some false else if c = "NoRoof" then some false else if c = "TooSteep" then some false else if c = "TooMany" then some false else if c = "NoNumber" then some false else if c = "NoText" then some false else none
def it_NoName : String → Option Bool := fun c => if c = "NoFraction" then some false else if c = "NoRoof" then some false else if c = "TooSteep" then some false else if c = "TooMany" then some false else if c = "NoNumber" then some false else if c = "NoText" then some false else none
def it_NoText : String → Option Bool := fun c => if c = "NoFraction" then some false else if c = "NoRoof" then some false else if c = "TooSteep" then some false else if c = "TooMany" then some false else if c = "NoNumber" then some false else if c = "NoText" then some true else none
def it_RoofError : String → Option Bool := fun c => if c = "NoFraction" then some true else if c = "NoRoof" then some true else if c = "TooSteep" then some true else if c = "TooMany" then some true else if c = "NoNumber" then some true else if c = "NoText" then some true else none
def mb_divisor : SM := seq (setB 0 (bc dAbs (acons (v 0) anil))) (seq (setB 1 (bc dAbs (acons (v 1) anil))) (seq (wh (Q.fuel 1) (tst (ne (v 1) (k (.int 0)))) (seq (setB 2 (mod (v 0) (v 1))) (seq (setB 0 (v 1)) (setB 1 (v 2))))) (ret (v 0))))
def m_divisor : List D → RF := runD 3 mb_divisor
theorem q_divisor (a0 a1 : D) : m_divisor [a0, a1] = outF (mb_divisor [.dat a0, .dat a1, .no]) := runD_eq _ _ _
def mb_fraction : SM := seq (ite (tst (eq (v 1) (k (.int 0)))) (rse "NoFraction") pass) (seq (setB 2 (call m_divisor (argsN 2 (acons (v 0) (acons (v 1) anil))))) (seq (ite (tst (lt (v 1) (k (.int 0)))) (setB 2 (neg (v 2))) pass) (ret (etup (acons (div (v 0) (v 2)) (acons (div (v 1) (v 2)) anil))))))
def m_fraction : List D → RF := runD 3 mb_fraction
theorem q_fraction (a0 a1 : D) : m_fraction [a0, a1] = outF (mb_fraction [.dat a0, .dat a1, .no]) := runD_eq _ _ _
def mb_less : SM := ret (lt (mul (ix (v 0) (k (.int 0))) (ix (v 1) (k (.int 1)))) (mul (ix (v 1) (k (.int 0))) (ix (v 0) (k (.int 1)))))
def m_less : List D → RF := runD 2 mb_less
theorem q_less (a0 a1 : D) : m_less [a0, a1] = outF (mb_less [.dat a0, .dat a1]) := runD_eq _ _ _
def mb_roof_of : SM := seq (ite (tst (eq (bc dLen (acons (v 0) anil)) (k (.int 0)))) (rse "NoRoof") pass) (seq (setD 1) (seq (each (iv asL (v 0)) (bT 3 (bsC (bN 2) (bsC (bN 3) (bsC (bN 4) bsN)))) (seq (ite (tor (tst (lt (v 2) (k (.int 0)))) (tor (tst (gt (v 2) (k (.int 8)))) (tor (tst (lt (v 3) (k (.int 0)))) (tst (gt (v 3) (k (.int 8))))))) (rse "TooSteep") pass) (ite (pkT 1 (tor (tst (notin (etup (acons (v 2) (acons (v 3) anil))) (v 1))) (tst (call m_less (argsN 2 (acons (ix (v 1) (etup (acons (v 2) (acons (v 3) anil)))) (acons (v 4) anil))))))) (putD 1 (etup (acons (v 2) (acons (v 3) anil))) (v 4)) pass))) (seq (fz 1 (ite (tst (gt (bc dLen (acons (v 1) anil)) (k (.int 16)))) (rse "TooMany") pass)) (fz 1 (retO (lc (iv asL (elst (bcO dSort (acons (v 1) anil)))) [5] (bN 5) tyes (etup (acons (ix (v 5) (k (.int 0))) (acons (ix (v 5) (k (.int 1))) (acons (ix (v 1) (v 5)) anil))))))))))
def m_roof_of : List D → RF := runD 6 mb_roof_of
theorem q_roof_of (a0 : D) : m_roof_of [a0] = outF (mb_roof_of [.dat a0, .no, .no, .no, .no, .no]) := runD_eq _ _ _
def mb_whole_of : SM := seq (ite (tor (tst (eq (bc dLen (acons (v 0) anil)) (k (.int 0)))) (tst (gt (bc dLen (acons (v 0) anil)) (k (.int 30))))) (rse "NoNumber") pass) (seq (each (iv asS (v 0)) (bN 1) (ite (tst (notin (v 1) (k (.str "0123456789")))) (rse "NoNumber") pass)) (seq (ite (tand (tst (eq (ix (v 0) (k (.int 0))) (k (.str "0")))) (tst (gt (bc dLen (acons (v 0) anil)) (k (.int 1))))) (rse "NoNumber") pass) (ret (bc dInt (acons (v 0) anil)))))
def m_whole_of : List D → RF := runD 2 mb_whole_of
theorem q_whole_of (a0 : D) : m_whole_of [a0] = outF (mb_whole_of [.dat a0, .no]) := runD_eq _ _ _
def mb_top_of : SM := seq (ite (tst (ne (slc (v 0) pn (ps (k (.int 1)))) (k (.str "-")))) (ret (call m_whole_of (argsN 1 (acons (v 0) anil)))) pass) (seq (setB 1 (call m_whole_of (argsN 1 (acons (slc (v 0) (ps (k (.int 1))) pn) anil)))) (seq (ite (tst (eq (v 1) (k (.int 0)))) (rse "NoNumber") pass) (ret (neg (v 1)))))
def m_top_of : List D → RF := runD 2 mb_top_of
theorem q_top_of (a0 : D) : m_top_of [a0] = outF (mb_top_of [.dat a0, .no]) := runD_eq _ _ _
def mb_number_of : SM := seq (ite (tnot (tst (isi "str" (v 0)))) (rse "NoNumber") pass) (seq (setB 1 (elst (strMO fSplit (v 0) (k (.str "/"))))) (seq (ite (tst (gt (bc dLen (acons (v 1) anil)) (k (.int 2)))) (rse "NoNumber") pass) (seq (setB 2 (call m_top_of (argsN 1 (acons (ix (v 1) (k (.int 0))) anil)))) (seq (ite (tst (eq (bc dLen (acons (v 1) anil)) (k (.int 1)))) (ret (etup (acons (v 2) (acons (k (.int 1)) anil)))) pass) (seq (setB 3 (call m_whole_of (argsN 1 (acons (ix (v 1) (k (.int 1))) anil)))) (seq (ite (tor (tst (lt (v 3) (k (.int 2)))) (tst (ne (call m_fraction (argsN 2 (acons (v 2) (acons (v 3) anil)))) (etup (acons (v 2) (acons (v 3) anil)))))) (rse "NoNumber") pass) (ret (etup (acons (v 2) (acons (v 3) anil))))))))))
def m_number_of : List D → RF := runD 4 mb_number_of
theorem q_number_of (a0 : D) : m_number_of [a0] = outF (mb_number_of [.dat a0, .no, .no, .no]) := runD_eq _ _ _
def mb_is_step : SM := ret (eand (eq (bc dLen (acons (v 0) anil)) (k (.int 1))) (isin (v 0) (k (.str "012345678"))))
def m_is_step : List D → RF := runD 1 mb_is_step
theorem q_is_step (a0 : D) : m_is_step [a0] = outF (mb_is_step [.dat a0]) := runD_eq _ _ _
def mb_plane_of : SM := seq (setB 1 (elst (strMO fSplit (v 0) (k (.str " "))))) (seq (ite (tor (tst (ne (bc dLen (acons (v 1) anil)) (k (.int 3)))) (tor (tnot (tst (call m_is_step (argsN 1 (acons (ix (v 1) (k (.int 0))) anil))))) (tnot (tst (call m_is_step (argsN 1 (acons (ix (v 1) (k (.int 1))) anil))))))) (ret (k .none)) pass) (seq (setB 2 (k .none)) (seq (tryM it_NoNumber (setB 2 (call m_number_of (argsN 1 (acons (ix (v 1) (k (.int 2))) anil)))) (ret (k .none))) (ret (etup (acons (bc dInt (acons (ix (v 1) (k (.int 0))) anil)) (acons (bc dInt (acons (ix (v 1) (k (.int 1))) anil)) (acons (v 2) anil))))))))
def m_plane_of : List D → RF := runD 3 mb_plane_of
theorem q_plane_of (a0 : D) : m_plane_of [a0] = outF (mb_plane_of [.dat a0, .no, .no]) := runD_eq _ _ _
def mb_read : SM := seq (ite (tnot (tst (isi "str" (v 0)))) (rseF "NoText" "at" (neg (k (.int 1)))) pass) (seq (setO 1 (olst anil)) (seq (each (ivA asE (acons (elst (strMO fSplit (v 0) (k (.str "; ")))) anil)) (bT 2 (bsC (bN 2) (bsC (bN 3) bsN))) (seq (setB 4 (call m_plane_of (argsN 1 (acons (v 3) anil)))) (seq (ite (tst (isn (v 4) (k .none))) (rseF "NoText" "at" (v 2)) pass) (app 1 (v 4))))) (fz 1 (ret (call m_roof_of (argsN 1 (acons (v 1) anil)))))))
def m_read : List D → RF := runD 5 mb_read
theorem q_read (a0 : D) : m_read [a0] = outF (mb_read [.dat a0, .no, .no, .no, .no]) := runD_eq _ _ _
def mb__law_cell_at : SM := seq (setB 2 (k (.int 0))) (seq (ite (tst (lt (v 1) (bc dLen (acons (v 0) anil)))) (setB 2 (mod (ix (v 0) (v 1)) (pow (k (.int 10)) (k (.int 60))))) pass) (ret (add (mul (v 2) (k (.int 1000003))) (mod (mul (mod (mul (add (add (add (v 2) (mul (mul (k (.int 7)) (v 1)) (v 1))) (mul (k (.int 13)) (v 1))) (k (.int 5))) (k (.int 48271))) (k (.int 2147483647))) (k (.int 69621))) (k (.int 1000000007))))))
def m__law_cell_at : List D → RF := runD 3 mb__law_cell_at
theorem q__law_cell_at (a0 a1 : D) : m__law_cell_at [a0, a1] = outF (mb__law_cell_at [.dat a0, .dat a1, .no]) := runD_eq _ _ _
def mb__law_cells : SM := retO (lc (ivA asR2 (acons (v 1) (acons (bc dMin2 (acons (v 2) (acons (bc dLen (acons (v 0) anil)) anil))) anil))) [3] (bN 3) tyes (call m__law_cell_at (argsN 2 (acons (v 0) (acons (v 3) anil)))))
def m__law_cells : List D → RF := runD 4 mb__law_cells
theorem q__law_cells (a0 a1 a2 : D) : m__law_cells [a0, a1, a2] = outF (mb__law_cells [.dat a0, .dat a1, .dat a2, .no]) := runD_eq _ _ _
def mb__law_whole : SM := ret (eand (isi "int" (v 0)) (enot (isi "bool" (v 0))))
def m__law_whole : List D → RF := runD 1 mb__law_whole
theorem q__law_whole (a0 : D) : m__law_whole [a0] = outF (mb__law_whole [.dat a0]) := runD_eq _ _ _
def mb__law_divisor : SM := seq (setB 0 (bc dAbs (acons (v 0) anil))) (seq (setB 1 (bc dAbs (acons (v 1) anil))) (seq (wh (Q.fuel 1) (tst (gt (v 1) (k (.int 0)))) (seq (setB 2 (mod (v 0) (v 1))) (seq (setB 0 (v 1)) (setB 1 (v 2))))) (ret (v 0))))
def m__law_divisor : List D → RF := runD 3 mb__law_divisor
theorem q__law_divisor (a0 a1 : D) : m__law_divisor [a0, a1] = outF (mb__law_divisor [.dat a0, .dat a1, .no]) := runD_eq _ _ _
def mb__law_fraction : SM := seq (setB 2 (call m__law_divisor (argsN 2 (acons (v 0) (acons (v 1) anil))))) (ret (etup (acons (div (v 0) (v 2)) (acons (div (v 1) (v 2)) anil))))
def m__law_fraction : List D → RF := runD 3 mb__law_fraction
theorem q__law_fraction (a0 a1 : D) : m__law_fraction [a0, a1] = outF (mb__law_fraction [.dat a0, .dat a1, .no]) := runD_eq _ _ _
def mb__law_is_fraction : SM := seq (ite (tor (tnot (tst (isi "tuple" (v 0)))) (tst (ne (bc dLen (acons (v 0) anil)) (k (.int 2))))) (ret (k (.bool false))) pass) (seq (ite (tor (tnot (tst (call m__law_whole (argsN 1 (acons (ix (v 0) (k (.int 0))) anil))))) (tor (tnot (tst (call m__law_whole (argsN 1 (acons (ix (v 0) (k (.int 1))) anil))))) (tst (lt (ix (v 0) (k (.int 1))) (k (.int 1)))))) (ret (k (.bool false))) pass) (ret (eq (call m__law_divisor (argsN 2 (acons (ix (v 0) (k (.int 0))) (acons (ix (v 0) (k (.int 1))) anil)))) (k (.int 1)))))
def m__law_is_fraction : List D → RF := runD 1 mb__law_is_fraction
theorem q__law_is_fraction (a0 : D) : m__law_is_fraction [a0] = outF (mb__law_is_fraction [.dat a0]) := runD_eq _ _ _
def mb__law_below : SM := ret (lt (mul (ix (v 0) (k (.int 0))) (ix (v 1) (k (.int 1)))) (mul (ix (v 1) (k (.int 0))) (ix (v 0) (k (.int 1)))))
def m__law_below : List D → RF := runD 2 mb__law_below
theorem q__law_below (a0 a1 : D) : m__law_below [a0, a1] = outF (mb__law_below [.dat a0, .dat a1]) := runD_eq _ _ _
def mb__law_marks : SM := seq (setB 1 (elst (olst (acons (isx it_ValueError 0) (acons (isx it_NoFraction 0) (acons (isx it_NoRoof 0) anil)))))) (seq (setB 1 (add (v 1) (elst (olst (acons (isx it_TooSteep 0) (acons (isx it_TooMany 0) (acons (isx it_NoNumber 0) anil))))))) (seq (setB 1 (add (v 1) (elst (olst (acons (isx it_NoCorner 0) (acons (isx it_NoDealing 0) (acons (isx it_NoRow 0) anil))))))) (ret (add (v 1) (elst (olst (acons (isx it_NoText 0) (acons (isx it_NoName 0) anil))))))))
def m__law_marks : String → D → RF := fun c x => outF (mb__law_marks (.fx c x :: List.replicate (2 - 1) .no))
theorem q__law_marks (c : String) (x : D) : m__law_marks c x = outF (mb__law_marks [.fx c x, .no]) := rfl
def mb__law_only : SM := retO (lc (ivA asR1 (acons (k (.int 11)) anil)) [1] (bN 1) tyes (isin (v 1) (etup (acons (k (.int 0)) (acons (v 0) anil)))))
def m__law_only : List D → RF := runD 2 mb__law_only
theorem q__law_only (a0 : D) : m__law_only [a0] = outF (mb__law_only [.dat a0, .no]) := runD_eq _ _ _
def mb__law_number_by : SM := seq (setB 2 (mod (v 0) (pow (k (.int 10)) (k (.int 60))))) (seq (ite (tst (eq (mod (v 1) (k (.int 3))) (k (.int 0)))) (ret (etup (acons (sub (mod (v 2) (k (.int 7))) (k (.int 3))) (acons (k (.int 1)) anil)))) pass) (seq (ite (tst (eq (mod (v 1) (k (.int 3))) (k (.int 1)))) (ret (call m__law_fraction (argsN 2 (acons (sub (mod (v 2) (k (.int 41))) (k (.int 20))) (acons (add (k (.int 1)) (mod (div (v 2) (k (.int 41))) (k (.int 12)))) anil))))) pass) (seq (setB 3 (add (k (.int 1)) (mod (mul (v 2) (k (.int 48271))) (pow (k (.int 10)) (k (.int 29)))))) (ret (call m__law_fraction (argsN 2 (acons (sub (mod (mul (v 2) (pow (k (.int 1000003)) (k (.int 4)))) (add (mul (k (.int 2)) (pow (k (.int 10)) (k (.int 29)))) (k (.int 1)))) (pow (k (.int 10)) (k (.int 29)))) (acons (v 3) anil))))))))
def m__law_number_by : List D → RF := runD 4 mb__law_number_by
theorem q__law_number_by (a0 a1 : D) : m__law_number_by [a0, a1] = outF (mb__law_number_by [.dat a0, .dat a1, .no, .no]) := runD_eq _ _ _
def mb__law_number_text : SM := seq (ite (tst (eq (ix (v 0) (k (.int 1))) (k (.int 1)))) (ret (bc dStr (acons (ix (v 0) (k (.int 0))) anil))) pass) (ret (add (add (bc dStr (acons (ix (v 0) (k (.int 0))) anil)) (k (.str "/"))) (bc dStr (acons (ix (v 0) (k (.int 1))) anil))))
def m__law_number_text : List D → RF := runD 1 mb__law_number_text
theorem q__law_number_text (a0 : D) : m__law_number_text [a0] = outF (mb__law_number_text [.dat a0]) := runD_eq _ _ _
def mb__law_figures : SM := seq (ite (tor (tst (eq (bc dLen (acons (v 0) anil)) (k (.int 0)))) (tor (tst (gt (bc dLen (acons (v 0) anil)) (k (.int 30)))) (tand (tst (eq (ix (v 0) (k (.int 0))) (k (.str "0")))) (tst (gt (bc dLen (acons (v 0) anil)) (k (.int 1))))))) (ret (k .none)) pass) (seq (setB 1 (k (.int 0))) (seq (each (iv asS (v 0)) (bN 2) (seq (ite (tst (notin (v 2) (k (.str "0123456789")))) (ret (k .none)) pass) (setB 1 (add (mul (v 1) (k (.int 10))) (strM fIndex (k (.str "0123456789")) (v 2)))))) (ret (v 1))))
def m__law_figures : List D → RF := runD 3 mb__law_figures
theorem q__law_figures (a0 : D) : m__law_figures [a0] = outF (mb__law_figures [.dat a0, .no, .no]) := runD_eq _ _ _
def mb__law_number : SM := seq (setB 1 (eq (slc (v 0) pn (ps (k (.int 1)))) (k (.str "-")))) (seq (setB 2 (elst (strMO fSplit (slc (v 0) (ps (bc dInt (acons (v 1) anil))) pn) (k (.str "/"))))) (seq (ite (tst (gt (bc dLen (acons (v 2) anil)) (k (.int 2)))) (ret (k .none)) pass) (seq (setB 3 (call m__law_figures (argsN 1 (acons (ix (v 2) (k (.int 0))) anil)))) (seq (setB 4 (k (.int 1))) (seq (ite (tst (eq (bc dLen (acons (v 2) anil)) (k (.int 2)))) (setB 4 (call m__law_figures (argsN 1 (acons (ix (v 2) (k (.int 1))) anil)))) pass) (seq (ite (tor (tst (isn (v 3) (k .none))) (tor (tst (isn (v 4) (k .none))) (tand (tst (v 1)) (tst (eq (v 3) (k (.int 0))))))) (ret (k .none)) pass) (seq (ite (tand (tst (eq (bc dLen (acons (v 2) anil)) (k (.int 2)))) (tor (tst (lt (v 4) (k (.int 2)))) (tst (ne (call m__law_divisor (argsN 2 (acons (v 3) (acons (v 4) anil)))) (k (.int 1)))))) (ret (k .none)) pass) (seq (ite (tst (v 1)) (setB 3 (sub (k (.int 0)) (v 3))) pass) (ret (etup (acons (v 3) (acons (v 4) anil))))))))))))
def m__law_number : List D → RF := runD 5 mb__law_number
theorem q__law_number (a0 : D) : m__law_number [a0] = outF (mb__law_number [.dat a0, .no, .no, .no, .no]) := runD_eq _ _ _
def mb__law_sign_by : SM := seq (setB 1 (k (.str " !\"#$&'()*+,-./0123456789:;<=>?@ABCDEFGHIJKLMNOPQRSTUVWXYZ[\\]^_`"))) (seq (setB 1 (add (v 1) (k (.str "abcdefghijklmnopqrstuvwxyz{|}~")))) (ret (ix (v 1) (mod (v 0) (bc dLen (acons (v 1) anil))))))
def m__law_sign_by : List D → RF := runD 2 mb__law_sign_by
theorem q__law_sign_by (a0 : D) : m__law_sign_by [a0] = outF (mb__law_sign_by [.dat a0, .no]) := runD_eq _ _ _
def mb__law_changed : SM := seq (setB 3 (mod (v 2) (add (bc dLen (acons (v 0) anil)) (k (.int 1))))) (seq (setB 4 (call m__law_sign_by (argsN 1 (acons (div (v 2) (k (.int 1009))) anil)))) (seq (ite (tst (eq (mod (v 1) (k (.int 4))) (k (.int 1)))) (setB 4 (ix (k (.str "0123456789-/ ;")) (mod (div (v 2) (k (.int 1009))) (k (.int 14))))) pass) (seq (ite (tst (lt (mod (v 1) (k (.int 4))) (k (.int 2)))) (ret (add (add (slc (v 0) pn (ps (v 3))) (v 4)) (slc (v 0) (ps (v 3)) pn))) pass) (seq (ite (tst (eq (mod (v 1) (k (.int 4))) (k (.int 2)))) (ret (add (slc (v 0) pn (ps (v 3))) (slc (v 0) (ps (add (v 3) (k (.int 1)))) pn))) pass) (ret (add (add (slc (v 0) pn (ps (v 3))) (v 4)) (slc (v 0) (ps (add (v 3) (k (.int 1)))) pn)))))))
def m__law_changed : List D → RF := runD 5 mb__law_changed
theorem q__law_changed (a0 a1 a2 : D) : m__law_changed [a0, a1, a2] = outF (mb__law_changed [.dat a0, .dat a1, .dat a2, .no, .no]) := runD_eq _ _ _
def mb__law_text_by : SM := seq (setO 2 (olst anil)) (seq (each (iv asL (call m__law_cells (argsN 3 (acons (v 0) (acons (k (.int 3)) (acons (k (.int 23)) anil)))))) (bN 3) (seq (setB 4 (mod (v 3) (pow (k (.int 10)) (k (.int 60))))) (seq (setB 5 (call m__law_number_text (argsN 1 (acons (call m__law_number_by (argsN 2 (acons (div (v 4) (k (.int 81))) (acons (v 1) anil)))) anil)))) (app 2 (add (add (add (add (bc dStr (acons (mod (v 4) (k (.int 9))) anil)) (k (.str " "))) (bc dStr (acons (mod (div (v 4) (k (.int 9))) (k (.int 9))) anil))) (k (.str " "))) (v 5)))))) (seq (fz 2 (ite (tst (eq (v 2) (elst (olst anil)))) (setO 2 (olst (acons (k (.str "0 0 1/2")) anil))) pass)) (fz 2 (ret (v 2)))))
def m__law_text_by : List D → RF := runD 6 mb__law_text_by
theorem q__law_text_by (a0 a1 : D) : m__law_text_by [a0, a1] = outF (mb__law_text_by [.dat a0, .dat a1, .no, .no, .no, .no]) := runD_eq _ _ _
def mb__law_odd : SM := seq (setB 1 (elst (olst (acons (k (.str "")) (acons (k (.str " ")) (acons (k (.str "1")) (acons (k (.str "1 2")) (acons (k (.str "9 0 1")) (acons (k (.str "0 9 1")) (acons (k (.str "0 0 1 1")) (acons (k (.str "0  0 1")) (acons (k (.str " 0 0 1")) (acons (k (.str "0 0 1 ")) (acons (k (.str "00 1 2")) (acons (k (.str "1 -1 2")) (acons (k (.str "a b c")) anil)))))))))))))))) (seq (setB 1 (add (v 1) (elst (olst (acons (k (.str "0 0 2/4")) (acons (k (.str "0 0 -0")) (acons (k (.str "0 0")) (acons (k (.str "0 0 1;")) (acons (k (.str "0 0 1/1")) (acons (k (.str "-1 0 1")) (acons (k (.str "0 10 3")) (acons (k (.str "0 0 1_0")) (acons (k (.str "1 1 1/0")) (acons (k (.str "8 8 01")) anil)))))))))))))) (ret (ix (v 1) (mod (v 0) (bc dLen (acons (v 1) anil))))))
def m__law_odd : List D → RF := runD 2 mb__law_odd
theorem q__law_odd (a0 : D) : m__law_odd [a0] = outF (mb__law_odd [.dat a0, .no]) := runD_eq _ _ _
def mb__law_plane : SM := seq (setB 1 (elst (strMO fSplit (v 0) (k (.str " "))))) (seq (ite (tor (tst (ne (bc dLen (acons (v 1) anil)) (k (.int 3)))) (tor (tst (ne (bc dLen (acons (ix (v 1) (k (.int 0))) anil)) (k (.int 1)))) (tst (ne (bc dLen (acons (ix (v 1) (k (.int 1))) anil)) (k (.int 1)))))) (ret (k .none)) pass) (seq (ite (tor (tst (notin (ix (v 1) (k (.int 0))) (k (.str "012345678")))) (tor (tst (notin (ix (v 1) (k (.int 1))) (k (.str "012345678")))) (tst (isn (call m__law_number (argsN 1 (acons (ix (v 1) (k (.int 2))) anil))) (k .none))))) (ret (k .none)) pass) (ret (etup (acons (strM fIndex (k (.str "012345678")) (ix (v 1) (k (.int 0)))) (acons (strM fIndex (k (.str "012345678")) (ix (v 1) (k (.int 1)))) (acons (call m__law_number (argsN 1 (acons (ix (v 1) (k (.int 2))) anil))) anil)))))))
def m__law_plane : List D → RF := runD 2 mb__law_plane
theorem q__law_plane (a0 : D) : m__law_plane [a0] = outF (mb__law_plane [.dat a0, .no]) := runD_eq _ _ _
def mb__law_due : SM := seq (ite (tnot (tst (isi "str" (v 0)))) (ret (etup (acons (k (.int 9)) (acons (neg (k (.int 1))) anil)))) pass) (seq (setD 1) (seq (each (ivA asE (acons (elst (strMO fSplit (v 0) (k (.str "; ")))) anil)) (bT 2 (bsC (bN 2) (bsC (bN 3) bsN))) (seq (setB 4 (call m__law_plane (argsN 1 (acons (v 3) anil)))) (seq (ite (tst (isn (v 4) (k .none))) (ret (etup (acons (k (.int 9)) (acons (v 2) anil)))) pass) (seq (setB 5 (slcT (v 4) pn (ps (k (.int 2))))) (ite (pkT 1 (tor (tst (notin (v 5) (v 1))) (tst (call m__law_below (argsN 2 (acons (ix (v 1) (v 5)) (acons (ix (v 4) (k (.int 2))) anil))))))) (putD 1 (v 5) (ix (v 4) (k (.int 2)))) pass))))) (seq (fz 1 (ite (tst (gt (bc dLen (acons (v 1) anil)) (k (.int 16)))) (ret (etup (acons (k (.int 4)) (acons (k (.int 0)) anil)))) pass)) (fz 1 (retO (lc (iv asL (elst (bcO dSort (acons (v 1) anil)))) [6, 7] (bT 2 (bsC (bN 6) (bsC (bN 7) bsN))) tyes (etup (acons (v 6) (acons (v 7) (acons (ix (v 1) (etup (acons (v 6) (acons (v 7) anil)))) anil))))))))))
def m__law_due : List D → RF := runD 8 mb__law_due
theorem q__law_due (a0 : D) : m__law_due [a0] = outF (mb__law_due [.dat a0, .no, .no, .no, .no, .no, .no, .no]) := runD_eq _ _ _
def mb__law_asked : SM := seq (setB 1 (k .none)) (seq (setB 2 (k .none)) (seq (setB 3 (k (.int 0))) (seq (tryN [(4, it_NoText, seq (setB 2 (callx m__law_marks 4)) (setB 3 (fldx (fun c => c == "NoText") "at" 4))), (4, it_RoofError, setB 2 (callx m__law_marks 4))] (setB 1 (call m_read (argsN 1 (acons (v 0) anil))))) (seq (ite (tst (isn (v 2) (k .none))) (ret (v 1)) pass) (seq (each (iv asT (etup (acons (k (.int 4)) (acons (k (.int 9)) anil)))) (bN 5) (ite (tand (tst (eq (v 2) (call m__law_only (argsN 1 (acons (v 5) anil))))) (tst (call m__law_whole (argsN 1 (acons (v 3) anil))))) (ret (etup (acons (v 5) (acons (v 3) anil)))) pass)) (ret (k .none)))))))
def m__law_asked : List D → RF := runD 6 mb__law_asked
theorem q__law_asked (a0 : D) : m__law_asked [a0] = outF (mb__law_asked [.dat a0, .no, .no, .no, .no, .no]) := runD_eq _ _ _
def mb_law : SM := seq (setB 1 (call m__law_cell_at (argsN 2 (acons (v 0) (acons (k (.int 0)) anil))))) (seq (setB 2 (call m__law_text_by (argsN 2 (acons (v 0) (acons (v 1) anil))))) (seq (setB 3 (mod (call m__law_cell_at (argsN 2 (acons (v 0) (acons (k (.int 1)) anil)))) (pow (k (.int 10)) (k (.int 30))))) (seq (setB 4 (strM fJoin (k (.str "; ")) (v 2))) (seq (ite (tst (eq (mod (div (v 1) (k (.int 3))) (k (.int 4))) (k (.int 1)))) (setB 4 (call m__law_changed (argsN 3 (acons (v 4) (acons (div (v 1) (k (.int 12))) (acons (v 3) anil)))))) pass) (seq (ite (tst (eq (mod (div (v 1) (k (.int 3))) (k (.int 4))) (k (.int 2)))) (seq (setB 5 (mod (v 3) (add (bc dLen (acons (v 2) anil)) (k (.int 1))))) (setB 4 (strM fJoin (k (.str "; ")) (add (add (slc (v 2) pn (ps (v 5))) (elst (olst (acons (call m__law_odd (argsN 1 (acons (div (v 3) (k (.int 64))) anil))) anil)))) (slc (v 2) (ps (v 5)) pn))))) pass) (seq (ite (tst (eq (mod (div (v 1) (k (.int 3))) (k (.int 4))) (k (.int 3)))) (seq (setB 4 (call m__law_changed (argsN 3 (acons (strM fJoin (k (.str "; ")) (v 2)) (acons (div (v 1) (k (.int 12))) (acons (add (mod (v 3) (bc dLen (acons (v 4) anil))) (mul (k (.int 1009)) (mod (v 3) (k (.int 97))))) anil)))))) (ite (tst (eq (mod (v 3) (k (.int 5))) (k (.int 0)))) (setB 4 (ix (etup (acons (k .none) (acons (k (.int 7)) (acons (v 2) (acons (etup (acons (k (.str "0 0 1")) anil)) (acons (k (.bool true)) (acons (k (.dict [])) anil))))))) (mod (div (v 3) (k (.int 5))) (k (.int 6))))) pass)) pass) (seq (setB 6 (call m__law_due (argsN 1 (acons (v 4) anil)))) (seq (ite (tst (ne (sub (mod (v 1) (k (.int 9))) (k (.int 1))) (sub (mod (v 1) (k (.int 9))) (k (.int 1))))) (ret (k (.bool false))) pass) (seq (each (ivA asR1 (acons (k (.int 2)) anil)) (bN 7) (seq (setB 8 (call m__law_asked (argsN 1 (acons (v 4) anil)))) (seq (ite (tor (tst (ne (v 8) (v 6))) (tst (ne (isi "list" (v 8)) (isi "list" (v 6))))) (ret (k (.bool false))) pass) (ite (tand (tst (isi "list" (v 8))) (tnot (tst (bc dAll (acons (elst (lc (iv asL (v 8)) [9] (bN 9) tyes (call m__law_is_fraction (argsN 1 (acons (ix (v 9) (k (.int 2))) anil))))) anil))))) (ret (k (.bool false))) pass)))) (ret (k (.bool true))))))))))))
def m_law : List D → RF := runD 10 mb_law
theorem q_law (a0 : D) : m_law [a0] = outF (mb_law [.dat a0, .no, .no, .no, .no, .no, .no, .no, .no, .no]) := runD_eq _ _ _
end G

set_option maxHeartbeats 4000000
namespace G
open PySem L2 Q
def top (i : Nat) : Stmt := PySem.Challenge.pw_creasecurve_k06_no_texts_of_roofs.main.body.getD i (.Pass ⟨0, 0, 0, 0⟩)
abbrev s_divisor : Stmt := top 13
abbrev s_fraction : Stmt := top 14
abbrev s_less : Stmt := top 15
abbrev s_roof_of : Stmt := top 19
abbrev s_whole_of : Stmt := top 24
abbrev s_top_of : Stmt := top 25
abbrev s_number_of : Stmt := top 26
abbrev s_is_step : Stmt := top 27
abbrev s_plane_of : Stmt := top 28
abbrev s_read : Stmt := top 29
abbrev s__law_cell_at : Stmt := top 31
abbrev s__law_cells : Stmt := top 32
abbrev s__law_whole : Stmt := top 33
abbrev s__law_divisor : Stmt := top 34
abbrev s__law_fraction : Stmt := top 35
abbrev s__law_is_fraction : Stmt := top 36
abbrev s__law_below : Stmt := top 37
abbrev s__law_marks : Stmt := top 38
abbrev s__law_only : Stmt := top 39
abbrev s__law_number_by : Stmt := top 40
abbrev s__law_number_text : Stmt := top 41
abbrev s__law_figures : Stmt := top 42
abbrev s__law_number : Stmt := top 43
abbrev s__law_sign_by : Stmt := top 44
abbrev s__law_changed : Stmt := top 45
abbrev s__law_text_by : Stmt := top 46
abbrev s__law_odd : Stmt := top 47
abbrev s__law_plane : Stmt := top 48
abbrev s__law_due : Stmt := top 49
abbrev s__law_asked : Stmt := top 50
abbrev s_law : Stmt := top 51
abbrev s_init_NoText : Stmt := (C8.clsBody (top 10)).getD 0 (.Pass ⟨0, 0, 0, 0⟩)
/-- what the top has left -/
structure Tx (K : PySem.W.Frag) (mg : Str → Option Value) : Prop where
  f_divisor : DefIn K mg "divisor" s_divisor ["one", "other"]
  f_fraction : DefIn K mg "fraction" s_fraction ["top", "bottom"]
  f_less : DefIn K mg "less" s_less ["a", "b"]
  f_roof_of : DefIn K mg "roof_of" s_roof_of ["planes"]
  f_whole_of : DefIn K mg "whole_of" s_whole_of ["figures"]
  f_top_of : DefIn K mg "top_of" s_top_of ["word"]
  f_number_of : DefIn K mg "number_of" s_number_of ["word"]
  f_is_step : DefIn K mg "is_step" s_is_step ["word"]
  f_plane_of : DefIn K mg "plane_of" s_plane_of ["part"]
  f_read : DefIn K mg "read" s_read ["thing"]
  f__law_cell_at : DefIn K mg "_law_cell_at" s__law_cell_at ["_law_script", "_law_k"]
  f__law_cells : DefIn K mg "_law_cells" s__law_cells ["_law_script", "_law_first", "_law_last"]
  f__law_whole : DefIn K mg "_law_whole" s__law_whole ["_law_found"]
  f__law_divisor : DefIn K mg "_law_divisor" s__law_divisor ["_law_a", "_law_b"]
  f__law_fraction : DefIn K mg "_law_fraction" s__law_fraction ["_law_top", "_law_bottom"]
  f__law_is_fraction : DefIn K mg "_law_is_fraction" s__law_is_fraction ["_law_found"]
  f__law_below : DefIn K mg "_law_below" s__law_below ["_law_a", "_law_b"]
  f__law_marks : DefIn K mg "_law_marks" s__law_marks ["_law_e"]
  f__law_only : DefIn K mg "_law_only" s__law_only ["_law_at"]
  f__law_number_by : DefIn K mg "_law_number_by" s__law_number_by ["_law_cell", "_law_kind"]
  f__law_number_text : DefIn K mg "_law_number_text" s__law_number_text ["_law_a"]
  f__law_figures : DefIn K mg "_law_figures" s__law_figures ["_law_text"]
  f__law_number : DefIn K mg "_law_number" s__law_number ["_law_word"]
  f__law_sign_by : DefIn K mg "_law_sign_by" s__law_sign_by ["_law_cell"]
  f__law_changed : DefIn K mg "_law_changed" s__law_changed ["_law_text", "_law_way", "_law_cell"]
  f__law_text_by : DefIn K mg "_law_text_by" s__law_text_by ["_law_script", "_law_kind"]
  f__law_odd : DefIn K mg "_law_odd" s__law_odd ["_law_cell"]
  f__law_plane : DefIn K mg "_law_plane" s__law_plane ["_law_part"]
  f__law_due : DefIn K mg "_law_due" s__law_due ["_law_thing"]
  f__law_asked : DefIn K mg "_law_asked" s__law_asked ["_law_thing"]
  b_abs : mg "abs" = none
  b_len : mg "len" = none
  b_sorted : mg "sorted" = none
  b_int : mg "int" = none
  b_isinstance : mg "isinstance" = none
  b_str : mg "str" = none
  b_enumerate : mg "enumerate" = none
  b_min : mg "min" = none
  b_range : mg "range" = none
  b_bool : mg "bool" = none
  b_tuple : mg "tuple" = none
  b_ValueError : mg "ValueError" = none
  b_list : mg "list" = none
  b_all : mg "all" = none
  c_STEEPEST : ∃ t, mg "STEEPEST" = some (.int 8 t)
  c_MOST : ∃ t, mg "MOST" = some (.int 16 t)
  c_LONGEST : ∃ t, mg "LONGEST" = some (.int 30 t)
  c_FIGURES : ∃ t, mg "FIGURES" = some (.str "0123456789" t)
  c_STEPS : ∃ t, mg "STEPS" = some (.str "012345678" t)
  e_NoFraction : ExcAt K mg "NoFraction"
  e_NoRoof : ExcAt K mg "NoRoof"
  e_TooSteep : ExcAt K mg "TooSteep"
  e_TooMany : ExcAt K mg "TooMany"
  e_NoNumber : ExcAt K mg "NoNumber"
  i_NoRoof : IsAt K mg "NoRoof" it_NoRoof
  i_NoFraction : IsAt K mg "NoFraction" it_NoFraction
  i_ValueError : IsAt K mg "ValueError" it_ValueError
  i_NoNumber : IsAt K mg "NoNumber" it_NoNumber
  i_TooMany : IsAt K mg "TooMany" it_TooMany
  i_TooSteep : IsAt K mg "TooSteep" it_TooSteep
  i_NoRow : IsAt K mg "NoRow" it_NoRow
  i_NoDealing : IsAt K mg "NoDealing" it_NoDealing
  i_NoCorner : IsAt K mg "NoCorner" it_NoCorner
  i_NoName : IsAt K mg "NoName" it_NoName
  i_NoText : IsAt K mg "NoText" it_NoText
  o_NoText : IniIn K mg "NoText" "at" "NoText.__init__" s_init_NoText ["self", "at"]
  fl_NoText : FldAt K mg "at" (fun c => c == "NoText")
  b0_RoofError : BaseAt K mg "RoofError"
  h_NoNumber : HndAt K mg "NoNumber" it_NoNumber
  h_RoofError : HndAt K mg "RoofError" it_RoofError
  h_NoText : HndAt K mg "NoText" it_NoText
theorem sc_init_NoText : FnScope ["self", "at"] ["self", "at"] (defScope s_init_NoText) := ⟨rfl, rfl, rfl, by decide +kernel, rfl, by decide +kernel, by decide +kernel⟩
theorem ini_NoText {P : Program} {w : World} {K : PySem.W.Frag} {mg : Str → Option Value} {base : Heap} (T : Tx K mg) : IniAt P w K mg base "NoText" "at" :=
  ini_at T.o_NoText sc_init_NoText fun X g cdv A outer s H E hX => by
    subst hX
    exact pss_ini (x := "RoofError") T.b0_RoofError (pe_var (i := 0) rfl (Or.inl rfl) (by decide) (by decide)) (pe_var (i := 0) rfl (Or.inl rfl) (by decide) (by decide)) (pe_var (i := 1) rfl (Or.inl rfl) (by decide) (by decide)) rfl (by decide) rfl rfl rfl rfl rfl rfl
theorem sc_divisor : FnScope ["one", "other", "rest"] ["one", "other"] (defScope s_divisor) := ⟨rfl, rfl, rfl, by decide +kernel, rfl, by decide +kernel, by decide +kernel⟩
theorem d_divisor {P : Program} {w : World} {K : PySem.W.Frag} {mg : Str → Option Value} {base : Heap} (T : Tx K mg) : DefAt P w K mg base "divisor" 1 ["one", "other"] m_divisor :=
  def_at (kk := 0) T.f_divisor sc_divisor fun g X E B cdv A outer s H hX hr C => by
    subst hX
    exact sb_cons (ss_set 0 C (se_abs T.b_abs (sa_cons (se_v 0) sa_nil))) (sb_cons (ss_set 1 C (se_abs T.b_abs (sa_cons (se_v 1) sa_nil))) (sb_cons (ss_while (Q.fuel 1) C (st_ne hr (se_v 1) se_i) (sb_cons (ss_set 2 C (se_mod (se_v 0) (se_v 1))) (sb_cons (ss_set 0 C (se_v 1)) (sb_one (ss_set 1 C (se_v 2)))))) (sb_one (ss_ret (se_v 0)))))
theorem sc_fraction : FnScope ["top", "bottom", "by"] ["top", "bottom"] (defScope s_fraction) := ⟨rfl, rfl, rfl, by decide +kernel, rfl, by decide +kernel, by decide +kernel⟩
theorem d_fraction {P : Program} {w : World} {K : PySem.W.Frag} {mg : Str → Option Value} {base : Heap} (T : Tx K mg) (d_divisor : DefAt P w K mg base "divisor" 1 ["one", "other"] m_divisor) : DefAt P w K mg base "fraction" 2 ["top", "bottom"] m_fraction :=
  def_at (kk := 1) T.f_fraction sc_fraction fun g X E B cdv A outer s H hX hr C => by
    subst hX
    exact sb_cons (ss_if (st_eq hr (se_v 1) se_i) (sb_one (ss_raise (c := "NoFraction") C T.e_NoFraction)) sb_nil) (sb_cons (ss_set 2 C (se_call d_divisor (hr.mono (by decide)) C (sa_cons (se_v 0) (sa_cons (se_v 1) sa_nil)))) (sb_cons (ss_if (st_lt (se_v 1) se_i) (sb_one (ss_set 2 C (se_neg (se_v 2)))) sb_nil) (sb_one (ss_ret (se_tup (sa_cons (se_div (se_v 0) (se_v 2)) (sa_cons (se_div (se_v 1) (se_v 2)) sa_nil)))))))
theorem sc_less : FnScope ["a", "b"] ["a", "b"] (defScope s_less) := ⟨rfl, rfl, rfl, by decide +kernel, rfl, by decide +kernel, by decide +kernel⟩
theorem d_less {P : Program} {w : World} {K : PySem.W.Frag} {mg : Str → Option Value} {base : Heap} (T : Tx K mg) : DefAt P w K mg base "less" 1 ["a", "b"] m_less :=
  def_at (kk := 0) T.f_less sc_less fun g X E B cdv A outer s H hX hr C => by
    subst hX
    exact sb_one (ss_ret (se_lt (se_mul (se_ix hr (se_v 0) se_i) (se_ix hr (se_v 1) se_i)) (se_mul (se_ix hr (se_v 1) se_i) (se_ix hr (se_v 0) se_i))))
theorem sc_roof_of : FnScope ["planes", "highest", "i", "j", "height", "slope"] ["planes"] (defScope s_roof_of) := ⟨rfl, rfl, rfl, by decide +kernel, rfl, by decide +kernel, by decide +kernel⟩
theorem d_roof_of {P : Program} {w : World} {K : PySem.W.Frag} {mg : Str → Option Value} {base : Heap} (T : Tx K mg) (d_less : DefAt P w K mg base "less" 1 ["a", "b"] m_less) : DefAt P w K mg base "roof_of" 2 ["planes"] m_roof_of :=
  def_at (kk := 1) T.f_roof_of sc_roof_of fun g X E B cdv A outer s H hX hr C => by
    subst hX
    exact sb_cons (ss_if (st_eq hr (se_len T.b_len (sa_cons (se_v 0) sa_nil)) se_i) (sb_one (ss_raise (c := "NoRoof") C T.e_NoRoof)) sb_nil) (sb_cons (ss_setD 1 C) (sb_cons (ss_for C (si_list (se_v 0)) (sg_t C.calm (sgs_cons (sg_n 2 C.nd) (sgs_cons (sg_n 3 C.nd) (sgs_cons (sg_n 4 C.nd) sgs_nil)))) (sb_cons (ss_if (st_w (sw_or (st_lt (se_v 2) se_i) (sw_or (st_gt (se_v 2) (se_gi T.c_STEEPEST)) (sw_or (st_lt (se_v 3) se_i) (sw_or1 (st_gt (se_v 3) (se_gi T.c_STEEPEST))))))) (sb_one (ss_raise (c := "TooSteep") C T.e_TooSteep)) sb_nil) (sb_one (ss_if (st_pk 1 (st_w (sw_or (st_notin hr (se_tup (sa_cons (se_v 2) (sa_cons (se_v 3) sa_nil))) (se_v 1)) (sw_or1 (st_val (se_call d_less (hr.mono (by decide)) C (sa_cons (se_ix hr (se_v 1) (se_tup (sa_cons (se_v 2) (sa_cons (se_v 3) sa_nil)))) (sa_cons (se_v 4) sa_nil)))))))) (sb_one (ss_putD 1 hr (se_tup (sa_cons (se_v 2) (sa_cons (se_v 3) sa_nil))) (se_v 4))) sb_nil)))) (sb_cons (ss_fz 1 (ss_if (st_gt (se_len T.b_len (sa_cons (se_v 1) sa_nil)) (se_gi T.c_MOST)) (sb_one (ss_raise (c := "TooMany") C T.e_TooMany)) sb_nil)) (sb_one (ss_fz 1 (ss_retO (so_lc [("slope", 5)] [5] C (si_list (se_o (so_sorted hr C T.b_sorted (sa_cons (se_v 1) sa_nil)))) (blkOk_by (own := [("slope", 5)]) (N := ["planes", "highest", "i", "j", "height", "slope"]) (sc := defScope s_roof_of) (by decide +kernel)) (fun _ _ _ _ _ => sg_n 5 C.blk.nd) (fun _ _ _ _ _ => sts_nil) (fun _ _ _ _ _ => se_tup (sa_cons (se_ix (by exact hr) (se_v 5) se_i) (sa_cons (se_ix (by exact hr) (se_v 5) se_i) (sa_cons (se_ix (by exact hr) (se_v 1) (se_v 5)) sa_nil)))))))))))
theorem sc_whole_of : FnScope ["figures", "sign"] ["figures"] (defScope s_whole_of) := ⟨rfl, rfl, rfl, by decide +kernel, rfl, by decide +kernel, by decide +kernel⟩
theorem d_whole_of {P : Program} {w : World} {K : PySem.W.Frag} {mg : Str → Option Value} {base : Heap} (T : Tx K mg) : DefAt P w K mg base "whole_of" 1 ["figures"] m_whole_of :=
  def_at (kk := 0) T.f_whole_of sc_whole_of fun g X E B cdv A outer s H hX hr C => by
    subst hX
    exact sb_cons (ss_if (st_w (sw_or (st_eq hr (se_len T.b_len (sa_cons (se_v 0) sa_nil)) se_i) (sw_or1 (st_gt (se_len T.b_len (sa_cons (se_v 0) sa_nil)) (se_gi T.c_LONGEST))))) (sb_one (ss_raise (c := "NoNumber") C T.e_NoNumber)) sb_nil) (sb_cons (ss_for C (si_str (se_v 0)) (sg_n 1 C.nd) (sb_one (ss_if (st_notin hr (se_v 1) (se_gs T.c_FIGURES)) (sb_one (ss_raise (c := "NoNumber") C T.e_NoNumber)) sb_nil))) (sb_cons (ss_if (st_w (sw_and (st_eq hr (se_ix hr (se_v 0) se_i) se_s) (sw_and1 (st_gt (se_len T.b_len (sa_cons (se_v 0) sa_nil)) se_i)))) (sb_one (ss_raise (c := "NoNumber") C T.e_NoNumber)) sb_nil) (sb_one (ss_ret (se_int T.b_int (sa_cons (se_v 0) sa_nil))))))
theorem sc_top_of : FnScope ["word", "top"] ["word"] (defScope s_top_of) := ⟨rfl, rfl, rfl, by decide +kernel, rfl, by decide +kernel, by decide +kernel⟩
theorem d_top_of {P : Program} {w : World} {K : PySem.W.Frag} {mg : Str → Option Value} {base : Heap} (T : Tx K mg) (d_whole_of : DefAt P w K mg base "whole_of" 1 ["figures"] m_whole_of) : DefAt P w K mg base "top_of" 2 ["word"] m_top_of :=
  def_at (kk := 1) T.f_top_of sc_top_of fun g X E B cdv A outer s H hX hr C => by
    subst hX
    exact sb_cons (ss_if (st_ne hr (se_sl (se_v 0) sp_n (sp_s se_i)) se_s) (sb_one (ss_ret (se_call d_whole_of (hr.mono (by decide)) C (sa_cons (se_v 0) sa_nil)))) sb_nil) (sb_cons (ss_set 1 C (se_call d_whole_of (hr.mono (by decide)) C (sa_cons (se_sl (se_v 0) (sp_s se_i) sp_n) sa_nil))) (sb_cons (ss_if (st_eq hr (se_v 1) se_i) (sb_one (ss_raise (c := "NoNumber") C T.e_NoNumber)) sb_nil) (sb_one (ss_ret (se_neg (se_v 1))))))
theorem sc_number_of : FnScope ["word", "parts", "top", "bottom"] ["word"] (defScope s_number_of) := ⟨rfl, rfl, rfl, by decide +kernel, rfl, by decide +kernel, by decide +kernel⟩
theorem d_number_of {P : Program} {w : World} {K : PySem.W.Frag} {mg : Str → Option Value} {base : Heap} (T : Tx K mg) (d_top_of : DefAt P w K mg base "top_of" 2 ["word"] m_top_of) (d_whole_of : DefAt P w K mg base "whole_of" 1 ["figures"] m_whole_of) (d_fraction : DefAt P w K mg base "fraction" 2 ["top", "bottom"] m_fraction) : DefAt P w K mg base "number_of" 3 ["word"] m_number_of :=
  def_at (kk := 2) T.f_number_of sc_number_of fun g X E B cdv A outer s H hX hr C => by
    subst hX
    exact sb_cons (ss_if (st_not (st_val (se_isi (x := "str") (T := "str") (se_v 0) T.b_isinstance T.b_str (by decide +kernel)))) (sb_one (ss_raise (c := "NoNumber") C T.e_NoNumber)) sb_nil) (sb_cons (ss_set 1 C (se_o (so_split (se_v 0) se_s))) (sb_cons (ss_if (st_gt (se_len T.b_len (sa_cons (se_v 1) sa_nil)) se_i) (sb_one (ss_raise (c := "NoNumber") C T.e_NoNumber)) sb_nil) (sb_cons (ss_set 2 C (se_call d_top_of (hr.mono (by decide)) C (sa_cons (se_ix hr (se_v 1) se_i) sa_nil))) (sb_cons (ss_if (st_eq hr (se_len T.b_len (sa_cons (se_v 1) sa_nil)) se_i) (sb_one (ss_ret (se_tup (sa_cons (se_v 2) (sa_cons se_i sa_nil))))) sb_nil) (sb_cons (ss_set 3 C (se_call d_whole_of (hr.mono (by decide)) C (sa_cons (se_ix hr (se_v 1) se_i) sa_nil))) (sb_cons (ss_if (st_w (sw_or (st_lt (se_v 3) se_i) (sw_or1 (st_ne hr (se_call d_fraction (hr.mono (by decide)) C (sa_cons (se_v 2) (sa_cons (se_v 3) sa_nil))) (se_tup (sa_cons (se_v 2) (sa_cons (se_v 3) sa_nil))))))) (sb_one (ss_raise (c := "NoNumber") C T.e_NoNumber)) sb_nil) (sb_one (ss_ret (se_tup (sa_cons (se_v 2) (sa_cons (se_v 3) sa_nil)))))))))))
theorem sc_is_step : FnScope ["word"] ["word"] (defScope s_is_step) := ⟨rfl, rfl, rfl, by decide +kernel, rfl, by decide +kernel, by decide +kernel⟩
theorem d_is_step {P : Program} {w : World} {K : PySem.W.Frag} {mg : Str → Option Value} {base : Heap} (T : Tx K mg) : DefAt P w K mg base "is_step" 1 ["word"] m_is_step :=
  def_at (kk := 0) T.f_is_step sc_is_step fun g X E B cdv A outer s H hX hr C => by
    subst hX
    exact sb_one (ss_ret (se_and (se_eq hr (se_len T.b_len (sa_cons (se_v 0) sa_nil)) se_i) (se_and1 (se_in hr (se_v 0) (se_gs T.c_STEPS)))))
theorem sc_plane_of : FnScope ["part", "words", "height"] ["part"] (defScope s_plane_of) := ⟨rfl, rfl, rfl, by decide +kernel, rfl, by decide +kernel, by decide +kernel⟩
theorem d_plane_of {P : Program} {w : World} {K : PySem.W.Frag} {mg : Str → Option Value} {base : Heap} (T : Tx K mg) (d_is_step : DefAt P w K mg base "is_step" 1 ["word"] m_is_step) (d_number_of : DefAt P w K mg base "number_of" 3 ["word"] m_number_of) : DefAt P w K mg base "plane_of" 4 ["part"] m_plane_of :=
  def_at (kk := 3) T.f_plane_of sc_plane_of fun g X E B cdv A outer s H hX hr C => by
    subst hX
    exact sb_cons (ss_set 1 C (se_o (so_split (se_v 0) se_s))) (sb_cons (ss_if (st_w (sw_or (st_ne hr (se_len T.b_len (sa_cons (se_v 1) sa_nil)) se_i) (sw_or (st_not (st_val (se_call d_is_step (hr.mono (by decide)) C (sa_cons (se_ix hr (se_v 1) se_i) sa_nil)))) (sw_or1 (st_not (st_val (se_call d_is_step (hr.mono (by decide)) C (sa_cons (se_ix hr (se_v 1) se_i) sa_nil)))))))) (sb_one (ss_ret se_n)) sb_nil) (sb_cons (ss_set 2 C se_n) (sb_cons (ss_tryH (c := "NoNumber") C T.h_NoNumber (fun _ _ _ C => sb_one (ss_set 2 C (se_call d_number_of (by exact hr.mono (by decide)) C (sa_cons (se_ix (by exact hr) (se_v 1) se_i) sa_nil)))) (fun _ _ _ => sb_one (ss_ret se_n))) (sb_one (ss_ret (se_tup (sa_cons (se_int T.b_int (sa_cons (se_ix hr (se_v 1) se_i) sa_nil)) (sa_cons (se_int T.b_int (sa_cons (se_ix hr (se_v 1) se_i) sa_nil)) (sa_cons (se_v 2) sa_nil)))))))))
theorem sc_read : FnScope ["thing", "planes", "at", "part", "plane"] ["thing"] (defScope s_read) := ⟨rfl, rfl, rfl, by decide +kernel, rfl, by decide +kernel, by decide +kernel⟩
theorem d_read {P : Program} {w : World} {K : PySem.W.Frag} {mg : Str → Option Value} {base : Heap} (T : Tx K mg) (d_plane_of : DefAt P w K mg base "plane_of" 4 ["part"] m_plane_of) (d_roof_of : DefAt P w K mg base "roof_of" 2 ["planes"] m_roof_of) (i_NoText : IniAt P w K mg base "NoText" "at") : DefAt P w K mg base "read" 5 ["thing"] m_read :=
  def_at (kk := 4) T.f_read sc_read fun g X E B cdv A outer s H hX hr C => by
    subst hX
    exact sb_cons (ss_if (st_not (st_val (se_isi (x := "str") (T := "str") (se_v 0) T.b_isinstance T.b_str (by decide +kernel)))) (sb_one (ss_raiseF (c := "NoText") C i_NoText (hr.mono (by decide)) (se_neg se_i))) sb_nil) (sb_cons (ss_setO 1 C (so_lst sa_nil)) (sb_cons (ss_for C (si_enum T.b_enumerate (sa_cons (se_o (so_split (se_v 0) se_s)) sa_nil)) (sg_t C.calm (sgs_cons (sg_n 2 C.nd) (sgs_cons (sg_n 3 C.nd) sgs_nil))) (sb_cons (ss_set 4 C (se_call d_plane_of (hr.mono (by decide)) C (sa_cons (se_v 3) sa_nil))) (sb_cons (ss_if (st_isn (se_v 4) se_n) (sb_one (ss_raiseF (c := "NoText") C i_NoText (hr.mono (by decide)) (se_v 2))) sb_nil) (sb_one (ss_app 1 (se_v 4)))))) (sb_one (ss_fz 1 (ss_ret (se_call d_roof_of (hr.mono (by decide)) C (sa_cons (se_v 1) sa_nil)))))))
theorem sc__law_cell_at : FnScope ["_law_script", "_law_k", "_law_cell"] ["_law_script", "_law_k"] (defScope s__law_cell_at) := ⟨rfl, rfl, rfl, by decide +kernel, rfl, by decide +kernel, by decide +kernel⟩
theorem d__law_cell_at {P : Program} {w : World} {K : PySem.W.Frag} {mg : Str → Option Value} {base : Heap} (T : Tx K mg) : DefAt P w K mg base "_law_cell_at" 1 ["_law_script", "_law_k"] m__law_cell_at :=
  def_at (kk := 0) T.f__law_cell_at sc__law_cell_at fun g X E B cdv A outer s H hX hr C => by
    subst hX
    exact sb_cons (ss_set 2 C se_i) (sb_cons (ss_if (st_lt (se_v 1) (se_len T.b_len (sa_cons (se_v 0) sa_nil))) (sb_one (ss_set 2 C (se_mod (se_ix hr (se_v 0) (se_v 1)) (se_pow se_i se_i)))) sb_nil) (sb_one (ss_ret (se_add (se_mul (se_v 2) se_i) (se_mod (se_mul (se_mod (se_mul (se_add (se_add (se_add (se_v 2) (se_mul (se_mul se_i (se_v 1)) (se_v 1))) (se_mul se_i (se_v 1))) se_i) se_i) se_i) se_i) se_i)))))
theorem sc__law_cells : FnScope ["_law_script", "_law_first", "_law_last", "_law_k"] ["_law_script", "_law_first", "_law_last"] (defScope s__law_cells) := ⟨rfl, rfl, rfl, by decide +kernel, rfl, by decide +kernel, by decide +kernel⟩
theorem d__law_cells {P : Program} {w : World} {K : PySem.W.Frag} {mg : Str → Option Value} {base : Heap} (T : Tx K mg) (d__law_cell_at : DefAt P w K mg base "_law_cell_at" 1 ["_law_script", "_law_k"] m__law_cell_at) : DefAt P w K mg base "_law_cells" 2 ["_law_script", "_law_first", "_law_last"] m__law_cells :=
  def_at (kk := 1) T.f__law_cells sc__law_cells fun g X E B cdv A outer s H hX hr C => by
    subst hX
    exact sb_one (ss_retO (so_lc [("_law_k", 3)] [3] C (si_r2 T.b_range (sa_cons (se_v 1) (sa_cons (se_min2 C T.b_min (sa_cons (se_v 2) (sa_cons (se_len T.b_len (sa_cons (se_v 0) sa_nil)) sa_nil))) sa_nil))) (blkOk_by (own := [("_law_k", 3)]) (N := ["_law_script", "_law_first", "_law_last", "_law_k"]) (sc := defScope s__law_cells) (by decide +kernel)) (fun _ _ _ _ _ => sg_n 3 C.blk.nd) (fun _ _ _ _ _ => sts_nil) (fun _ _ _ _ _ => se_call d__law_cell_at (by exact hr.mono (by decide)) C.blk (sa_cons (se_v 0) (sa_cons (se_v 3) sa_nil)))))
theorem sc__law_whole : FnScope ["_law_found"] ["_law_found"] (defScope s__law_whole) := ⟨rfl, rfl, rfl, by decide +kernel, rfl, by decide +kernel, by decide +kernel⟩
theorem d__law_whole {P : Program} {w : World} {K : PySem.W.Frag} {mg : Str → Option Value} {base : Heap} (T : Tx K mg) : DefAt P w K mg base "_law_whole" 1 ["_law_found"] m__law_whole :=
  def_at (kk := 0) T.f__law_whole sc__law_whole fun g X E B cdv A outer s H hX hr C => by
    subst hX
    exact sb_one (ss_ret (se_and (se_isi (x := "int") (T := "int") (se_v 0) T.b_isinstance T.b_int (by decide +kernel)) (se_and1 (se_not (se_isi (x := "bool") (T := "bool") (se_v 0) T.b_isinstance T.b_bool (by decide +kernel))))))
theorem sc__law_divisor : FnScope ["_law_a", "_law_b", "_law_rest"] ["_law_a", "_law_b"] (defScope s__law_divisor) := ⟨rfl, rfl, rfl, by decide +kernel, rfl, by decide +kernel, by decide +kernel⟩
theorem d__law_divisor {P : Program} {w : World} {K : PySem.W.Frag} {mg : Str → Option Value} {base : Heap} (T : Tx K mg) : DefAt P w K mg base "_law_divisor" 1 ["_law_a", "_law_b"] m__law_divisor :=
  def_at (kk := 0) T.f__law_divisor sc__law_divisor fun g X E B cdv A outer s H hX hr C => by
    subst hX
    exact sb_cons (ss_set 0 C (se_abs T.b_abs (sa_cons (se_v 0) sa_nil))) (sb_cons (ss_set 1 C (se_abs T.b_abs (sa_cons (se_v 1) sa_nil))) (sb_cons (ss_while (Q.fuel 1) C (st_gt (se_v 1) se_i) (sb_cons (ss_set 2 C (se_mod (se_v 0) (se_v 1))) (sb_cons (ss_set 0 C (se_v 1)) (sb_one (ss_set 1 C (se_v 2)))))) (sb_one (ss_ret (se_v 0)))))
theorem sc__law_fraction : FnScope ["_law_top", "_law_bottom", "_law_by"] ["_law_top", "_law_bottom"] (defScope s__law_fraction) := ⟨rfl, rfl, rfl, by decide +kernel, rfl, by decide +kernel, by decide +kernel⟩
theorem d__law_fraction {P : Program} {w : World} {K : PySem.W.Frag} {mg : Str → Option Value} {base : Heap} (T : Tx K mg) (d__law_divisor : DefAt P w K mg base "_law_divisor" 1 ["_law_a", "_law_b"] m__law_divisor) : DefAt P w K mg base "_law_fraction" 2 ["_law_top", "_law_bottom"] m__law_fraction :=
  def_at (kk := 1) T.f__law_fraction sc__law_fraction fun g X E B cdv A outer s H hX hr C => by
    subst hX
    exact sb_cons (ss_set 2 C (se_call d__law_divisor (hr.mono (by decide)) C (sa_cons (se_v 0) (sa_cons (se_v 1) sa_nil)))) (sb_one (ss_ret (se_tup (sa_cons (se_div (se_v 0) (se_v 2)) (sa_cons (se_div (se_v 1) (se_v 2)) sa_nil)))))
theorem sc__law_is_fraction : FnScope ["_law_found"] ["_law_found"] (defScope s__law_is_fraction) := ⟨rfl, rfl, rfl, by decide +kernel, rfl, by decide +kernel, by decide +kernel⟩
theorem d__law_is_fraction {P : Program} {w : World} {K : PySem.W.Frag} {mg : Str → Option Value} {base : Heap} (T : Tx K mg) (d__law_whole : DefAt P w K mg base "_law_whole" 1 ["_law_found"] m__law_whole) (d__law_divisor : DefAt P w K mg base "_law_divisor" 1 ["_law_a", "_law_b"] m__law_divisor) : DefAt P w K mg base "_law_is_fraction" 2 ["_law_found"] m__law_is_fraction :=
  def_at (kk := 1) T.f__law_is_fraction sc__law_is_fraction fun g X E B cdv A outer s H hX hr C => by
    subst hX
    exact sb_cons (ss_if (st_w (sw_or (st_not (st_val (se_isi (x := "tuple") (T := "tuple") (se_v 0) T.b_isinstance T.b_tuple (by decide +kernel)))) (sw_or1 (st_ne hr (se_len T.b_len (sa_cons (se_v 0) sa_nil)) se_i)))) (sb_one (ss_ret se_b)) sb_nil) (sb_cons (ss_if (st_w (sw_or (st_not (st_val (se_call d__law_whole (hr.mono (by decide)) C (sa_cons (se_ix hr (se_v 0) se_i) sa_nil)))) (sw_or (st_not (st_val (se_call d__law_whole (hr.mono (by decide)) C (sa_cons (se_ix hr (se_v 0) se_i) sa_nil)))) (sw_or1 (st_lt (se_ix hr (se_v 0) se_i) se_i))))) (sb_one (ss_ret se_b)) sb_nil) (sb_one (ss_ret (se_eq hr (se_call d__law_divisor (hr.mono (by decide)) C (sa_cons (se_ix hr (se_v 0) se_i) (sa_cons (se_ix hr (se_v 0) se_i) sa_nil))) se_i))))
theorem sc__law_below : FnScope ["_law_a", "_law_b"] ["_law_a", "_law_b"] (defScope s__law_below) := ⟨rfl, rfl, rfl, by decide +kernel, rfl, by decide +kernel, by decide +kernel⟩
theorem d__law_below {P : Program} {w : World} {K : PySem.W.Frag} {mg : Str → Option Value} {base : Heap} (T : Tx K mg) : DefAt P w K mg base "_law_below" 1 ["_law_a", "_law_b"] m__law_below :=
  def_at (kk := 0) T.f__law_below sc__law_below fun g X E B cdv A outer s H hX hr C => by
    subst hX
    exact sb_one (ss_ret (se_lt (se_mul (se_ix hr (se_v 0) se_i) (se_ix hr (se_v 1) se_i)) (se_mul (se_ix hr (se_v 1) se_i) (se_ix hr (se_v 0) se_i))))
theorem sc__law_marks : FnScope ["_law_e", "_law_marks_here"] ["_law_e"] (defScope s__law_marks) := ⟨rfl, rfl, rfl, by decide +kernel, rfl, by decide +kernel, by decide +kernel⟩
theorem d__law_marks {P : Program} {w : World} {K : PySem.W.Frag} {mg : Str → Option Value} {base : Heap} (T : Tx K mg) : DefX P w K mg base "_law_marks" 1 m__law_marks :=
  defx_at (kk := 0) T.f__law_marks sc__law_marks fun g X B cdv A outer s H p hX HX => by
    subst hX
    have ND := sc__law_marks.nd
    exact sb_cons (ss_setN 1 ND (se_o (so_lst (sa_cons (se_isa 0 HX T.i_ValueError T.b_isinstance) (sa_cons (se_isa 0 HX T.i_NoFraction T.b_isinstance) (sa_cons (se_isa 0 HX T.i_NoRoof T.b_isinstance) sa_nil)))))) (sb_cons (ss_setN 1 ND (se_add (se_v 1) (se_o (so_lst (sa_cons (se_isa 0 HX T.i_TooSteep T.b_isinstance) (sa_cons (se_isa 0 HX T.i_TooMany T.b_isinstance) (sa_cons (se_isa 0 HX T.i_NoNumber T.b_isinstance) sa_nil))))))) (sb_cons (ss_setN 1 ND (se_add (se_v 1) (se_o (so_lst (sa_cons (se_isa 0 HX T.i_NoCorner T.b_isinstance) (sa_cons (se_isa 0 HX T.i_NoDealing T.b_isinstance) (sa_cons (se_isa 0 HX T.i_NoRow T.b_isinstance) sa_nil))))))) (sb_one (ss_ret (se_add (se_v 1) (se_o (so_lst (sa_cons (se_isa 0 HX T.i_NoText T.b_isinstance) (sa_cons (se_isa 0 HX T.i_NoName T.b_isinstance) sa_nil)))))))))
theorem sc__law_only : FnScope ["_law_at", "_law_k"] ["_law_at"] (defScope s__law_only) := ⟨rfl, rfl, rfl, by decide +kernel, rfl, by decide +kernel, by decide +kernel⟩
theorem d__law_only {P : Program} {w : World} {K : PySem.W.Frag} {mg : Str → Option Value} {base : Heap} (T : Tx K mg) : DefAt P w K mg base "_law_only" 1 ["_law_at"] m__law_only :=
  def_at (kk := 0) T.f__law_only sc__law_only fun g X E B cdv A outer s H hX hr C => by
    subst hX
    exact sb_one (ss_retO (so_lc [("_law_k", 1)] [1] C (si_r1 T.b_range (sa_cons se_i sa_nil)) (blkOk_by (own := [("_law_k", 1)]) (N := ["_law_at", "_law_k"]) (sc := defScope s__law_only) (by decide +kernel)) (fun _ _ _ _ _ => sg_n 1 C.blk.nd) (fun _ _ _ _ _ => sts_nil) (fun _ _ _ _ _ => se_in (by exact hr) (se_v 1) (se_tup (sa_cons se_i (sa_cons (se_v 0) sa_nil))))))
theorem sc__law_number_by : FnScope ["_law_cell", "_law_kind", "_law_c", "_law_bottom"] ["_law_cell", "_law_kind"] (defScope s__law_number_by) := ⟨rfl, rfl, rfl, by decide +kernel, rfl, by decide +kernel, by decide +kernel⟩
theorem d__law_number_by {P : Program} {w : World} {K : PySem.W.Frag} {mg : Str → Option Value} {base : Heap} (T : Tx K mg) (d__law_fraction : DefAt P w K mg base "_law_fraction" 2 ["_law_top", "_law_bottom"] m__law_fraction) : DefAt P w K mg base "_law_number_by" 3 ["_law_cell", "_law_kind"] m__law_number_by :=
  def_at (kk := 2) T.f__law_number_by sc__law_number_by fun g X E B cdv A outer s H hX hr C => by
    subst hX
    exact sb_cons (ss_set 2 C (se_mod (se_v 0) (se_pow se_i se_i))) (sb_cons (ss_if (st_eq hr (se_mod (se_v 1) se_i) se_i) (sb_one (ss_ret (se_tup (sa_cons (se_sub (se_mod (se_v 2) se_i) se_i) (sa_cons se_i sa_nil))))) sb_nil) (sb_cons (ss_if (st_eq hr (se_mod (se_v 1) se_i) se_i) (sb_one (ss_ret (se_call d__law_fraction (hr.mono (by decide)) C (sa_cons (se_sub (se_mod (se_v 2) se_i) se_i) (sa_cons (se_add se_i (se_mod (se_div (se_v 2) se_i) se_i)) sa_nil))))) sb_nil) (sb_cons (ss_set 3 C (se_add se_i (se_mod (se_mul (se_v 2) se_i) (se_pow se_i se_i)))) (sb_one (ss_ret (se_call d__law_fraction (hr.mono (by decide)) C (sa_cons (se_sub (se_mod (se_mul (se_v 2) (se_pow se_i se_i)) (se_add (se_mul se_i (se_pow se_i se_i)) se_i)) (se_pow se_i se_i)) (sa_cons (se_v 3) sa_nil))))))))
theorem sc__law_number_text : FnScope ["_law_a"] ["_law_a"] (defScope s__law_number_text) := ⟨rfl, rfl, rfl, by decide +kernel, rfl, by decide +kernel, by decide +kernel⟩
theorem d__law_number_text {P : Program} {w : World} {K : PySem.W.Frag} {mg : Str → Option Value} {base : Heap} (T : Tx K mg) : DefAt P w K mg base "_law_number_text" 1 ["_law_a"] m__law_number_text :=
  def_at (kk := 0) T.f__law_number_text sc__law_number_text fun g X E B cdv A outer s H hX hr C => by
    subst hX
    exact sb_cons (ss_if (st_eq hr (se_ix hr (se_v 0) se_i) se_i) (sb_one (ss_ret (se_str T.b_str (sa_cons (se_ix hr (se_v 0) se_i) sa_nil)))) sb_nil) (sb_one (ss_ret (se_add (se_add (se_str T.b_str (sa_cons (se_ix hr (se_v 0) se_i) sa_nil)) se_s) (se_str T.b_str (sa_cons (se_ix hr (se_v 0) se_i) sa_nil)))))
theorem sc__law_figures : FnScope ["_law_text", "_law_number_here", "_law_sign"] ["_law_text"] (defScope s__law_figures) := ⟨rfl, rfl, rfl, by decide +kernel, rfl, by decide +kernel, by decide +kernel⟩
theorem d__law_figures {P : Program} {w : World} {K : PySem.W.Frag} {mg : Str → Option Value} {base : Heap} (T : Tx K mg) : DefAt P w K mg base "_law_figures" 1 ["_law_text"] m__law_figures :=
  def_at (kk := 0) T.f__law_figures sc__law_figures fun g X E B cdv A outer s H hX hr C => by
    subst hX
    exact sb_cons (ss_if (st_w (sw_or (st_eq hr (se_len T.b_len (sa_cons (se_v 0) sa_nil)) se_i) (sw_or (st_gt (se_len T.b_len (sa_cons (se_v 0) sa_nil)) se_i) (sw_or1 (st_w (sw_and (st_eq hr (se_ix hr (se_v 0) se_i) se_s) (sw_and1 (st_gt (se_len T.b_len (sa_cons (se_v 0) sa_nil)) se_i)))))))) (sb_one (ss_ret se_n)) sb_nil) (sb_cons (ss_set 1 C se_i) (sb_cons (ss_for C (si_str (se_v 0)) (sg_n 2 C.nd) (sb_cons (ss_if (st_notin hr (se_v 2) se_s) (sb_one (ss_ret se_n)) sb_nil) (sb_one (ss_set 1 C (se_add (se_mul (se_v 1) se_i) (se_index se_s (se_v 2))))))) (sb_one (ss_ret (se_v 1)))))
theorem sc__law_number : FnScope ["_law_word", "_law_below_here", "_law_parts", "_law_top", "_law_bottom"] ["_law_word"] (defScope s__law_number) := ⟨rfl, rfl, rfl, by decide +kernel, rfl, by decide +kernel, by decide +kernel⟩
theorem d__law_number {P : Program} {w : World} {K : PySem.W.Frag} {mg : Str → Option Value} {base : Heap} (T : Tx K mg) (d__law_figures : DefAt P w K mg base "_law_figures" 1 ["_law_text"] m__law_figures) (d__law_divisor : DefAt P w K mg base "_law_divisor" 1 ["_law_a", "_law_b"] m__law_divisor) : DefAt P w K mg base "_law_number" 2 ["_law_word"] m__law_number :=
  def_at (kk := 1) T.f__law_number sc__law_number fun g X E B cdv A outer s H hX hr C => by
    subst hX
    exact sb_cons (ss_set 1 C (se_eq hr (se_sl (se_v 0) sp_n (sp_s se_i)) se_s)) (sb_cons (ss_set 2 C (se_o (so_split (se_sl (se_v 0) (sp_s (se_int T.b_int (sa_cons (se_v 1) sa_nil))) sp_n) se_s))) (sb_cons (ss_if (st_gt (se_len T.b_len (sa_cons (se_v 2) sa_nil)) se_i) (sb_one (ss_ret se_n)) sb_nil) (sb_cons (ss_set 3 C (se_call d__law_figures (hr.mono (by decide)) C (sa_cons (se_ix hr (se_v 2) se_i) sa_nil))) (sb_cons (ss_set 4 C se_i) (sb_cons (ss_if (st_eq hr (se_len T.b_len (sa_cons (se_v 2) sa_nil)) se_i) (sb_one (ss_set 4 C (se_call d__law_figures (hr.mono (by decide)) C (sa_cons (se_ix hr (se_v 2) se_i) sa_nil)))) sb_nil) (sb_cons (ss_if (st_w (sw_or (st_isn (se_v 3) se_n) (sw_or (st_isn (se_v 4) se_n) (sw_or1 (st_w (sw_and (st_val (se_v 1)) (sw_and1 (st_eq hr (se_v 3) se_i)))))))) (sb_one (ss_ret se_n)) sb_nil) (sb_cons (ss_if (st_w (sw_and (st_eq hr (se_len T.b_len (sa_cons (se_v 2) sa_nil)) se_i) (sw_and1 (st_w (sw_or (st_lt (se_v 4) se_i) (sw_or1 (st_ne hr (se_call d__law_divisor (hr.mono (by decide)) C (sa_cons (se_v 3) (sa_cons (se_v 4) sa_nil))) se_i))))))) (sb_one (ss_ret se_n)) sb_nil) (sb_cons (ss_if (st_val (se_v 1)) (sb_one (ss_set 3 C (se_sub se_i (se_v 3)))) sb_nil) (sb_one (ss_ret (se_tup (sa_cons (se_v 3) (sa_cons (se_v 4) sa_nil)))))))))))))
theorem sc__law_sign_by : FnScope ["_law_cell", "_law_some"] ["_law_cell"] (defScope s__law_sign_by) := ⟨rfl, rfl, rfl, by decide +kernel, rfl, by decide +kernel, by decide +kernel⟩
theorem d__law_sign_by {P : Program} {w : World} {K : PySem.W.Frag} {mg : Str → Option Value} {base : Heap} (T : Tx K mg) : DefAt P w K mg base "_law_sign_by" 1 ["_law_cell"] m__law_sign_by :=
  def_at (kk := 0) T.f__law_sign_by sc__law_sign_by fun g X E B cdv A outer s H hX hr C => by
    subst hX
    exact sb_cons (ss_set 1 C se_s) (sb_cons (ss_set 1 C (se_add (se_v 1) se_s)) (sb_one (ss_ret (se_ix hr (se_v 1) (se_mod (se_v 0) (se_len T.b_len (sa_cons (se_v 1) sa_nil)))))))
theorem sc__law_changed : FnScope ["_law_text", "_law_way", "_law_cell", "_law_at", "_law_sign"] ["_law_text", "_law_way", "_law_cell"] (defScope s__law_changed) := ⟨rfl, rfl, rfl, by decide +kernel, rfl, by decide +kernel, by decide +kernel⟩
theorem d__law_changed {P : Program} {w : World} {K : PySem.W.Frag} {mg : Str → Option Value} {base : Heap} (T : Tx K mg) (d__law_sign_by : DefAt P w K mg base "_law_sign_by" 1 ["_law_cell"] m__law_sign_by) : DefAt P w K mg base "_law_changed" 2 ["_law_text", "_law_way", "_law_cell"] m__law_changed :=
  def_at (kk := 1) T.f__law_changed sc__law_changed fun g X E B cdv A outer s H hX hr C => by
    subst hX
    exact sb_cons (ss_set 3 C (se_mod (se_v 2) (se_add (se_len T.b_len (sa_cons (se_v 0) sa_nil)) se_i))) (sb_cons (ss_set 4 C (se_call d__law_sign_by (hr.mono (by decide)) C (sa_cons (se_div (se_v 2) se_i) sa_nil))) (sb_cons (ss_if (st_eq hr (se_mod (se_v 1) se_i) se_i) (sb_one (ss_set 4 C (se_ix hr se_s (se_mod (se_div (se_v 2) se_i) se_i)))) sb_nil) (sb_cons (ss_if (st_lt (se_mod (se_v 1) se_i) se_i) (sb_one (ss_ret (se_add (se_add (se_sl (se_v 0) sp_n (sp_s (se_v 3))) (se_v 4)) (se_sl (se_v 0) (sp_s (se_v 3)) sp_n)))) sb_nil) (sb_cons (ss_if (st_eq hr (se_mod (se_v 1) se_i) se_i) (sb_one (ss_ret (se_add (se_sl (se_v 0) sp_n (sp_s (se_v 3))) (se_sl (se_v 0) (sp_s (se_add (se_v 3) se_i)) sp_n)))) sb_nil) (sb_one (ss_ret (se_add (se_add (se_sl (se_v 0) sp_n (sp_s (se_v 3))) (se_v 4)) (se_sl (se_v 0) (sp_s (se_add (se_v 3) se_i)) sp_n))))))))
theorem sc__law_text_by : FnScope ["_law_script", "_law_kind", "_law_parts", "_law_cell", "_law_c", "_law_word"] ["_law_script", "_law_kind"] (defScope s__law_text_by) := ⟨rfl, rfl, rfl, by decide +kernel, rfl, by decide +kernel, by decide +kernel⟩
theorem d__law_text_by {P : Program} {w : World} {K : PySem.W.Frag} {mg : Str → Option Value} {base : Heap} (T : Tx K mg) (d__law_cells : DefAt P w K mg base "_law_cells" 2 ["_law_script", "_law_first", "_law_last"] m__law_cells) (d__law_number_text : DefAt P w K mg base "_law_number_text" 1 ["_law_a"] m__law_number_text) (d__law_number_by : DefAt P w K mg base "_law_number_by" 3 ["_law_cell", "_law_kind"] m__law_number_by) : DefAt P w K mg base "_law_text_by" 4 ["_law_script", "_law_kind"] m__law_text_by :=
  def_at (kk := 3) T.f__law_text_by sc__law_text_by fun g X E B cdv A outer s H hX hr C => by
    subst hX
    exact sb_cons (ss_setO 2 C (so_lst sa_nil)) (sb_cons (ss_for C (si_list (se_call d__law_cells (hr.mono (by decide)) C (sa_cons (se_v 0) (sa_cons se_i (sa_cons se_i sa_nil))))) (sg_n 3 C.nd) (sb_cons (ss_set 4 C (se_mod (se_v 3) (se_pow se_i se_i))) (sb_cons (ss_set 5 C (se_call d__law_number_text (hr.mono (by decide)) C (sa_cons (se_call d__law_number_by (hr.mono (by decide)) C (sa_cons (se_div (se_v 4) se_i) (sa_cons (se_v 1) sa_nil))) sa_nil))) (sb_one (ss_app 2 (se_add (se_add (se_add (se_add (se_str T.b_str (sa_cons (se_mod (se_v 4) se_i) sa_nil)) se_s) (se_str T.b_str (sa_cons (se_mod (se_div (se_v 4) se_i) se_i) sa_nil))) se_s) (se_v 5))))))) (sb_cons (ss_fz 2 (ss_if (st_eq hr (se_v 2) (se_o (so_lst sa_nil))) (sb_one (ss_setO 2 C (so_lst (sa_cons se_s sa_nil)))) sb_nil)) (sb_one (ss_fz 2 (ss_ret (se_v 2))))))
theorem sc__law_odd : FnScope ["_law_cell", "_law_some"] ["_law_cell"] (defScope s__law_odd) := ⟨rfl, rfl, rfl, by decide +kernel, rfl, by decide +kernel, by decide +kernel⟩
theorem d__law_odd {P : Program} {w : World} {K : PySem.W.Frag} {mg : Str → Option Value} {base : Heap} (T : Tx K mg) : DefAt P w K mg base "_law_odd" 1 ["_law_cell"] m__law_odd :=
  def_at (kk := 0) T.f__law_odd sc__law_odd fun g X E B cdv A outer s H hX hr C => by
    subst hX
    exact sb_cons (ss_set 1 C (se_o (so_lst (sa_cons se_s (sa_cons se_s (sa_cons se_s (sa_cons se_s (sa_cons se_s (sa_cons se_s (sa_cons se_s (sa_cons se_s (sa_cons se_s (sa_cons se_s (sa_cons se_s (sa_cons se_s (sa_cons se_s sa_nil)))))))))))))))) (sb_cons (ss_set 1 C (se_add (se_v 1) (se_o (so_lst (sa_cons se_s (sa_cons se_s (sa_cons se_s (sa_cons se_s (sa_cons se_s (sa_cons se_s (sa_cons se_s (sa_cons se_s (sa_cons se_s (sa_cons se_s sa_nil)))))))))))))) (sb_one (ss_ret (se_ix hr (se_v 1) (se_mod (se_v 0) (se_len T.b_len (sa_cons (se_v 1) sa_nil)))))))
theorem sc__law_plane : FnScope ["_law_part", "_law_words"] ["_law_part"] (defScope s__law_plane) := ⟨rfl, rfl, rfl, by decide +kernel, rfl, by decide +kernel, by decide +kernel⟩
theorem d__law_plane {P : Program} {w : World} {K : PySem.W.Frag} {mg : Str → Option Value} {base : Heap} (T : Tx K mg) (d__law_number : DefAt P w K mg base "_law_number" 2 ["_law_word"] m__law_number) : DefAt P w K mg base "_law_plane" 3 ["_law_part"] m__law_plane :=
  def_at (kk := 2) T.f__law_plane sc__law_plane fun g X E B cdv A outer s H hX hr C => by
    subst hX
    exact sb_cons (ss_set 1 C (se_o (so_split (se_v 0) se_s))) (sb_cons (ss_if (st_w (sw_or (st_ne hr (se_len T.b_len (sa_cons (se_v 1) sa_nil)) se_i) (sw_or (st_ne hr (se_len T.b_len (sa_cons (se_ix hr (se_v 1) se_i) sa_nil)) se_i) (sw_or1 (st_ne hr (se_len T.b_len (sa_cons (se_ix hr (se_v 1) se_i) sa_nil)) se_i))))) (sb_one (ss_ret se_n)) sb_nil) (sb_cons (ss_if (st_w (sw_or (st_notin hr (se_ix hr (se_v 1) se_i) se_s) (sw_or (st_notin hr (se_ix hr (se_v 1) se_i) se_s) (sw_or1 (st_isn (se_call d__law_number (hr.mono (by decide)) C (sa_cons (se_ix hr (se_v 1) se_i) sa_nil)) se_n))))) (sb_one (ss_ret se_n)) sb_nil) (sb_one (ss_ret (se_tup (sa_cons (se_index se_s (se_ix hr (se_v 1) se_i)) (sa_cons (se_index se_s (se_ix hr (se_v 1) se_i)) (sa_cons (se_call d__law_number (hr.mono (by decide)) C (sa_cons (se_ix hr (se_v 1) se_i) sa_nil)) sa_nil))))))))
theorem sc__law_due : FnScope ["_law_thing", "_law_found", "_law_at", "_law_part", "_law_plane_here", "_law_slope", "_law_i", "_law_j"] ["_law_thing"] (defScope s__law_due) := ⟨rfl, rfl, rfl, by decide +kernel, rfl, by decide +kernel, by decide +kernel⟩
theorem d__law_due {P : Program} {w : World} {K : PySem.W.Frag} {mg : Str → Option Value} {base : Heap} (T : Tx K mg) (d__law_plane : DefAt P w K mg base "_law_plane" 3 ["_law_part"] m__law_plane) (d__law_below : DefAt P w K mg base "_law_below" 1 ["_law_a", "_law_b"] m__law_below) : DefAt P w K mg base "_law_due" 4 ["_law_thing"] m__law_due :=
  def_at (kk := 3) T.f__law_due sc__law_due fun g X E B cdv A outer s H hX hr C => by
    subst hX
    exact sb_cons (ss_if (st_not (st_val (se_isi (x := "str") (T := "str") (se_v 0) T.b_isinstance T.b_str (by decide +kernel)))) (sb_one (ss_ret (se_tup (sa_cons se_i (sa_cons (se_neg se_i) sa_nil))))) sb_nil) (sb_cons (ss_setD 1 C) (sb_cons (ss_for C (si_enum T.b_enumerate (sa_cons (se_o (so_split (se_v 0) se_s)) sa_nil)) (sg_t C.calm (sgs_cons (sg_n 2 C.nd) (sgs_cons (sg_n 3 C.nd) sgs_nil))) (sb_cons (ss_set 4 C (se_call d__law_plane (hr.mono (by decide)) C (sa_cons (se_v 3) sa_nil))) (sb_cons (ss_if (st_isn (se_v 4) se_n) (sb_one (ss_ret (se_tup (sa_cons se_i (sa_cons (se_v 2) sa_nil))))) sb_nil) (sb_cons (ss_set 5 C (se_slT (se_v 4) sp_n (sp_s se_i))) (sb_one (ss_if (st_pk 1 (st_w (sw_or (st_notin hr (se_v 5) (se_v 1)) (sw_or1 (st_val (se_call d__law_below (hr.mono (by decide)) C (sa_cons (se_ix hr (se_v 1) (se_v 5)) (sa_cons (se_ix hr (se_v 4) se_i) sa_nil)))))))) (sb_one (ss_putD 1 hr (se_v 5) (se_ix hr (se_v 4) se_i))) sb_nil)))))) (sb_cons (ss_fz 1 (ss_if (st_gt (se_len T.b_len (sa_cons (se_v 1) sa_nil)) se_i) (sb_one (ss_ret (se_tup (sa_cons se_i (sa_cons se_i sa_nil))))) sb_nil)) (sb_one (ss_fz 1 (ss_retO (so_lc [("_law_i", 6), ("_law_j", 7)] [6, 7] C (si_list (se_o (so_sorted hr C T.b_sorted (sa_cons (se_v 1) sa_nil)))) (blkOk_by (own := [("_law_i", 6), ("_law_j", 7)]) (N := ["_law_thing", "_law_found", "_law_at", "_law_part", "_law_plane_here", "_law_slope", "_law_i", "_law_j"]) (sc := defScope s__law_due) (by decide +kernel)) (fun _ _ _ _ _ => sg_t C.blk.calm (sgs_cons (sg_n 6 C.blk.nd) (sgs_cons (sg_n 7 C.blk.nd) sgs_nil))) (fun _ _ _ _ _ => sts_nil) (fun _ _ _ _ _ => se_tup (sa_cons (se_v 6) (sa_cons (se_v 7) (sa_cons (se_ix (by exact hr) (se_v 1) (se_tup (sa_cons (se_v 6) (sa_cons (se_v 7) sa_nil)))) sa_nil)))))))))))
theorem sc__law_asked : FnScope ["_law_thing", "_law_found", "_law_told", "_law_at", "_law_e", "_law_number_here"] ["_law_thing"] (defScope s__law_asked) := ⟨rfl, rfl, rfl, by decide +kernel, rfl, by decide +kernel, by decide +kernel⟩
theorem d__law_asked {P : Program} {w : World} {K : PySem.W.Frag} {mg : Str → Option Value} {base : Heap} (T : Tx K mg) (d_read : DefAt P w K mg base "read" 5 ["thing"] m_read) (d__law_marks : DefX P w K mg base "_law_marks" 1 m__law_marks) (d__law_only : DefAt P w K mg base "_law_only" 1 ["_law_at"] m__law_only) (d__law_whole : DefAt P w K mg base "_law_whole" 1 ["_law_found"] m__law_whole) : DefAt P w K mg base "_law_asked" 6 ["_law_thing"] m__law_asked :=
  def_at (kk := 5) T.f__law_asked sc__law_asked fun g X E B cdv A outer s H hX hr C => by
    subst hX
    exact sb_cons (ss_set 1 C se_n) (sb_cons (ss_set 2 C se_n) (sb_cons (ss_set 3 C se_i) (sb_cons (ss_tryN C (fun _ _ _ C => sb_one (ss_set 1 C (se_call d_read (by exact hr.mono (by decide)) C (sa_cons (se_v 0) sa_nil)))) (scl_cons (c := "NoText") 4 T.h_NoText (fun _ _ _ _ _ HX => sb_cons (ss_setN 2 C.nd (se_callx d__law_marks 4 HX (by exact roomS (by exact hr) (by decide)))) (sb_one (ss_setN 3 C.nd (se_fldx 4 HX T.fl_NoText)))) (scl_cons (c := "RoofError") 4 T.h_RoofError (fun _ _ _ _ _ HX => sb_one (ss_setN 2 C.nd (se_callx d__law_marks 4 HX (by exact roomS (by exact hr) (by decide))))) .nil))) (sb_cons (ss_if (st_isn (se_v 2) se_n) (sb_one (ss_ret (se_v 1))) sb_nil) (sb_cons (ss_for C (si_tup (se_tup (sa_cons se_i (sa_cons se_i sa_nil)))) (sg_n 5 C.nd) (sb_one (ss_if (st_w (sw_and (st_eq hr (se_v 2) (se_call d__law_only (hr.mono (by decide)) C (sa_cons (se_v 5) sa_nil))) (sw_and1 (st_val (se_call d__law_whole (hr.mono (by decide)) C (sa_cons (se_v 3) sa_nil)))))) (sb_one (ss_ret (se_tup (sa_cons (se_v 5) (sa_cons (se_v 3) sa_nil))))) sb_nil))) (sb_one (ss_ret se_n)))))))
theorem sc_law : FnScope ["_law_script", "_law_kind", "_law_parts", "_law_c", "_law_thing", "_law_at", "_law_due_here", "_law_turn", "_law_found", "_law_plane_here"] ["_law_script"] (defScope s_law) := ⟨rfl, rfl, rfl, by decide +kernel, rfl, by decide +kernel, by decide +kernel⟩
theorem d_law {P : Program} {w : World} {K : PySem.W.Frag} {mg : Str → Option Value} {base : Heap} (T : Tx K mg) (d__law_cell_at : DefAt P w K mg base "_law_cell_at" 1 ["_law_script", "_law_k"] m__law_cell_at) (d__law_text_by : DefAt P w K mg base "_law_text_by" 4 ["_law_script", "_law_kind"] m__law_text_by) (d__law_changed : DefAt P w K mg base "_law_changed" 2 ["_law_text", "_law_way", "_law_cell"] m__law_changed) (d__law_odd : DefAt P w K mg base "_law_odd" 1 ["_law_cell"] m__law_odd) (d__law_due : DefAt P w K mg base "_law_due" 4 ["_law_thing"] m__law_due) (d__law_asked : DefAt P w K mg base "_law_asked" 6 ["_law_thing"] m__law_asked) (d__law_is_fraction : DefAt P w K mg base "_law_is_fraction" 2 ["_law_found"] m__law_is_fraction) (i_NoText : IniAt P w K mg base "NoText" "at") {g : Addr} (X : Cx) (E : XK) (B : Bs) (cdv : Value) (A : Around) (outer : List PySem.Env) (s : Shared) (H : Hp) (hX : X = cxOf (L2.CX P w) P w K mg base ["_law_script", "_law_kind", "_law_parts", "_law_c", "_law_thing", "_law_at", "_law_due_here", "_law_turn", "_law_found", "_law_plane_here"] "law" (defScope s_law) g cdv A outer s H E) (hr : Room 6 X.A) (C : Cxt X (WD E)) : SSs X B (WD E) (defBody s_law) mb_law := by
  subst hX
  exact sb_cons (ss_set 1 C (se_call d__law_cell_at (hr.mono (by decide)) C (sa_cons (se_v 0) (sa_cons se_i sa_nil)))) (sb_cons (ss_set 2 C (se_call d__law_text_by (hr.mono (by decide)) C (sa_cons (se_v 0) (sa_cons (se_v 1) sa_nil)))) (sb_cons (ss_set 3 C (se_mod (se_call d__law_cell_at (hr.mono (by decide)) C (sa_cons (se_v 0) (sa_cons se_i sa_nil))) (se_pow se_i se_i))) (sb_cons (ss_set 4 C (se_join se_s (se_v 2))) (sb_cons (ss_if (st_eq hr (se_mod (se_div (se_v 1) se_i) se_i) se_i) (sb_one (ss_set 4 C (se_call d__law_changed (hr.mono (by decide)) C (sa_cons (se_v 4) (sa_cons (se_div (se_v 1) se_i) (sa_cons (se_v 3) sa_nil)))))) sb_nil) (sb_cons (ss_if (st_eq hr (se_mod (se_div (se_v 1) se_i) se_i) se_i) (sb_cons (ss_set 5 C (se_mod (se_v 3) (se_add (se_len T.b_len (sa_cons (se_v 2) sa_nil)) se_i))) (sb_one (ss_set 4 C (se_join se_s (se_add (se_add (se_sl (se_v 2) sp_n (sp_s (se_v 5))) (se_o (so_lst (sa_cons (se_call d__law_odd (hr.mono (by decide)) C (sa_cons (se_div (se_v 3) se_i) sa_nil)) sa_nil)))) (se_sl (se_v 2) (sp_s (se_v 5)) sp_n)))))) sb_nil) (sb_cons (ss_if (st_eq hr (se_mod (se_div (se_v 1) se_i) se_i) se_i) (sb_cons (ss_set 4 C (se_call d__law_changed (hr.mono (by decide)) C (sa_cons (se_join se_s (se_v 2)) (sa_cons (se_div (se_v 1) se_i) (sa_cons (se_add (se_mod (se_v 3) (se_len T.b_len (sa_cons (se_v 4) sa_nil))) (se_mul se_i (se_mod (se_v 3) se_i))) sa_nil))))) (sb_one (ss_if (st_eq hr (se_mod (se_v 3) se_i) se_i) (sb_one (ss_set 4 C (se_ix hr (se_tup (sa_cons se_n (sa_cons se_i (sa_cons (se_v 2) (sa_cons (se_tup (sa_cons se_s sa_nil)) (sa_cons se_b (sa_cons se_d0 sa_nil))))))) (se_mod (se_div (se_v 3) se_i) se_i)))) sb_nil))) sb_nil) (sb_cons (ss_set 6 C (se_call d__law_due (hr.mono (by decide)) C (sa_cons (se_v 4) sa_nil))) (sb_cons (ss_if (st_ne hr (se_mkFld (c := "NoText") i_NoText T.fl_NoText (hr.mono (by decide)) (se_sub (se_mod (se_v 1) se_i) se_i)) (se_sub (se_mod (se_v 1) se_i) se_i)) (sb_one (ss_ret se_b)) sb_nil) (sb_cons (ss_for C (si_r1 T.b_range (sa_cons se_i sa_nil)) (sg_n 7 C.nd) (sb_cons (ss_set 8 C (se_call d__law_asked (hr.mono (by decide)) C (sa_cons (se_v 4) sa_nil))) (sb_cons (ss_if (st_w (sw_or (st_ne hr (se_v 8) (se_v 6)) (sw_or1 (st_ne hr (se_isi (x := "list") (T := "list") (se_v 8) T.b_isinstance T.b_list (by decide +kernel)) (se_isi (x := "list") (T := "list") (se_v 6) T.b_isinstance T.b_list (by decide +kernel)))))) (sb_one (ss_ret se_b)) sb_nil) (sb_one (ss_if (st_w (sw_and (st_val (se_isi (x := "list") (T := "list") (se_v 8) T.b_isinstance T.b_list (by decide +kernel))) (sw_and1 (st_not (st_val (se_all C T.b_all (sa_cons (se_o (so_lc [("_law_plane_here", 9)] [9] C (si_list (se_v 8)) (blkOk_by (own := [("_law_plane_here", 9)]) (N := ["_law_script", "_law_kind", "_law_parts", "_law_c", "_law_thing", "_law_at", "_law_due_here", "_law_turn", "_law_found", "_law_plane_here"]) (sc := defScope s_law) (by decide +kernel)) (fun _ _ _ _ _ => sg_n 9 C.blk.nd) (fun _ _ _ _ _ => sts_nil) (fun _ _ _ _ _ => se_call d__law_is_fraction (by exact hr.mono (by decide)) C.blk (sa_cons (se_ix (by exact hr) (se_v 9) se_i) sa_nil)))) sa_nil))))))) (sb_one (ss_ret se_b)) sb_nil))))) (sb_one (ss_ret se_b)))))))))))
theorem tx_mk {K : PySem.W.Frag} {h : Heap} {mg : Str → Option Value} (X : K.In h) (G : h.Ns mainGlobals mg)
    {g0 : Addr} {od0 an0 : Option Addr} {sl0 : Array (Option Value)} {oc0 kV0 dc0 pm0 cd0 ct0 : Value}
    {g1 : Addr} {od1 an1 : Option Addr} {sl1 : Array (Option Value)} {oc1 kV1 dc1 pm1 cd1 ct1 : Value}
    {g2 : Addr} {od2 an2 : Option Addr} {sl2 : Array (Option Value)} {oc2 kV2 dc2 pm2 cd2 ct2 : Value}
    {g3 : Addr} {od3 an3 : Option Addr} {sl3 : Array (Option Value)} {oc3 kV3 dc3 pm3 cd3 ct3 : Value}
    {g4 : Addr} {od4 an4 : Option Addr} {sl4 : Array (Option Value)} {oc4 kV4 dc4 pm4 cd4 ct4 : Value}
    {g5 : Addr} {od5 an5 : Option Addr} {sl5 : Array (Option Value)} {oc5 kV5 dc5 pm5 cd5 ct5 : Value}
    {g6 : Addr} {od6 an6 : Option Addr} {sl6 : Array (Option Value)} {oc6 kV6 dc6 pm6 cd6 ct6 : Value}
    {g7 : Addr} {od7 an7 : Option Addr} {sl7 : Array (Option Value)} {oc7 kV7 dc7 pm7 cd7 ct7 : Value}
    {g8 : Addr} {od8 an8 : Option Addr} {sl8 : Array (Option Value)} {oc8 kV8 dc8 pm8 cd8 ct8 : Value}
    {g9 : Addr} {od9 an9 : Option Addr} {sl9 : Array (Option Value)} {oc9 kV9 dc9 pm9 cd9 ct9 : Value}
    {g10 : Addr} {od10 an10 : Option Addr} {sl10 : Array (Option Value)} {oc10 kV10 dc10 pm10 cd10 ct10 : Value}
    {g11 : Addr} {od11 an11 : Option Addr} {sl11 : Array (Option Value)} {oc11 kV11 dc11 pm11 cd11 ct11 : Value}
    {g12 : Addr} {od12 an12 : Option Addr} {sl12 : Array (Option Value)} {oc12 kV12 dc12 pm12 cd12 ct12 : Value}
    {g13 : Addr} {od13 an13 : Option Addr} {sl13 : Array (Option Value)} {oc13 kV13 dc13 pm13 cd13 ct13 : Value}
    {g14 : Addr} {od14 an14 : Option Addr} {sl14 : Array (Option Value)} {oc14 kV14 dc14 pm14 cd14 ct14 : Value}
    {g15 : Addr} {od15 an15 : Option Addr} {sl15 : Array (Option Value)} {oc15 kV15 dc15 pm15 cd15 ct15 : Value}
    {g16 : Addr} {od16 an16 : Option Addr} {sl16 : Array (Option Value)} {oc16 kV16 dc16 pm16 cd16 ct16 : Value}
    {g17 : Addr} {od17 an17 : Option Addr} {sl17 : Array (Option Value)} {oc17 kV17 dc17 pm17 cd17 ct17 : Value}
    {g18 : Addr} {od18 an18 : Option Addr} {sl18 : Array (Option Value)} {oc18 kV18 dc18 pm18 cd18 ct18 : Value}
    {g19 : Addr} {od19 an19 : Option Addr} {sl19 : Array (Option Value)} {oc19 kV19 dc19 pm19 cd19 ct19 : Value}
    {g20 : Addr} {od20 an20 : Option Addr} {sl20 : Array (Option Value)} {oc20 kV20 dc20 pm20 cd20 ct20 : Value}
    {g21 : Addr} {od21 an21 : Option Addr} {sl21 : Array (Option Value)} {oc21 kV21 dc21 pm21 cd21 ct21 : Value}
    {g22 : Addr} {od22 an22 : Option Addr} {sl22 : Array (Option Value)} {oc22 kV22 dc22 pm22 cd22 ct22 : Value}
    {g23 : Addr} {od23 an23 : Option Addr} {sl23 : Array (Option Value)} {oc23 kV23 dc23 pm23 cd23 ct23 : Value}
    {g24 : Addr} {od24 an24 : Option Addr} {sl24 : Array (Option Value)} {oc24 kV24 dc24 pm24 cd24 ct24 : Value}
    {g25 : Addr} {od25 an25 : Option Addr} {sl25 : Array (Option Value)} {oc25 kV25 dc25 pm25 cd25 ct25 : Value}
    {g26 : Addr} {od26 an26 : Option Addr} {sl26 : Array (Option Value)} {oc26 kV26 dc26 pm26 cd26 ct26 : Value}
    {g27 : Addr} {od27 an27 : Option Addr} {sl27 : Array (Option Value)} {oc27 kV27 dc27 pm27 cd27 ct27 : Value}
    {g28 : Addr} {od28 an28 : Option Addr} {sl28 : Array (Option Value)} {oc28 kV28 dc28 pm28 cd28 ct28 : Value}
    {g29 : Addr} {od29 an29 : Option Addr} {sl29 : Array (Option Value)} {oc29 kV29 dc29 pm29 cd29 ct29 : Value}
    {t_STEEPEST : Tok}
    {t_MOST : Tok}
    {t_LONGEST : Tok}
    {t_FIGURES : Tok}
    {t_STEPS : Tok}
    {x_NoFraction : Addr}
    {x_NoRoof : Addr}
    {x_TooSteep : Addr}
    {x_TooMany : Addr}
    {x_NoNumber : Addr}
    {x_NoText : Addr}
    {x_RoofError : Addr}
    {x_NoRow : Addr}
    {x_NoDealing : Addr}
    {x_NoCorner : Addr}
    {x_NoName : Addr}
    {oN_NoText oQ_NoText : Str} {oD_NoText f_NoText : Addr} {oB_NoText oM_NoText : List Value} {oS_NoText : List Str} {oU_NoText : List Value} {oA_NoText : Bool} {oC_NoText : Option Bool} {oE_NoText : Option Addr} {o0_NoText o1_NoText o2_NoText o3_NoText o5_NoText : Option Value} {io_NoText ia_NoText : Option Addr} {isl_NoText : Array (Option Value)} {ic_NoText ik_NoText idc_NoText ipm_NoText icd_NoText ict_NoText : Value}
    (a0 : PySem.W.nsIn K mainGlobals "divisor" = some (some (.ref g0))) (l0 : K.lookup g0 = some ⟨oc0, od0, .func (PySem.W.fnOf "divisor" "divisor" (defArgs s_divisor) (defBody s_divisor) (defScope s_divisor) .none kV0 dc0 pm0 an0 cd0 ct0), sl0⟩) (k0 : PySem.W.codeIn K cd0 "divisor" = true) (p0 : PySem.W.keepIn K (.ref g0) = true)
    (a1 : PySem.W.nsIn K mainGlobals "fraction" = some (some (.ref g1))) (l1 : K.lookup g1 = some ⟨oc1, od1, .func (PySem.W.fnOf "fraction" "fraction" (defArgs s_fraction) (defBody s_fraction) (defScope s_fraction) .none kV1 dc1 pm1 an1 cd1 ct1), sl1⟩) (k1 : PySem.W.codeIn K cd1 "fraction" = true) (p1 : PySem.W.keepIn K (.ref g1) = true)
    (a2 : PySem.W.nsIn K mainGlobals "less" = some (some (.ref g2))) (l2 : K.lookup g2 = some ⟨oc2, od2, .func (PySem.W.fnOf "less" "less" (defArgs s_less) (defBody s_less) (defScope s_less) .none kV2 dc2 pm2 an2 cd2 ct2), sl2⟩) (k2 : PySem.W.codeIn K cd2 "less" = true) (p2 : PySem.W.keepIn K (.ref g2) = true)
    (a3 : PySem.W.nsIn K mainGlobals "roof_of" = some (some (.ref g3))) (l3 : K.lookup g3 = some ⟨oc3, od3, .func (PySem.W.fnOf "roof_of" "roof_of" (defArgs s_roof_of) (defBody s_roof_of) (defScope s_roof_of) .none kV3 dc3 pm3 an3 cd3 ct3), sl3⟩) (k3 : PySem.W.codeIn K cd3 "roof_of" = true) (p3 : PySem.W.keepIn K (.ref g3) = true)
    (a4 : PySem.W.nsIn K mainGlobals "whole_of" = some (some (.ref g4))) (l4 : K.lookup g4 = some ⟨oc4, od4, .func (PySem.W.fnOf "whole_of" "whole_of" (defArgs s_whole_of) (defBody s_whole_of) (defScope s_whole_of) .none kV4 dc4 pm4 an4 cd4 ct4), sl4⟩) (k4 : PySem.W.codeIn K cd4 "whole_of" = true) (p4 : PySem.W.keepIn K (.ref g4) = true)
    (a5 : PySem.W.nsIn K mainGlobals "top_of" = some (some (.ref g5))) (l5 : K.lookup g5 = some ⟨oc5, od5, .func (PySem.W.fnOf "top_of" "top_of" (defArgs s_top_of) (defBody s_top_of) (defScope s_top_of) .none kV5 dc5 pm5 an5 cd5 ct5), sl5⟩) (k5 : PySem.W.codeIn K cd5 "top_of" = true) (p5 : PySem.W.keepIn K (.ref g5) = true)
    (a6 : PySem.W.nsIn K mainGlobals "number_of" = some (some (.ref g6))) (l6 : K.lookup g6 = some ⟨oc6, od6, .func (PySem.W.fnOf "number_of" "number_of" (defArgs s_number_of) (defBody s_number_of) (defScope s_number_of) .none kV6 dc6 pm6 an6 cd6 ct6), sl6⟩) (k6 : PySem.W.codeIn K cd6 "number_of" = true) (p6 : PySem.W.keepIn K (.ref g6) = true)
    (a7 : PySem.W.nsIn K mainGlobals "is_step" = some (some (.ref g7))) (l7 : K.lookup g7 = some ⟨oc7, od7, .func (PySem.W.fnOf "is_step" "is_step" (defArgs s_is_step) (defBody s_is_step) (defScope s_is_step) .none kV7 dc7 pm7 an7 cd7 ct7), sl7⟩) (k7 : PySem.W.codeIn K cd7 "is_step" = true) (p7 : PySem.W.keepIn K (.ref g7) = true)
    (a8 : PySem.W.nsIn K mainGlobals "plane_of" = some (some (.ref g8))) (l8 : K.lookup g8 = some ⟨oc8, od8, .func (PySem.W.fnOf "plane_of" "plane_of" (defArgs s_plane_of) (defBody s_plane_of) (defScope s_plane_of) .none kV8 dc8 pm8 an8 cd8 ct8), sl8⟩) (k8 : PySem.W.codeIn K cd8 "plane_of" = true) (p8 : PySem.W.keepIn K (.ref g8) = true)
    (a9 : PySem.W.nsIn K mainGlobals "read" = some (some (.ref g9))) (l9 : K.lookup g9 = some ⟨oc9, od9, .func (PySem.W.fnOf "read" "read" (defArgs s_read) (defBody s_read) (defScope s_read) .none kV9 dc9 pm9 an9 cd9 ct9), sl9⟩) (k9 : PySem.W.codeIn K cd9 "read" = true) (p9 : PySem.W.keepIn K (.ref g9) = true)
    (a10 : PySem.W.nsIn K mainGlobals "_law_cell_at" = some (some (.ref g10))) (l10 : K.lookup g10 = some ⟨oc10, od10, .func (PySem.W.fnOf "_law_cell_at" "_law_cell_at" (defArgs s__law_cell_at) (defBody s__law_cell_at) (defScope s__law_cell_at) .none kV10 dc10 pm10 an10 cd10 ct10), sl10⟩) (k10 : PySem.W.codeIn K cd10 "_law_cell_at" = true) (p10 : PySem.W.keepIn K (.ref g10) = true)
    (a11 : PySem.W.nsIn K mainGlobals "_law_cells" = some (some (.ref g11))) (l11 : K.lookup g11 = some ⟨oc11, od11, .func (PySem.W.fnOf "_law_cells" "_law_cells" (defArgs s__law_cells) (defBody s__law_cells) (defScope s__law_cells) .none kV11 dc11 pm11 an11 cd11 ct11), sl11⟩) (k11 : PySem.W.codeIn K cd11 "_law_cells" = true) (p11 : PySem.W.keepIn K (.ref g11) = true)
    (a12 : PySem.W.nsIn K mainGlobals "_law_whole" = some (some (.ref g12))) (l12 : K.lookup g12 = some ⟨oc12, od12, .func (PySem.W.fnOf "_law_whole" "_law_whole" (defArgs s__law_whole) (defBody s__law_whole) (defScope s__law_whole) .none kV12 dc12 pm12 an12 cd12 ct12), sl12⟩) (k12 : PySem.W.codeIn K cd12 "_law_whole" = true) (p12 : PySem.W.keepIn K (.ref g12) = true)
    (a13 : PySem.W.nsIn K mainGlobals "_law_divisor" = some (some (.ref g13))) (l13 : K.lookup g13 = some ⟨oc13, od13, .func (PySem.W.fnOf "_law_divisor" "_law_divisor" (defArgs s__law_divisor) (defBody s__law_divisor) (defScope s__law_divisor) .none kV13 dc13 pm13 an13 cd13 ct13), sl13⟩) (k13 : PySem.W.codeIn K cd13 "_law_divisor" = true) (p13 : PySem.W.keepIn K (.ref g13) = true)
    (a14 : PySem.W.nsIn K mainGlobals "_law_fraction" = some (some (.ref g14))) (l14 : K.lookup g14 = some ⟨oc14, od14, .func (PySem.W.fnOf "_law_fraction" "_law_fraction" (defArgs s__law_fraction) (defBody s__law_fraction) (defScope s__law_fraction) .none kV14 dc14 pm14 an14 cd14 ct14), sl14⟩) (k14 : PySem.W.codeIn K cd14 "_law_fraction" = true) (p14 : PySem.W.keepIn K (.ref g14) = true)
    (a15 : PySem.W.nsIn K mainGlobals "_law_is_fraction" = some (some (.ref g15))) (l15 : K.lookup g15 = some ⟨oc15, od15, .func (PySem.W.fnOf "_law_is_fraction" "_law_is_fraction" (defArgs s__law_is_fraction) (defBody s__law_is_fraction) (defScope s__law_is_fraction) .none kV15 dc15 pm15 an15 cd15 ct15), sl15⟩) (k15 : PySem.W.codeIn K cd15 "_law_is_fraction" = true) (p15 : PySem.W.keepIn K (.ref g15) = true)
    (a16 : PySem.W.nsIn K mainGlobals "_law_below" = some (some (.ref g16))) (l16 : K.lookup g16 = some ⟨oc16, od16, .func (PySem.W.fnOf "_law_below" "_law_below" (defArgs s__law_below) (defBody s__law_below) (defScope s__law_below) .none kV16 dc16 pm16 an16 cd16 ct16), sl16⟩) (k16 : PySem.W.codeIn K cd16 "_law_below" = true) (p16 : PySem.W.keepIn K (.ref g16) = true)
    (a17 : PySem.W.nsIn K mainGlobals "_law_marks" = some (some (.ref g17))) (l17 : K.lookup g17 = some ⟨oc17, od17, .func (PySem.W.fnOf "_law_marks" "_law_marks" (defArgs s__law_marks) (defBody s__law_marks) (defScope s__law_marks) .none kV17 dc17 pm17 an17 cd17 ct17), sl17⟩) (k17 : PySem.W.codeIn K cd17 "_law_marks" = true) (p17 : PySem.W.keepIn K (.ref g17) = true)
    (a18 : PySem.W.nsIn K mainGlobals "_law_only" = some (some (.ref g18))) (l18 : K.lookup g18 = some ⟨oc18, od18, .func (PySem.W.fnOf "_law_only" "_law_only" (defArgs s__law_only) (defBody s__law_only) (defScope s__law_only) .none kV18 dc18 pm18 an18 cd18 ct18), sl18⟩) (k18 : PySem.W.codeIn K cd18 "_law_only" = true) (p18 : PySem.W.keepIn K (.ref g18) = true)
    (a19 : PySem.W.nsIn K mainGlobals "_law_number_by" = some (some (.ref g19))) (l19 : K.lookup g19 = some ⟨oc19, od19, .func (PySem.W.fnOf "_law_number_by" "_law_number_by" (defArgs s__law_number_by) (defBody s__law_number_by) (defScope s__law_number_by) .none kV19 dc19 pm19 an19 cd19 ct19), sl19⟩) (k19 : PySem.W.codeIn K cd19 "_law_number_by" = true) (p19 : PySem.W.keepIn K (.ref g19) = true)
    (a20 : PySem.W.nsIn K mainGlobals "_law_number_text" = some (some (.ref g20))) (l20 : K.lookup g20 = some ⟨oc20, od20, .func (PySem.W.fnOf "_law_number_text" "_law_number_text" (defArgs s__law_number_text) (defBody s__law_number_text) (defScope s__law_number_text) .none kV20 dc20 pm20 an20 cd20 ct20), sl20⟩) (k20 : PySem.W.codeIn K cd20 "_law_number_text" = true) (p20 : PySem.W.keepIn K (.ref g20) = true)
    (a21 : PySem.W.nsIn K mainGlobals "_law_figures" = some (some (.ref g21))) (l21 : K.lookup g21 = some ⟨oc21, od21, .func (PySem.W.fnOf "_law_figures" "_law_figures" (defArgs s__law_figures) (defBody s__law_figures) (defScope s__law_figures) .none kV21 dc21 pm21 an21 cd21 ct21), sl21⟩) (k21 : PySem.W.codeIn K cd21 "_law_figures" = true) (p21 : PySem.W.keepIn K (.ref g21) = true)
    (a22 : PySem.W.nsIn K mainGlobals "_law_number" = some (some (.ref g22))) (l22 : K.lookup g22 = some ⟨oc22, od22, .func (PySem.W.fnOf "_law_number" "_law_number" (defArgs s__law_number) (defBody s__law_number) (defScope s__law_number) .none kV22 dc22 pm22 an22 cd22 ct22), sl22⟩) (k22 : PySem.W.codeIn K cd22 "_law_number" = true) (p22 : PySem.W.keepIn K (.ref g22) = true)
    (a23 : PySem.W.nsIn K mainGlobals "_law_sign_by" = some (some (.ref g23))) (l23 : K.lookup g23 = some ⟨oc23, od23, .func (PySem.W.fnOf "_law_sign_by" "_law_sign_by" (defArgs s__law_sign_by) (defBody s__law_sign_by) (defScope s__law_sign_by) .none kV23 dc23 pm23 an23 cd23 ct23), sl23⟩) (k23 : PySem.W.codeIn K cd23 "_law_sign_by" = true) (p23 : PySem.W.keepIn K (.ref g23) = true)
    (a24 : PySem.W.nsIn K mainGlobals "_law_changed" = some (some (.ref g24))) (l24 : K.lookup g24 = some ⟨oc24, od24, .func (PySem.W.fnOf "_law_changed" "_law_changed" (defArgs s__law_changed) (defBody s__law_changed) (defScope s__law_changed) .none kV24 dc24 pm24 an24 cd24 ct24), sl24⟩) (k24 : PySem.W.codeIn K cd24 "_law_changed" = true) (p24 : PySem.W.keepIn K (.ref g24) = true)
    (a25 : PySem.W.nsIn K mainGlobals "_law_text_by" = some (some (.ref g25))) (l25 : K.lookup g25 = some ⟨oc25, od25, .func (PySem.W.fnOf "_law_text_by" "_law_text_by" (defArgs s__law_text_by) (defBody s__law_text_by) (defScope s__law_text_by) .none kV25 dc25 pm25 an25 cd25 ct25), sl25⟩) (k25 : PySem.W.codeIn K cd25 "_law_text_by" = true) (p25 : PySem.W.keepIn K (.ref g25) = true)
    (a26 : PySem.W.nsIn K mainGlobals "_law_odd" = some (some (.ref g26))) (l26 : K.lookup g26 = some ⟨oc26, od26, .func (PySem.W.fnOf "_law_odd" "_law_odd" (defArgs s__law_odd) (defBody s__law_odd) (defScope s__law_odd) .none kV26 dc26 pm26 an26 cd26 ct26), sl26⟩) (k26 : PySem.W.codeIn K cd26 "_law_odd" = true) (p26 : PySem.W.keepIn K (.ref g26) = true)
    (a27 : PySem.W.nsIn K mainGlobals "_law_plane" = some (some (.ref g27))) (l27 : K.lookup g27 = some ⟨oc27, od27, .func (PySem.W.fnOf "_law_plane" "_law_plane" (defArgs s__law_plane) (defBody s__law_plane) (defScope s__law_plane) .none kV27 dc27 pm27 an27 cd27 ct27), sl27⟩) (k27 : PySem.W.codeIn K cd27 "_law_plane" = true) (p27 : PySem.W.keepIn K (.ref g27) = true)
    (a28 : PySem.W.nsIn K mainGlobals "_law_due" = some (some (.ref g28))) (l28 : K.lookup g28 = some ⟨oc28, od28, .func (PySem.W.fnOf "_law_due" "_law_due" (defArgs s__law_due) (defBody s__law_due) (defScope s__law_due) .none kV28 dc28 pm28 an28 cd28 ct28), sl28⟩) (k28 : PySem.W.codeIn K cd28 "_law_due" = true) (p28 : PySem.W.keepIn K (.ref g28) = true)
    (a29 : PySem.W.nsIn K mainGlobals "_law_asked" = some (some (.ref g29))) (l29 : K.lookup g29 = some ⟨oc29, od29, .func (PySem.W.fnOf "_law_asked" "_law_asked" (defArgs s__law_asked) (defBody s__law_asked) (defScope s__law_asked) .none kV29 dc29 pm29 an29 cd29 ct29), sl29⟩) (k29 : PySem.W.codeIn K cd29 "_law_asked" = true) (p29 : PySem.W.keepIn K (.ref g29) = true)
    (n_abs : PySem.W.nsIn K mainGlobals "abs" = some none)
    (n_len : PySem.W.nsIn K mainGlobals "len" = some none)
    (n_sorted : PySem.W.nsIn K mainGlobals "sorted" = some none)
    (n_int : PySem.W.nsIn K mainGlobals "int" = some none)
    (n_isinstance : PySem.W.nsIn K mainGlobals "isinstance" = some none)
    (n_str : PySem.W.nsIn K mainGlobals "str" = some none)
    (n_enumerate : PySem.W.nsIn K mainGlobals "enumerate" = some none)
    (n_min : PySem.W.nsIn K mainGlobals "min" = some none)
    (n_range : PySem.W.nsIn K mainGlobals "range" = some none)
    (n_bool : PySem.W.nsIn K mainGlobals "bool" = some none)
    (n_tuple : PySem.W.nsIn K mainGlobals "tuple" = some none)
    (n_ValueError : PySem.W.nsIn K mainGlobals "ValueError" = some none)
    (n_list : PySem.W.nsIn K mainGlobals "list" = some none)
    (n_all : PySem.W.nsIn K mainGlobals "all" = some none)
    (c_STEEPEST : PySem.W.nsIn K mainGlobals "STEEPEST" = some (some (.int 8 t_STEEPEST)))
    (c_MOST : PySem.W.nsIn K mainGlobals "MOST" = some (some (.int 16 t_MOST)))
    (c_LONGEST : PySem.W.nsIn K mainGlobals "LONGEST" = some (some (.int 30 t_LONGEST)))
    (c_FIGURES : PySem.W.nsIn K mainGlobals "FIGURES" = some (some (.str "0123456789" t_FIGURES)))
    (c_STEPS : PySem.W.nsIn K mainGlobals "STEPS" = some (some (.str "012345678" t_STEPS)))
    (q_NoFraction : PySem.W.nsIn K mainGlobals "NoFraction" = some (some (.ref x_NoFraction)))
    (q_NoRoof : PySem.W.nsIn K mainGlobals "NoRoof" = some (some (.ref x_NoRoof)))
    (q_TooSteep : PySem.W.nsIn K mainGlobals "TooSteep" = some (some (.ref x_TooSteep)))
    (q_TooMany : PySem.W.nsIn K mainGlobals "TooMany" = some (some (.ref x_TooMany)))
    (q_NoNumber : PySem.W.nsIn K mainGlobals "NoNumber" = some (some (.ref x_NoNumber)))
    (q_NoText : PySem.W.nsIn K mainGlobals "NoText" = some (some (.ref x_NoText)))
    (q_RoofError : PySem.W.nsIn K mainGlobals "RoofError" = some (some (.ref x_RoofError)))
    (q_NoRow : PySem.W.nsIn K mainGlobals "NoRow" = some (some (.ref x_NoRow)))
    (q_NoDealing : PySem.W.nsIn K mainGlobals "NoDealing" = some (some (.ref x_NoDealing)))
    (q_NoCorner : PySem.W.nsIn K mainGlobals "NoCorner" = some (some (.ref x_NoCorner)))
    (q_NoName : PySem.W.nsIn K mainGlobals "NoName" = some (some (.ref x_NoName)))
    (u_NoFraction : PySem.W.subIn K (.ref x_NoFraction) (.type "BaseException") = some true) (v_NoFraction : PySem.W.typeIn K (.ref x_NoFraction) = some (.type "type")) (z_NoFraction : PySem.W.hasDictIn K x_NoFraction = true)
    (u_NoRoof : PySem.W.subIn K (.ref x_NoRoof) (.type "BaseException") = some true) (v_NoRoof : PySem.W.typeIn K (.ref x_NoRoof) = some (.type "type")) (z_NoRoof : PySem.W.hasDictIn K x_NoRoof = true)
    (u_TooSteep : PySem.W.subIn K (.ref x_TooSteep) (.type "BaseException") = some true) (v_TooSteep : PySem.W.typeIn K (.ref x_TooSteep) = some (.type "type")) (z_TooSteep : PySem.W.hasDictIn K x_TooSteep = true)
    (u_TooMany : PySem.W.subIn K (.ref x_TooMany) (.type "BaseException") = some true) (v_TooMany : PySem.W.typeIn K (.ref x_TooMany) = some (.type "type")) (z_TooMany : PySem.W.hasDictIn K x_TooMany = true)
    (u_NoNumber : PySem.W.subIn K (.ref x_NoNumber) (.type "BaseException") = some true) (v_NoNumber : PySem.W.typeIn K (.ref x_NoNumber) = some (.type "type")) (z_NoNumber : PySem.W.hasDictIn K x_NoNumber = true)
    (u_NoText : PySem.W.subIn K (.ref x_NoText) (.type "BaseException") = some true) (v_NoText : PySem.W.typeIn K (.ref x_NoText) = some (.type "type")) (z_NoText : PySem.W.hasDictIn K x_NoText = true)
    (u_RoofError : PySem.W.subIn K (.ref x_RoofError) (.type "BaseException") = some true) (v_RoofError : PySem.W.typeIn K (.ref x_RoofError) = some (.type "type")) (z_RoofError : PySem.W.hasDictIn K x_RoofError = true)
    (u_NoRow : PySem.W.subIn K (.ref x_NoRow) (.type "BaseException") = some true) (v_NoRow : PySem.W.typeIn K (.ref x_NoRow) = some (.type "type")) (z_NoRow : PySem.W.hasDictIn K x_NoRow = true)
    (u_NoDealing : PySem.W.subIn K (.ref x_NoDealing) (.type "BaseException") = some true) (v_NoDealing : PySem.W.typeIn K (.ref x_NoDealing) = some (.type "type")) (z_NoDealing : PySem.W.hasDictIn K x_NoDealing = true)
    (u_NoCorner : PySem.W.subIn K (.ref x_NoCorner) (.type "BaseException") = some true) (v_NoCorner : PySem.W.typeIn K (.ref x_NoCorner) = some (.type "type")) (z_NoCorner : PySem.W.hasDictIn K x_NoCorner = true)
    (u_NoName : PySem.W.subIn K (.ref x_NoName) (.type "BaseException") = some true) (v_NoName : PySem.W.typeIn K (.ref x_NoName) = some (.type "type")) (z_NoName : PySem.W.hasDictIn K x_NoName = true)
    (s_NoFraction : PySem.W.keepIn K (.ref x_NoFraction) = true)
    (g1_NoFraction : PySem.W.findIn K (.ref x_NoFraction) "__getattribute__" = some (some (.builtin "BaseException.__getattribute__"))) (g2_NoFraction : PySem.W.findIn K (.ref x_NoFraction) "__getattr__" = some none) (g3_NoFraction : PySem.W.findIn K (.ref x_NoFraction) "__class__" = some (some (.builtin "object.__class__"))) (g4_NoFraction : PySem.W.mroIn K x_NoFraction (.type "object") = some true)
    (s_NoRoof : PySem.W.keepIn K (.ref x_NoRoof) = true)
    (g1_NoRoof : PySem.W.findIn K (.ref x_NoRoof) "__getattribute__" = some (some (.builtin "BaseException.__getattribute__"))) (g2_NoRoof : PySem.W.findIn K (.ref x_NoRoof) "__getattr__" = some none) (g3_NoRoof : PySem.W.findIn K (.ref x_NoRoof) "__class__" = some (some (.builtin "object.__class__"))) (g4_NoRoof : PySem.W.mroIn K x_NoRoof (.type "object") = some true)
    (s_TooSteep : PySem.W.keepIn K (.ref x_TooSteep) = true)
    (g1_TooSteep : PySem.W.findIn K (.ref x_TooSteep) "__getattribute__" = some (some (.builtin "BaseException.__getattribute__"))) (g2_TooSteep : PySem.W.findIn K (.ref x_TooSteep) "__getattr__" = some none) (g3_TooSteep : PySem.W.findIn K (.ref x_TooSteep) "__class__" = some (some (.builtin "object.__class__"))) (g4_TooSteep : PySem.W.mroIn K x_TooSteep (.type "object") = some true)
    (s_TooMany : PySem.W.keepIn K (.ref x_TooMany) = true)
    (g1_TooMany : PySem.W.findIn K (.ref x_TooMany) "__getattribute__" = some (some (.builtin "BaseException.__getattribute__"))) (g2_TooMany : PySem.W.findIn K (.ref x_TooMany) "__getattr__" = some none) (g3_TooMany : PySem.W.findIn K (.ref x_TooMany) "__class__" = some (some (.builtin "object.__class__"))) (g4_TooMany : PySem.W.mroIn K x_TooMany (.type "object") = some true)
    (s_NoNumber : PySem.W.keepIn K (.ref x_NoNumber) = true)
    (g1_NoNumber : PySem.W.findIn K (.ref x_NoNumber) "__getattribute__" = some (some (.builtin "BaseException.__getattribute__"))) (g2_NoNumber : PySem.W.findIn K (.ref x_NoNumber) "__getattr__" = some none) (g3_NoNumber : PySem.W.findIn K (.ref x_NoNumber) "__class__" = some (some (.builtin "object.__class__"))) (g4_NoNumber : PySem.W.mroIn K x_NoNumber (.type "object") = some true)
    (s_NoText : PySem.W.keepIn K (.ref x_NoText) = true)
    (g1_NoText : PySem.W.findIn K (.ref x_NoText) "__getattribute__" = some (some (.builtin "BaseException.__getattribute__"))) (g2_NoText : PySem.W.findIn K (.ref x_NoText) "__getattr__" = some none) (g3_NoText : PySem.W.findIn K (.ref x_NoText) "__class__" = some (some (.builtin "object.__class__"))) (g4_NoText : PySem.W.mroIn K x_NoText (.type "object") = some true)
    (r_NoFraction : PySem.W.excIn K x_NoFraction [.type "ValueError", .type "Exception", .type "BaseException", .type "object"] "ValueError.__new__" = true)
    (r_NoRoof : PySem.W.excIn K x_NoRoof [.type "ValueError", .type "Exception", .type "BaseException", .type "object"] "ValueError.__new__" = true)
    (r_TooSteep : PySem.W.excIn K x_TooSteep [.type "ValueError", .type "Exception", .type "BaseException", .type "object"] "ValueError.__new__" = true)
    (r_TooMany : PySem.W.excIn K x_TooMany [.type "ValueError", .type "Exception", .type "BaseException", .type "object"] "ValueError.__new__" = true)
    (r_NoNumber : PySem.W.excIn K x_NoNumber [.type "ValueError", .type "Exception", .type "BaseException", .type "object"] "ValueError.__new__" = true)
    (xl_NoText : K.lookup x_NoText = some (excClassObj oN_NoText oQ_NoText x_NoText oD_NoText oB_NoText oM_NoText true oS_NoText oU_NoText oA_NoText oC_NoText oE_NoText o0_NoText o1_NoText o2_NoText o3_NoText o5_NoText "ValueError.__new__")) (xm_NoText : PySem.HandSPX.refsVE oM_NoText = true) (xs_NoText : PySem.W.findIn K (.ref x_NoText) "__setattr__" = some (some (.builtin "object.__setattr__"))) (xf_NoText : PySem.W.findIn K (.ref x_NoText) "at" = some none) (xi_NoText : PySem.W.findIn K (.ref x_NoText) "__init__" = some (some (.ref f_NoText))) (xt_NoText : PySem.W.typeIn K (.ref f_NoText) = some (.type "function"))
    (xd_NoText : K.lookup f_NoText = some ⟨ic_NoText, io_NoText, .func (PySem.W.fnOf "__init__" "NoText.__init__" (defArgs s_init_NoText) (defBody s_init_NoText) (defScope s_init_NoText) .none ik_NoText idc_NoText ipm_NoText ia_NoText icd_NoText ict_NoText), isl_NoText⟩) (xc_NoText : PySem.W.codeIn K icd_NoText "NoText.__init__" = true) (xk_NoText : PySem.W.keepIn K (.ref f_NoText) = true)
    (y1_RoofError : PySem.W.specialIn K (.ref x_RoofError) "__getattribute__" = some (some (.builtin "type.__getattribute__"))) (y2_RoofError : PySem.W.readsIn K x_RoofError (.type "type") = true) (y3_RoofError : PySem.W.findCls K (.ref x_RoofError) (.type "type") "__init__" = some (.val (.builtin "ValueError.__init__")))
    (o1 : PySem.W.specialIn K (.builtin "object.__class__") "__get__" = some (some (.builtin "getset_descriptor.__get__"))) (o2 : PySem.W.takesIn K (.builtin "object.__class__") = some true)
    (w_NoFraction_NoRoof : PySem.W.subIn K (.ref x_NoFraction) (.ref x_NoRoof) = some false)
    (n_NoFraction_NoRoof : (Value.ref x_NoFraction == Value.ref x_NoRoof) = false)
    (w_NoRoof_NoRoof : PySem.W.subIn K (.ref x_NoRoof) (.ref x_NoRoof) = some true)
    (w_TooSteep_NoRoof : PySem.W.subIn K (.ref x_TooSteep) (.ref x_NoRoof) = some false)
    (n_TooSteep_NoRoof : (Value.ref x_TooSteep == Value.ref x_NoRoof) = false)
    (w_TooMany_NoRoof : PySem.W.subIn K (.ref x_TooMany) (.ref x_NoRoof) = some false)
    (n_TooMany_NoRoof : (Value.ref x_TooMany == Value.ref x_NoRoof) = false)
    (w_NoNumber_NoRoof : PySem.W.subIn K (.ref x_NoNumber) (.ref x_NoRoof) = some false)
    (n_NoNumber_NoRoof : (Value.ref x_NoNumber == Value.ref x_NoRoof) = false)
    (w_NoText_NoRoof : PySem.W.subIn K (.ref x_NoText) (.ref x_NoRoof) = some false)
    (n_NoText_NoRoof : (Value.ref x_NoText == Value.ref x_NoRoof) = false)
    (w_NoFraction_NoFraction : PySem.W.subIn K (.ref x_NoFraction) (.ref x_NoFraction) = some true)
    (w_NoRoof_NoFraction : PySem.W.subIn K (.ref x_NoRoof) (.ref x_NoFraction) = some false)
    (n_NoRoof_NoFraction : (Value.ref x_NoRoof == Value.ref x_NoFraction) = false)
    (w_TooSteep_NoFraction : PySem.W.subIn K (.ref x_TooSteep) (.ref x_NoFraction) = some false)
    (n_TooSteep_NoFraction : (Value.ref x_TooSteep == Value.ref x_NoFraction) = false)
    (w_TooMany_NoFraction : PySem.W.subIn K (.ref x_TooMany) (.ref x_NoFraction) = some false)
    (n_TooMany_NoFraction : (Value.ref x_TooMany == Value.ref x_NoFraction) = false)
    (w_NoNumber_NoFraction : PySem.W.subIn K (.ref x_NoNumber) (.ref x_NoFraction) = some false)
    (n_NoNumber_NoFraction : (Value.ref x_NoNumber == Value.ref x_NoFraction) = false)
    (w_NoText_NoFraction : PySem.W.subIn K (.ref x_NoText) (.ref x_NoFraction) = some false)
    (n_NoText_NoFraction : (Value.ref x_NoText == Value.ref x_NoFraction) = false)
    (w_NoFraction_ValueError : PySem.W.subIn K (.ref x_NoFraction) (.type "ValueError") = some true)
    (w_NoRoof_ValueError : PySem.W.subIn K (.ref x_NoRoof) (.type "ValueError") = some true)
    (w_TooSteep_ValueError : PySem.W.subIn K (.ref x_TooSteep) (.type "ValueError") = some true)
    (w_TooMany_ValueError : PySem.W.subIn K (.ref x_TooMany) (.type "ValueError") = some true)
    (w_NoNumber_ValueError : PySem.W.subIn K (.ref x_NoNumber) (.type "ValueError") = some true)
    (w_NoText_ValueError : PySem.W.subIn K (.ref x_NoText) (.type "ValueError") = some true)
    (w_NoFraction_NoNumber : PySem.W.subIn K (.ref x_NoFraction) (.ref x_NoNumber) = some false)
    (n_NoFraction_NoNumber : (Value.ref x_NoFraction == Value.ref x_NoNumber) = false)
    (w_NoRoof_NoNumber : PySem.W.subIn K (.ref x_NoRoof) (.ref x_NoNumber) = some false)
    (n_NoRoof_NoNumber : (Value.ref x_NoRoof == Value.ref x_NoNumber) = false)
    (w_TooSteep_NoNumber : PySem.W.subIn K (.ref x_TooSteep) (.ref x_NoNumber) = some false)
    (n_TooSteep_NoNumber : (Value.ref x_TooSteep == Value.ref x_NoNumber) = false)
    (w_TooMany_NoNumber : PySem.W.subIn K (.ref x_TooMany) (.ref x_NoNumber) = some false)
    (n_TooMany_NoNumber : (Value.ref x_TooMany == Value.ref x_NoNumber) = false)
    (w_NoNumber_NoNumber : PySem.W.subIn K (.ref x_NoNumber) (.ref x_NoNumber) = some true)
    (w_NoText_NoNumber : PySem.W.subIn K (.ref x_NoText) (.ref x_NoNumber) = some false)
    (n_NoText_NoNumber : (Value.ref x_NoText == Value.ref x_NoNumber) = false)
    (w_NoFraction_TooMany : PySem.W.subIn K (.ref x_NoFraction) (.ref x_TooMany) = some false)
    (n_NoFraction_TooMany : (Value.ref x_NoFraction == Value.ref x_TooMany) = false)
    (w_NoRoof_TooMany : PySem.W.subIn K (.ref x_NoRoof) (.ref x_TooMany) = some false)
    (n_NoRoof_TooMany : (Value.ref x_NoRoof == Value.ref x_TooMany) = false)
    (w_TooSteep_TooMany : PySem.W.subIn K (.ref x_TooSteep) (.ref x_TooMany) = some false)
    (n_TooSteep_TooMany : (Value.ref x_TooSteep == Value.ref x_TooMany) = false)
    (w_TooMany_TooMany : PySem.W.subIn K (.ref x_TooMany) (.ref x_TooMany) = some true)
    (w_NoNumber_TooMany : PySem.W.subIn K (.ref x_NoNumber) (.ref x_TooMany) = some false)
    (n_NoNumber_TooMany : (Value.ref x_NoNumber == Value.ref x_TooMany) = false)
    (w_NoText_TooMany : PySem.W.subIn K (.ref x_NoText) (.ref x_TooMany) = some false)
    (n_NoText_TooMany : (Value.ref x_NoText == Value.ref x_TooMany) = false)
    (w_NoFraction_TooSteep : PySem.W.subIn K (.ref x_NoFraction) (.ref x_TooSteep) = some false)
    (n_NoFraction_TooSteep : (Value.ref x_NoFraction == Value.ref x_TooSteep) = false)
    (w_NoRoof_TooSteep : PySem.W.subIn K (.ref x_NoRoof) (.ref x_TooSteep) = some false)
    (n_NoRoof_TooSteep : (Value.ref x_NoRoof == Value.ref x_TooSteep) = false)
    (w_TooSteep_TooSteep : PySem.W.subIn K (.ref x_TooSteep) (.ref x_TooSteep) = some true)
    (w_TooMany_TooSteep : PySem.W.subIn K (.ref x_TooMany) (.ref x_TooSteep) = some false)
    (n_TooMany_TooSteep : (Value.ref x_TooMany == Value.ref x_TooSteep) = false)
    (w_NoNumber_TooSteep : PySem.W.subIn K (.ref x_NoNumber) (.ref x_TooSteep) = some false)
    (n_NoNumber_TooSteep : (Value.ref x_NoNumber == Value.ref x_TooSteep) = false)
    (w_NoText_TooSteep : PySem.W.subIn K (.ref x_NoText) (.ref x_TooSteep) = some false)
    (n_NoText_TooSteep : (Value.ref x_NoText == Value.ref x_TooSteep) = false)
    (w_NoFraction_NoRow : PySem.W.subIn K (.ref x_NoFraction) (.ref x_NoRow) = some false)
    (n_NoFraction_NoRow : (Value.ref x_NoFraction == Value.ref x_NoRow) = false)
    (w_NoRoof_NoRow : PySem.W.subIn K (.ref x_NoRoof) (.ref x_NoRow) = some false)
    (n_NoRoof_NoRow : (Value.ref x_NoRoof == Value.ref x_NoRow) = false)
    (w_TooSteep_NoRow : PySem.W.subIn K (.ref x_TooSteep) (.ref x_NoRow) = some false)
    (n_TooSteep_NoRow : (Value.ref x_TooSteep == Value.ref x_NoRow) = false)
    (w_TooMany_NoRow : PySem.W.subIn K (.ref x_TooMany) (.ref x_NoRow) = some false)
    (n_TooMany_NoRow : (Value.ref x_TooMany == Value.ref x_NoRow) = false)
    (w_NoNumber_NoRow : PySem.W.subIn K (.ref x_NoNumber) (.ref x_NoRow) = some false)
    (n_NoNumber_NoRow : (Value.ref x_NoNumber == Value.ref x_NoRow) = false)
    (w_NoText_NoRow : PySem.W.subIn K (.ref x_NoText) (.ref x_NoRow) = some false)
    (n_NoText_NoRow : (Value.ref x_NoText == Value.ref x_NoRow) = false)
    (w_NoFraction_NoDealing : PySem.W.subIn K (.ref x_NoFraction) (.ref x_NoDealing) = some false)
    (n_NoFraction_NoDealing : (Value.ref x_NoFraction == Value.ref x_NoDealing) = false)
    (w_NoRoof_NoDealing : PySem.W.subIn K (.ref x_NoRoof) (.ref x_NoDealing) = some false)
    (n_NoRoof_NoDealing : (Value.ref x_NoRoof == Value.ref x_NoDealing) = false)
    (w_TooSteep_NoDealing : PySem.W.subIn K (.ref x_TooSteep) (.ref x_NoDealing) = some false)
    (n_TooSteep_NoDealing : (Value.ref x_TooSteep == Value.ref x_NoDealing) = false)
    (w_TooMany_NoDealing : PySem.W.subIn K (.ref x_TooMany) (.ref x_NoDealing) = some false)
    (n_TooMany_NoDealing : (Value.ref x_TooMany == Value.ref x_NoDealing) = false)
    (w_NoNumber_NoDealing : PySem.W.subIn K (.ref x_NoNumber) (.ref x_NoDealing) = some false)
    (n_NoNumber_NoDealing : (Value.ref x_NoNumber == Value.ref x_NoDealing) = false)
    (w_NoText_NoDealing : PySem.W.subIn K (.ref x_NoText) (.ref x_NoDealing) = some false)
    (n_NoText_NoDealing : (Value.ref x_NoText == Value.ref x_NoDealing) = false)
    (w_NoFraction_NoCorner : PySem.W.subIn K (.ref x_NoFraction) (.ref x_NoCorner) = some false)
    (n_NoFraction_NoCorner : (Value.ref x_NoFraction == Value.ref x_NoCorner) = false)
    (w_NoRoof_NoCorner : PySem.W.subIn K (.ref x_NoRoof) (.ref x_NoCorner) = some false)
    (n_NoRoof_NoCorner : (Value.ref x_NoRoof == Value.ref x_NoCorner) = false)
    (w_TooSteep_NoCorner : PySem.W.subIn K (.ref x_TooSteep) (.ref x_NoCorner) = some false)
    (n_TooSteep_NoCorner : (Value.ref x_TooSteep == Value.ref x_NoCorner) = false)
    (w_TooMany_NoCorner : PySem.W.subIn K (.ref x_TooMany) (.ref x_NoCorner) = some false)
    (n_TooMany_NoCorner : (Value.ref x_TooMany == Value.ref x_NoCorner) = false)
    (w_NoNumber_NoCorner : PySem.W.subIn K (.ref x_NoNumber) (.ref x_NoCorner) = some false)
    (n_NoNumber_NoCorner : (Value.ref x_NoNumber == Value.ref x_NoCorner) = false)
    (w_NoText_NoCorner : PySem.W.subIn K (.ref x_NoText) (.ref x_NoCorner) = some false)
    (n_NoText_NoCorner : (Value.ref x_NoText == Value.ref x_NoCorner) = false)
    (w_NoFraction_NoName : PySem.W.subIn K (.ref x_NoFraction) (.ref x_NoName) = some false)
    (n_NoFraction_NoName : (Value.ref x_NoFraction == Value.ref x_NoName) = false)
    (w_NoRoof_NoName : PySem.W.subIn K (.ref x_NoRoof) (.ref x_NoName) = some false)
    (n_NoRoof_NoName : (Value.ref x_NoRoof == Value.ref x_NoName) = false)
    (w_TooSteep_NoName : PySem.W.subIn K (.ref x_TooSteep) (.ref x_NoName) = some false)
    (n_TooSteep_NoName : (Value.ref x_TooSteep == Value.ref x_NoName) = false)
    (w_TooMany_NoName : PySem.W.subIn K (.ref x_TooMany) (.ref x_NoName) = some false)
    (n_TooMany_NoName : (Value.ref x_TooMany == Value.ref x_NoName) = false)
    (w_NoNumber_NoName : PySem.W.subIn K (.ref x_NoNumber) (.ref x_NoName) = some false)
    (n_NoNumber_NoName : (Value.ref x_NoNumber == Value.ref x_NoName) = false)
    (w_NoText_NoName : PySem.W.subIn K (.ref x_NoText) (.ref x_NoName) = some false)
    (n_NoText_NoName : (Value.ref x_NoText == Value.ref x_NoName) = false)
    (w_NoFraction_NoText : PySem.W.subIn K (.ref x_NoFraction) (.ref x_NoText) = some false)
    (n_NoFraction_NoText : (Value.ref x_NoFraction == Value.ref x_NoText) = false)
    (w_NoRoof_NoText : PySem.W.subIn K (.ref x_NoRoof) (.ref x_NoText) = some false)
    (n_NoRoof_NoText : (Value.ref x_NoRoof == Value.ref x_NoText) = false)
    (w_TooSteep_NoText : PySem.W.subIn K (.ref x_TooSteep) (.ref x_NoText) = some false)
    (n_TooSteep_NoText : (Value.ref x_TooSteep == Value.ref x_NoText) = false)
    (w_TooMany_NoText : PySem.W.subIn K (.ref x_TooMany) (.ref x_NoText) = some false)
    (n_TooMany_NoText : (Value.ref x_TooMany == Value.ref x_NoText) = false)
    (w_NoNumber_NoText : PySem.W.subIn K (.ref x_NoNumber) (.ref x_NoText) = some false)
    (n_NoNumber_NoText : (Value.ref x_NoNumber == Value.ref x_NoText) = false)
    (w_NoText_NoText : PySem.W.subIn K (.ref x_NoText) (.ref x_NoText) = some true)
    (w_NoFraction_RoofError : PySem.W.subIn K (.ref x_NoFraction) (.ref x_RoofError) = some true)
    (w_NoRoof_RoofError : PySem.W.subIn K (.ref x_NoRoof) (.ref x_RoofError) = some true)
    (w_TooSteep_RoofError : PySem.W.subIn K (.ref x_TooSteep) (.ref x_RoofError) = some true)
    (w_TooMany_RoofError : PySem.W.subIn K (.ref x_TooMany) (.ref x_RoofError) = some true)
    (w_NoNumber_RoofError : PySem.W.subIn K (.ref x_NoNumber) (.ref x_RoofError) = some true)
    (w_NoText_RoofError : PySem.W.subIn K (.ref x_NoText) (.ref x_RoofError) = some true) : Tx K mg :=
  { f_divisor := def_in X G a0 l0 k0 p0 (fun _ _ _ _ _ _ us hl => match us, hl with | [_, _], _ => rfl),
    f_fraction := def_in X G a1 l1 k1 p1 (fun _ _ _ _ _ _ us hl => match us, hl with | [_, _], _ => rfl),
    f_less := def_in X G a2 l2 k2 p2 (fun _ _ _ _ _ _ us hl => match us, hl with | [_, _], _ => rfl),
    f_roof_of := def_in X G a3 l3 k3 p3 (fun _ _ _ _ _ _ us hl => match us, hl with | [_], _ => rfl),
    f_whole_of := def_in X G a4 l4 k4 p4 (fun _ _ _ _ _ _ us hl => match us, hl with | [_], _ => rfl),
    f_top_of := def_in X G a5 l5 k5 p5 (fun _ _ _ _ _ _ us hl => match us, hl with | [_], _ => rfl),
    f_number_of := def_in X G a6 l6 k6 p6 (fun _ _ _ _ _ _ us hl => match us, hl with | [_], _ => rfl),
    f_is_step := def_in X G a7 l7 k7 p7 (fun _ _ _ _ _ _ us hl => match us, hl with | [_], _ => rfl),
    f_plane_of := def_in X G a8 l8 k8 p8 (fun _ _ _ _ _ _ us hl => match us, hl with | [_], _ => rfl),
    f_read := def_in X G a9 l9 k9 p9 (fun _ _ _ _ _ _ us hl => match us, hl with | [_], _ => rfl),
    f__law_cell_at := def_in X G a10 l10 k10 p10 (fun _ _ _ _ _ _ us hl => match us, hl with | [_, _], _ => rfl),
    f__law_cells := def_in X G a11 l11 k11 p11 (fun _ _ _ _ _ _ us hl => match us, hl with | [_, _, _], _ => rfl),
    f__law_whole := def_in X G a12 l12 k12 p12 (fun _ _ _ _ _ _ us hl => match us, hl with | [_], _ => rfl),
    f__law_divisor := def_in X G a13 l13 k13 p13 (fun _ _ _ _ _ _ us hl => match us, hl with | [_, _], _ => rfl),
    f__law_fraction := def_in X G a14 l14 k14 p14 (fun _ _ _ _ _ _ us hl => match us, hl with | [_, _], _ => rfl),
    f__law_is_fraction := def_in X G a15 l15 k15 p15 (fun _ _ _ _ _ _ us hl => match us, hl with | [_], _ => rfl),
    f__law_below := def_in X G a16 l16 k16 p16 (fun _ _ _ _ _ _ us hl => match us, hl with | [_, _], _ => rfl),
    f__law_marks := def_in X G a17 l17 k17 p17 (fun _ _ _ _ _ _ us hl => match us, hl with | [_], _ => rfl),
    f__law_only := def_in X G a18 l18 k18 p18 (fun _ _ _ _ _ _ us hl => match us, hl with | [_], _ => rfl),
    f__law_number_by := def_in X G a19 l19 k19 p19 (fun _ _ _ _ _ _ us hl => match us, hl with | [_, _], _ => rfl),
    f__law_number_text := def_in X G a20 l20 k20 p20 (fun _ _ _ _ _ _ us hl => match us, hl with | [_], _ => rfl),
    f__law_figures := def_in X G a21 l21 k21 p21 (fun _ _ _ _ _ _ us hl => match us, hl with | [_], _ => rfl),
    f__law_number := def_in X G a22 l22 k22 p22 (fun _ _ _ _ _ _ us hl => match us, hl with | [_], _ => rfl),
    f__law_sign_by := def_in X G a23 l23 k23 p23 (fun _ _ _ _ _ _ us hl => match us, hl with | [_], _ => rfl),
    f__law_changed := def_in X G a24 l24 k24 p24 (fun _ _ _ _ _ _ us hl => match us, hl with | [_, _, _], _ => rfl),
    f__law_text_by := def_in X G a25 l25 k25 p25 (fun _ _ _ _ _ _ us hl => match us, hl with | [_, _], _ => rfl),
    f__law_odd := def_in X G a26 l26 k26 p26 (fun _ _ _ _ _ _ us hl => match us, hl with | [_], _ => rfl),
    f__law_plane := def_in X G a27 l27 k27 p27 (fun _ _ _ _ _ _ us hl => match us, hl with | [_], _ => rfl),
    f__law_due := def_in X G a28 l28 k28 p28 (fun _ _ _ _ _ _ us hl => match us, hl with | [_], _ => rfl),
    f__law_asked := def_in X G a29 l29 k29 p29 (fun _ _ _ _ _ _ us hl => match us, hl with | [_], _ => rfl),
    b_abs := PySem.W.mg_none_of X G n_abs,
    b_len := PySem.W.mg_none_of X G n_len,
    b_sorted := PySem.W.mg_none_of X G n_sorted,
    b_int := PySem.W.mg_none_of X G n_int,
    b_isinstance := PySem.W.mg_none_of X G n_isinstance,
    b_str := PySem.W.mg_none_of X G n_str,
    b_enumerate := PySem.W.mg_none_of X G n_enumerate,
    b_min := PySem.W.mg_none_of X G n_min,
    b_range := PySem.W.mg_none_of X G n_range,
    b_bool := PySem.W.mg_none_of X G n_bool,
    b_tuple := PySem.W.mg_none_of X G n_tuple,
    b_ValueError := PySem.W.mg_none_of X G n_ValueError,
    b_list := PySem.W.mg_none_of X G n_list,
    b_all := PySem.W.mg_none_of X G n_all,
    c_STEEPEST := ⟨_, PySem.W.mg_of X G c_STEEPEST⟩,
    c_MOST := ⟨_, PySem.W.mg_of X G c_MOST⟩,
    c_LONGEST := ⟨_, PySem.W.mg_of X G c_LONGEST⟩,
    c_FIGURES := ⟨_, PySem.W.mg_of X G c_FIGURES⟩,
    c_STEPS := ⟨_, PySem.W.mg_of X G c_STEPS⟩,
    e_NoFraction := ⟨_, PySem.W.mg_of X G q_NoFraction, r_NoFraction, s_NoFraction, u_NoFraction, v_NoFraction⟩,
    e_NoRoof := ⟨_, PySem.W.mg_of X G q_NoRoof, r_NoRoof, s_NoRoof, u_NoRoof, v_NoRoof⟩,
    e_TooSteep := ⟨_, PySem.W.mg_of X G q_TooSteep, r_TooSteep, s_TooSteep, u_TooSteep, v_TooSteep⟩,
    e_TooMany := ⟨_, PySem.W.mg_of X G q_TooMany, r_TooMany, s_TooMany, u_TooMany, v_TooMany⟩,
    e_NoNumber := ⟨_, PySem.W.mg_of X G q_NoNumber, r_NoNumber, s_NoNumber, u_NoNumber, v_NoNumber⟩,
    o_NoText := ⟨x_NoText, f_NoText, _, PySem.W.mg_of X G q_NoText, ⟨⟨oN_NoText, oQ_NoText, oD_NoText, oB_NoText, oM_NoText, oS_NoText, oU_NoText, oA_NoText, oC_NoText, oE_NoText, o0_NoText, o1_NoText, o2_NoText, o3_NoText, o5_NoText, xl_NoText, xm_NoText⟩, xs_NoText, u_NoText, v_NoText, s_NoText⟩, xf_NoText, xi_NoText, xt_NoText, (fun_mk xd_NoText xc_NoText xk_NoText).binds (fun _ _ _ _ _ _ us hl => match us, hl with | [_, _], _ => rfl), fun_mk xd_NoText xc_NoText xk_NoText⟩,
    fl_NoText := ⟨fun c h C hm => by
      have e : c = "NoText" := by simpa using h
      subst e
      have e2 := hm.symm.trans (PySem.W.mg_of X G q_NoText)
      cases e2
      exact ⟨⟨g1_NoText, g2_NoText, u_NoText, z_NoText⟩, xf_NoText⟩⟩,
    b0_RoofError := ⟨x_RoofError, PySem.W.mg_of X G q_RoofError, y1_RoofError, v_RoofError, y2_RoofError, y3_RoofError⟩,
    i_NoRoof := isAt_own (PySem.W.mg_of X G q_NoRoof) (fun c b h => by
      unfold it_NoRoof at h
      split at h
      · rename_i e; subst e; cases h; exact ⟨_, PySem.W.mg_of X G q_NoFraction, ⟨g1_NoFraction, g2_NoFraction, u_NoFraction, z_NoFraction, g3_NoFraction, o1, o2, g4_NoFraction⟩, kit_own z_NoRoof v_NoRoof w_NoFraction_NoRoof (.inr n_NoFraction_NoRoof)⟩
      split at h
      · rename_i e; subst e; cases h; exact ⟨_, PySem.W.mg_of X G q_NoRoof, ⟨g1_NoRoof, g2_NoRoof, u_NoRoof, z_NoRoof, g3_NoRoof, o1, o2, g4_NoRoof⟩, kit_own z_NoRoof v_NoRoof w_NoRoof_NoRoof (.inl rfl)⟩
      split at h
      · rename_i e; subst e; cases h; exact ⟨_, PySem.W.mg_of X G q_TooSteep, ⟨g1_TooSteep, g2_TooSteep, u_TooSteep, z_TooSteep, g3_TooSteep, o1, o2, g4_TooSteep⟩, kit_own z_NoRoof v_NoRoof w_TooSteep_NoRoof (.inr n_TooSteep_NoRoof)⟩
      split at h
      · rename_i e; subst e; cases h; exact ⟨_, PySem.W.mg_of X G q_TooMany, ⟨g1_TooMany, g2_TooMany, u_TooMany, z_TooMany, g3_TooMany, o1, o2, g4_TooMany⟩, kit_own z_NoRoof v_NoRoof w_TooMany_NoRoof (.inr n_TooMany_NoRoof)⟩
      split at h
      · rename_i e; subst e; cases h; exact ⟨_, PySem.W.mg_of X G q_NoNumber, ⟨g1_NoNumber, g2_NoNumber, u_NoNumber, z_NoNumber, g3_NoNumber, o1, o2, g4_NoNumber⟩, kit_own z_NoRoof v_NoRoof w_NoNumber_NoRoof (.inr n_NoNumber_NoRoof)⟩
      split at h
      · rename_i e; subst e; cases h; exact ⟨_, PySem.W.mg_of X G q_NoText, ⟨g1_NoText, g2_NoText, u_NoText, z_NoText, g3_NoText, o1, o2, g4_NoText⟩, kit_own z_NoRoof v_NoRoof w_NoText_NoRoof (.inr n_NoText_NoRoof)⟩
      cases h),
    i_NoFraction := isAt_own (PySem.W.mg_of X G q_NoFraction) (fun c b h => by
      unfold it_NoFraction at h
      split at h
      · rename_i e; subst e; cases h; exact ⟨_, PySem.W.mg_of X G q_NoFraction, ⟨g1_NoFraction, g2_NoFraction, u_NoFraction, z_NoFraction, g3_NoFraction, o1, o2, g4_NoFraction⟩, kit_own z_NoFraction v_NoFraction w_NoFraction_NoFraction (.inl rfl)⟩
      split at h
      · rename_i e; subst e; cases h; exact ⟨_, PySem.W.mg_of X G q_NoRoof, ⟨g1_NoRoof, g2_NoRoof, u_NoRoof, z_NoRoof, g3_NoRoof, o1, o2, g4_NoRoof⟩, kit_own z_NoFraction v_NoFraction w_NoRoof_NoFraction (.inr n_NoRoof_NoFraction)⟩
      split at h
      · rename_i e; subst e; cases h; exact ⟨_, PySem.W.mg_of X G q_TooSteep, ⟨g1_TooSteep, g2_TooSteep, u_TooSteep, z_TooSteep, g3_TooSteep, o1, o2, g4_TooSteep⟩, kit_own z_NoFraction v_NoFraction w_TooSteep_NoFraction (.inr n_TooSteep_NoFraction)⟩
      split at h
      · rename_i e; subst e; cases h; exact ⟨_, PySem.W.mg_of X G q_TooMany, ⟨g1_TooMany, g2_TooMany, u_TooMany, z_TooMany, g3_TooMany, o1, o2, g4_TooMany⟩, kit_own z_NoFraction v_NoFraction w_TooMany_NoFraction (.inr n_TooMany_NoFraction)⟩
      split at h
      · rename_i e; subst e; cases h; exact ⟨_, PySem.W.mg_of X G q_NoNumber, ⟨g1_NoNumber, g2_NoNumber, u_NoNumber, z_NoNumber, g3_NoNumber, o1, o2, g4_NoNumber⟩, kit_own z_NoFraction v_NoFraction w_NoNumber_NoFraction (.inr n_NoNumber_NoFraction)⟩
      split at h
      · rename_i e; subst e; cases h; exact ⟨_, PySem.W.mg_of X G q_NoText, ⟨g1_NoText, g2_NoText, u_NoText, z_NoText, g3_NoText, o1, o2, g4_NoText⟩, kit_own z_NoFraction v_NoFraction w_NoText_NoFraction (.inr n_NoText_NoFraction)⟩
      cases h),
    i_ValueError := isAt_blt (T0 := "ValueError") (PySem.W.mg_none_of X G n_ValueError) (by decide +kernel) (by decide) (fun c b h => by
      unfold it_ValueError at h
      split at h
      · rename_i e; subst e; cases h; exact ⟨_, PySem.W.mg_of X G q_NoFraction, ⟨g1_NoFraction, g2_NoFraction, u_NoFraction, z_NoFraction, g3_NoFraction, o1, o2, g4_NoFraction⟩, kit_blt (by decide +kernel) w_NoFraction_ValueError⟩
      split at h
      · rename_i e; subst e; cases h; exact ⟨_, PySem.W.mg_of X G q_NoRoof, ⟨g1_NoRoof, g2_NoRoof, u_NoRoof, z_NoRoof, g3_NoRoof, o1, o2, g4_NoRoof⟩, kit_blt (by decide +kernel) w_NoRoof_ValueError⟩
      split at h
      · rename_i e; subst e; cases h; exact ⟨_, PySem.W.mg_of X G q_TooSteep, ⟨g1_TooSteep, g2_TooSteep, u_TooSteep, z_TooSteep, g3_TooSteep, o1, o2, g4_TooSteep⟩, kit_blt (by decide +kernel) w_TooSteep_ValueError⟩
      split at h
      · rename_i e; subst e; cases h; exact ⟨_, PySem.W.mg_of X G q_TooMany, ⟨g1_TooMany, g2_TooMany, u_TooMany, z_TooMany, g3_TooMany, o1, o2, g4_TooMany⟩, kit_blt (by decide +kernel) w_TooMany_ValueError⟩
      split at h
      · rename_i e; subst e; cases h; exact ⟨_, PySem.W.mg_of X G q_NoNumber, ⟨g1_NoNumber, g2_NoNumber, u_NoNumber, z_NoNumber, g3_NoNumber, o1, o2, g4_NoNumber⟩, kit_blt (by decide +kernel) w_NoNumber_ValueError⟩
      split at h
      · rename_i e; subst e; cases h; exact ⟨_, PySem.W.mg_of X G q_NoText, ⟨g1_NoText, g2_NoText, u_NoText, z_NoText, g3_NoText, o1, o2, g4_NoText⟩, kit_blt (by decide +kernel) w_NoText_ValueError⟩
      cases h),
    i_NoNumber := isAt_own (PySem.W.mg_of X G q_NoNumber) (fun c b h => by
      unfold it_NoNumber at h
      split at h
      · rename_i e; subst e; cases h; exact ⟨_, PySem.W.mg_of X G q_NoFraction, ⟨g1_NoFraction, g2_NoFraction, u_NoFraction, z_NoFraction, g3_NoFraction, o1, o2, g4_NoFraction⟩, kit_own z_NoNumber v_NoNumber w_NoFraction_NoNumber (.inr n_NoFraction_NoNumber)⟩
      split at h
      · rename_i e; subst e; cases h; exact ⟨_, PySem.W.mg_of X G q_NoRoof, ⟨g1_NoRoof, g2_NoRoof, u_NoRoof, z_NoRoof, g3_NoRoof, o1, o2, g4_NoRoof⟩, kit_own z_NoNumber v_NoNumber w_NoRoof_NoNumber (.inr n_NoRoof_NoNumber)⟩
      split at h
      · rename_i e; subst e; cases h; exact ⟨_, PySem.W.mg_of X G q_TooSteep, ⟨g1_TooSteep, g2_TooSteep, u_TooSteep, z_TooSteep, g3_TooSteep, o1, o2, g4_TooSteep⟩, kit_own z_NoNumber v_NoNumber w_TooSteep_NoNumber (.inr n_TooSteep_NoNumber)⟩
      split at h
      · rename_i e; subst e; cases h; exact ⟨_, PySem.W.mg_of X G q_TooMany, ⟨g1_TooMany, g2_TooMany, u_TooMany, z_TooMany, g3_TooMany, o1, o2, g4_TooMany⟩, kit_own z_NoNumber v_NoNumber w_TooMany_NoNumber (.inr n_TooMany_NoNumber)⟩
      split at h
      · rename_i e; subst e; cases h; exact ⟨_, PySem.W.mg_of X G q_NoNumber, ⟨g1_NoNumber, g2_NoNumber, u_NoNumber, z_NoNumber, g3_NoNumber, o1, o2, g4_NoNumber⟩, kit_own z_NoNumber v_NoNumber w_NoNumber_NoNumber (.inl rfl)⟩
      split at h
      · rename_i e; subst e; cases h; exact ⟨_, PySem.W.mg_of X G q_NoText, ⟨g1_NoText, g2_NoText, u_NoText, z_NoText, g3_NoText, o1, o2, g4_NoText⟩, kit_own z_NoNumber v_NoNumber w_NoText_NoNumber (.inr n_NoText_NoNumber)⟩
      cases h),
    i_TooMany := isAt_own (PySem.W.mg_of X G q_TooMany) (fun c b h => by
      unfold it_TooMany at h
      split at h
      · rename_i e; subst e; cases h; exact ⟨_, PySem.W.mg_of X G q_NoFraction, ⟨g1_NoFraction, g2_NoFraction, u_NoFraction, z_NoFraction, g3_NoFraction, o1, o2, g4_NoFraction⟩, kit_own z_TooMany v_TooMany w_NoFraction_TooMany (.inr n_NoFraction_TooMany)⟩
      split at h
      · rename_i e; subst e; cases h; exact ⟨_, PySem.W.mg_of X G q_NoRoof, ⟨g1_NoRoof, g2_NoRoof, u_NoRoof, z_NoRoof, g3_NoRoof, o1, o2, g4_NoRoof⟩, kit_own z_TooMany v_TooMany w_NoRoof_TooMany (.inr n_NoRoof_TooMany)⟩
      split at h
      · rename_i e; subst e; cases h; exact ⟨_, PySem.W.mg_of X G q_TooSteep, ⟨g1_TooSteep, g2_TooSteep, u_TooSteep, z_TooSteep, g3_TooSteep, o1, o2, g4_TooSteep⟩, kit_own z_TooMany v_TooMany w_TooSteep_TooMany (.inr n_TooSteep_TooMany)⟩
      split at h
      · rename_i e; subst e; cases h; exact ⟨_, PySem.W.mg_of X G q_TooMany, ⟨g1_TooMany, g2_TooMany, u_TooMany, z_TooMany, g3_TooMany, o1, o2, g4_TooMany⟩, kit_own z_TooMany v_TooMany w_TooMany_TooMany (.inl rfl)⟩
      split at h
      · rename_i e; subst e; cases h; exact ⟨_, PySem.W.mg_of X G q_NoNumber, ⟨g1_NoNumber, g2_NoNumber, u_NoNumber, z_NoNumber, g3_NoNumber, o1, o2, g4_NoNumber⟩, kit_own z_TooMany v_TooMany w_NoNumber_TooMany (.inr n_NoNumber_TooMany)⟩
      split at h
      · rename_i e; subst e; cases h; exact ⟨_, PySem.W.mg_of X G q_NoText, ⟨g1_NoText, g2_NoText, u_NoText, z_NoText, g3_NoText, o1, o2, g4_NoText⟩, kit_own z_TooMany v_TooMany w_NoText_TooMany (.inr n_NoText_TooMany)⟩
      cases h),
    i_TooSteep := isAt_own (PySem.W.mg_of X G q_TooSteep) (fun c b h => by
      unfold it_TooSteep at h
      split at h
      · rename_i e; subst e; cases h; exact ⟨_, PySem.W.mg_of X G q_NoFraction, ⟨g1_NoFraction, g2_NoFraction, u_NoFraction, z_NoFraction, g3_NoFraction, o1, o2, g4_NoFraction⟩, kit_own z_TooSteep v_TooSteep w_NoFraction_TooSteep (.inr n_NoFraction_TooSteep)⟩
      split at h
      · rename_i e; subst e; cases h; exact ⟨_, PySem.W.mg_of X G q_NoRoof, ⟨g1_NoRoof, g2_NoRoof, u_NoRoof, z_NoRoof, g3_NoRoof, o1, o2, g4_NoRoof⟩, kit_own z_TooSteep v_TooSteep w_NoRoof_TooSteep (.inr n_NoRoof_TooSteep)⟩
      split at h
      · rename_i e; subst e; cases h; exact ⟨_, PySem.W.mg_of X G q_TooSteep, ⟨g1_TooSteep, g2_TooSteep, u_TooSteep, z_TooSteep, g3_TooSteep, o1, o2, g4_TooSteep⟩, kit_own z_TooSteep v_TooSteep w_TooSteep_TooSteep (.inl rfl)⟩
      split at h
      · rename_i e; subst e; cases h; exact ⟨_, PySem.W.mg_of X G q_TooMany, ⟨g1_TooMany, g2_TooMany, u_TooMany, z_TooMany, g3_TooMany, o1, o2, g4_TooMany⟩, kit_own z_TooSteep v_TooSteep w_TooMany_TooSteep (.inr n_TooMany_TooSteep)⟩
      split at h
      · rename_i e; subst e; cases h; exact ⟨_, PySem.W.mg_of X G q_NoNumber, ⟨g1_NoNumber, g2_NoNumber, u_NoNumber, z_NoNumber, g3_NoNumber, o1, o2, g4_NoNumber⟩, kit_own z_TooSteep v_TooSteep w_NoNumber_TooSteep (.inr n_NoNumber_TooSteep)⟩
      split at h
      · rename_i e; subst e; cases h; exact ⟨_, PySem.W.mg_of X G q_NoText, ⟨g1_NoText, g2_NoText, u_NoText, z_NoText, g3_NoText, o1, o2, g4_NoText⟩, kit_own z_TooSteep v_TooSteep w_NoText_TooSteep (.inr n_NoText_TooSteep)⟩
      cases h),
    i_NoRow := isAt_own (PySem.W.mg_of X G q_NoRow) (fun c b h => by
      unfold it_NoRow at h
      split at h
      · rename_i e; subst e; cases h; exact ⟨_, PySem.W.mg_of X G q_NoFraction, ⟨g1_NoFraction, g2_NoFraction, u_NoFraction, z_NoFraction, g3_NoFraction, o1, o2, g4_NoFraction⟩, kit_own z_NoRow v_NoRow w_NoFraction_NoRow (.inr n_NoFraction_NoRow)⟩
      split at h
      · rename_i e; subst e; cases h; exact ⟨_, PySem.W.mg_of X G q_NoRoof, ⟨g1_NoRoof, g2_NoRoof, u_NoRoof, z_NoRoof, g3_NoRoof, o1, o2, g4_NoRoof⟩, kit_own z_NoRow v_NoRow w_NoRoof_NoRow (.inr n_NoRoof_NoRow)⟩
      split at h
      · rename_i e; subst e; cases h; exact ⟨_, PySem.W.mg_of X G q_TooSteep, ⟨g1_TooSteep, g2_TooSteep, u_TooSteep, z_TooSteep, g3_TooSteep, o1, o2, g4_TooSteep⟩, kit_own z_NoRow v_NoRow w_TooSteep_NoRow (.inr n_TooSteep_NoRow)⟩
      split at h
      · rename_i e; subst e; cases h; exact ⟨_, PySem.W.mg_of X G q_TooMany, ⟨g1_TooMany, g2_TooMany, u_TooMany, z_TooMany, g3_TooMany, o1, o2, g4_TooMany⟩, kit_own z_NoRow v_NoRow w_TooMany_NoRow (.inr n_TooMany_NoRow)⟩
      split at h
      · rename_i e; subst e; cases h; exact ⟨_, PySem.W.mg_of X G q_NoNumber, ⟨g1_NoNumber, g2_NoNumber, u_NoNumber, z_NoNumber, g3_NoNumber, o1, o2, g4_NoNumber⟩, kit_own z_NoRow v_NoRow w_NoNumber_NoRow (.inr n_NoNumber_NoRow)⟩
      split at h
      · rename_i e; subst e; cases h; exact ⟨_, PySem.W.mg_of X G q_NoText, ⟨g1_NoText, g2_NoText, u_NoText, z_NoText, g3_NoText, o1, o2, g4_NoText⟩, kit_own z_NoRow v_NoRow w_NoText_NoRow (.inr n_NoText_NoRow)⟩
      cases h),
    i_NoDealing := isAt_own (PySem.W.mg_of X G q_NoDealing) (fun c b h => by
      unfold it_NoDealing at h
      split at h
      · rename_i e; subst e; cases h; exact ⟨_, PySem.W.mg_of X G q_NoFraction, ⟨g1_NoFraction, g2_NoFraction, u_NoFraction, z_NoFraction, g3_NoFraction, o1, o2, g4_NoFraction⟩, kit_own z_NoDealing v_NoDealing w_NoFraction_NoDealing (.inr n_NoFraction_NoDealing)⟩
      split at h
      · rename_i e; subst e; cases h; exact ⟨_, PySem.W.mg_of X G q_NoRoof, ⟨g1_NoRoof, g2_NoRoof, u_NoRoof, z_NoRoof, g3_NoRoof, o1, o2, g4_NoRoof⟩, kit_own z_NoDealing v_NoDealing w_NoRoof_NoDealing (.inr n_NoRoof_NoDealing)⟩
      split at h
      · rename_i e; subst e; cases h; exact ⟨_, PySem.W.mg_of X G q_TooSteep, ⟨g1_TooSteep, g2_TooSteep, u_TooSteep, z_TooSteep, g3_TooSteep, o1, o2, g4_TooSteep⟩, kit_own z_NoDealing v_NoDealing w_TooSteep_NoDealing (.inr n_TooSteep_NoDealing)⟩
      split at h
      · rename_i e; subst e; cases h; exact ⟨_, PySem.W.mg_of X G q_TooMany, ⟨g1_TooMany, g2_TooMany, u_TooMany, z_TooMany, g3_TooMany, o1, o2, g4_TooMany⟩, kit_own z_NoDealing v_NoDealing w_TooMany_NoDealing (.inr n_TooMany_NoDealing)⟩
      split at h
      · rename_i e; subst e; cases h; exact ⟨_, PySem.W.mg_of X G q_NoNumber, ⟨g1_NoNumber, g2_NoNumber, u_NoNumber, z_NoNumber, g3_NoNumber, o1, o2, g4_NoNumber⟩, kit_own z_NoDealing v_NoDealing w_NoNumber_NoDealing (.inr n_NoNumber_NoDealing)⟩
      split at h
      · rename_i e; subst e; cases h; exact ⟨_, PySem.W.mg_of X G q_NoText, ⟨g1_NoText, g2_NoText, u_NoText, z_NoText, g3_NoText, o1, o2, g4_NoText⟩, kit_own z_NoDealing v_NoDealing w_NoText_NoDealing (.inr n_NoText_NoDealing)⟩
      cases h),
    i_NoCorner := isAt_own (PySem.W.mg_of X G q_NoCorner) (fun c b h => by
      unfold it_NoCorner at h
      split at h
      · rename_i e; subst e; cases h; exact ⟨_, PySem.W.mg_of X G q_NoFraction, ⟨g1_NoFraction, g2_NoFraction, u_NoFraction, z_NoFraction, g3_NoFraction, o1, o2, g4_NoFraction⟩, kit_own z_NoCorner v_NoCorner w_NoFraction_NoCorner (.inr n_NoFraction_NoCorner)⟩
      split at h
      · rename_i e; subst e; cases h; exact ⟨_, PySem.W.mg_of X G q_NoRoof, ⟨g1_NoRoof, g2_NoRoof, u_NoRoof, z_NoRoof, g3_NoRoof, o1, o2, g4_NoRoof⟩, kit_own z_NoCorner v_NoCorner w_NoRoof_NoCorner (.inr n_NoRoof_NoCorner)⟩
      split at h
      · rename_i e; subst e; cases h; exact ⟨_, PySem.W.mg_of X G q_TooSteep, ⟨g1_TooSteep, g2_TooSteep, u_TooSteep, z_TooSteep, g3_TooSteep, o1, o2, g4_TooSteep⟩, kit_own z_NoCorner v_NoCorner w_TooSteep_NoCorner (.inr n_TooSteep_NoCorner)⟩
      split at h
      · rename_i e; subst e; cases h; exact ⟨_, PySem.W.mg_of X G q_TooMany, ⟨g1_TooMany, g2_TooMany, u_TooMany, z_TooMany, g3_TooMany, o1, o2, g4_TooMany⟩, kit_own z_NoCorner v_NoCorner w_TooMany_NoCorner (.inr n_TooMany_NoCorner)⟩
      split at h
      · rename_i e; subst e; cases h; exact ⟨_, PySem.W.mg_of X G q_NoNumber, ⟨g1_NoNumber, g2_NoNumber, u_NoNumber, z_NoNumber, g3_NoNumber, o1, o2, g4_NoNumber⟩, kit_own z_NoCorner v_NoCorner w_NoNumber_NoCorner (.inr n_NoNumber_NoCorner)⟩
      split at h
      · rename_i e; subst e; cases h; exact ⟨_, PySem.W.mg_of X G q_NoText, ⟨g1_NoText, g2_NoText, u_NoText, z_NoText, g3_NoText, o1, o2, g4_NoText⟩, kit_own z_NoCorner v_NoCorner w_NoText_NoCorner (.inr n_NoText_NoCorner)⟩
      cases h),
    i_NoName := isAt_own (PySem.W.mg_of X G q_NoName) (fun c b h => by
      unfold it_NoName at h
      split at h
      · rename_i e; subst e; cases h; exact ⟨_, PySem.W.mg_of X G q_NoFraction, ⟨g1_NoFraction, g2_NoFraction, u_NoFraction, z_NoFraction, g3_NoFraction, o1, o2, g4_NoFraction⟩, kit_own z_NoName v_NoName w_NoFraction_NoName (.inr n_NoFraction_NoName)⟩
      split at h
      · rename_i e; subst e; cases h; exact ⟨_, PySem.W.mg_of X G q_NoRoof, ⟨g1_NoRoof, g2_NoRoof, u_NoRoof, z_NoRoof, g3_NoRoof, o1, o2, g4_NoRoof⟩, kit_own z_NoName v_NoName w_NoRoof_NoName (.inr n_NoRoof_NoName)⟩
      split at h
      · rename_i e; subst e; cases h; exact ⟨_, PySem.W.mg_of X G q_TooSteep, ⟨g1_TooSteep, g2_TooSteep, u_TooSteep, z_TooSteep, g3_TooSteep, o1, o2, g4_TooSteep⟩, kit_own z_NoName v_NoName w_TooSteep_NoName (.inr n_TooSteep_NoName)⟩
      split at h
      · rename_i e; subst e; cases h; exact ⟨_, PySem.W.mg_of X G q_TooMany, ⟨g1_TooMany, g2_TooMany, u_TooMany, z_TooMany, g3_TooMany, o1, o2, g4_TooMany⟩, kit_own z_NoName v_NoName w_TooMany_NoName (.inr n_TooMany_NoName)⟩
      split at h
      · rename_i e; subst e; cases h; exact ⟨_, PySem.W.mg_of X G q_NoNumber, ⟨g1_NoNumber, g2_NoNumber, u_NoNumber, z_NoNumber, g3_NoNumber, o1, o2, g4_NoNumber⟩, kit_own z_NoName v_NoName w_NoNumber_NoName (.inr n_NoNumber_NoName)⟩
      split at h
      · rename_i e; subst e; cases h; exact ⟨_, PySem.W.mg_of X G q_NoText, ⟨g1_NoText, g2_NoText, u_NoText, z_NoText, g3_NoText, o1, o2, g4_NoText⟩, kit_own z_NoName v_NoName w_NoText_NoName (.inr n_NoText_NoName)⟩
      cases h),
    i_NoText := isAt_own (PySem.W.mg_of X G q_NoText) (fun c b h => by
      unfold it_NoText at h
      split at h
      · rename_i e; subst e; cases h; exact ⟨_, PySem.W.mg_of X G q_NoFraction, ⟨g1_NoFraction, g2_NoFraction, u_NoFraction, z_NoFraction, g3_NoFraction, o1, o2, g4_NoFraction⟩, kit_own z_NoText v_NoText w_NoFraction_NoText (.inr n_NoFraction_NoText)⟩
      split at h
      · rename_i e; subst e; cases h; exact ⟨_, PySem.W.mg_of X G q_NoRoof, ⟨g1_NoRoof, g2_NoRoof, u_NoRoof, z_NoRoof, g3_NoRoof, o1, o2, g4_NoRoof⟩, kit_own z_NoText v_NoText w_NoRoof_NoText (.inr n_NoRoof_NoText)⟩
      split at h
      · rename_i e; subst e; cases h; exact ⟨_, PySem.W.mg_of X G q_TooSteep, ⟨g1_TooSteep, g2_TooSteep, u_TooSteep, z_TooSteep, g3_TooSteep, o1, o2, g4_TooSteep⟩, kit_own z_NoText v_NoText w_TooSteep_NoText (.inr n_TooSteep_NoText)⟩
      split at h
      · rename_i e; subst e; cases h; exact ⟨_, PySem.W.mg_of X G q_TooMany, ⟨g1_TooMany, g2_TooMany, u_TooMany, z_TooMany, g3_TooMany, o1, o2, g4_TooMany⟩, kit_own z_NoText v_NoText w_TooMany_NoText (.inr n_TooMany_NoText)⟩
      split at h
      · rename_i e; subst e; cases h; exact ⟨_, PySem.W.mg_of X G q_NoNumber, ⟨g1_NoNumber, g2_NoNumber, u_NoNumber, z_NoNumber, g3_NoNumber, o1, o2, g4_NoNumber⟩, kit_own z_NoText v_NoText w_NoNumber_NoText (.inr n_NoNumber_NoText)⟩
      split at h
      · rename_i e; subst e; cases h; exact ⟨_, PySem.W.mg_of X G q_NoText, ⟨g1_NoText, g2_NoText, u_NoText, z_NoText, g3_NoText, o1, o2, g4_NoText⟩, kit_own z_NoText v_NoText w_NoText_NoText (.inl rfl)⟩
      cases h),
    h_NoNumber := hndAt (PySem.W.mg_of X G q_NoNumber) u_NoNumber z_NoNumber v_NoNumber (fun c b h => by
      unfold it_NoNumber at h
      split at h
      · rename_i e; subst e; cases h; exact ⟨_, PySem.W.mg_of X G q_NoFraction, w_NoFraction_NoNumber⟩
      split at h
      · rename_i e; subst e; cases h; exact ⟨_, PySem.W.mg_of X G q_NoRoof, w_NoRoof_NoNumber⟩
      split at h
      · rename_i e; subst e; cases h; exact ⟨_, PySem.W.mg_of X G q_TooSteep, w_TooSteep_NoNumber⟩
      split at h
      · rename_i e; subst e; cases h; exact ⟨_, PySem.W.mg_of X G q_TooMany, w_TooMany_NoNumber⟩
      split at h
      · rename_i e; subst e; cases h; exact ⟨_, PySem.W.mg_of X G q_NoNumber, w_NoNumber_NoNumber⟩
      split at h
      · rename_i e; subst e; cases h; exact ⟨_, PySem.W.mg_of X G q_NoText, w_NoText_NoNumber⟩
      cases h),
    h_RoofError := hndAt (PySem.W.mg_of X G q_RoofError) u_RoofError z_RoofError v_RoofError (fun c b h => by
      unfold it_RoofError at h
      split at h
      · rename_i e; subst e; cases h; exact ⟨_, PySem.W.mg_of X G q_NoFraction, w_NoFraction_RoofError⟩
      split at h
      · rename_i e; subst e; cases h; exact ⟨_, PySem.W.mg_of X G q_NoRoof, w_NoRoof_RoofError⟩
      split at h
      · rename_i e; subst e; cases h; exact ⟨_, PySem.W.mg_of X G q_TooSteep, w_TooSteep_RoofError⟩
      split at h
      · rename_i e; subst e; cases h; exact ⟨_, PySem.W.mg_of X G q_TooMany, w_TooMany_RoofError⟩
      split at h
      · rename_i e; subst e; cases h; exact ⟨_, PySem.W.mg_of X G q_NoNumber, w_NoNumber_RoofError⟩
      split at h
      · rename_i e; subst e; cases h; exact ⟨_, PySem.W.mg_of X G q_NoText, w_NoText_RoofError⟩
      cases h),
    h_NoText := hndAt (PySem.W.mg_of X G q_NoText) u_NoText z_NoText v_NoText (fun c b h => by
      unfold it_NoText at h
      split at h
      · rename_i e; subst e; cases h; exact ⟨_, PySem.W.mg_of X G q_NoFraction, w_NoFraction_NoText⟩
      split at h
      · rename_i e; subst e; cases h; exact ⟨_, PySem.W.mg_of X G q_NoRoof, w_NoRoof_NoText⟩
      split at h
      · rename_i e; subst e; cases h; exact ⟨_, PySem.W.mg_of X G q_TooSteep, w_TooSteep_NoText⟩
      split at h
      · rename_i e; subst e; cases h; exact ⟨_, PySem.W.mg_of X G q_TooMany, w_TooMany_NoText⟩
      split at h
      · rename_i e; subst e; cases h; exact ⟨_, PySem.W.mg_of X G q_NoNumber, w_NoNumber_NoText⟩
      split at h
      · rename_i e; subst e; cases h; exact ⟨_, PySem.W.mg_of X G q_NoText, w_NoText_NoText⟩
      cases h) }
theorem use {K : PySem.W.Frag} {mg : Str → Option Value} {p : Prop} (T : Tx K mg) (h : Tx K mg → p) : p := h T
theorem all_law {P : Program} {w : World} {K : PySem.W.Frag} {mg : Str → Option Value} {base : Heap} (T : Tx K mg) {g : Addr} (X : Cx) (E : XK) (B : Bs) (cdv : Value) (A : Around) (outer : List PySem.Env) (s : Shared) (H : Hp) (hX : X = cxOf (L2.CX P w) P w K mg base ["_law_script", "_law_kind", "_law_parts", "_law_c", "_law_thing", "_law_at", "_law_due_here", "_law_turn", "_law_found", "_law_plane_here"] "law" (defScope s_law) g cdv A outer s H E) (hr : Room 6 X.A) (C : Cxt X (WD E)) : SSs X B (WD E) (defBody s_law) mb_law := by
  have i_NoText := ini_NoText (P := P) (w := w) (base := base) T
  have e_divisor := d_divisor (P := P) (w := w) (base := base) T
  have e_fraction := d_fraction (P := P) (w := w) (base := base) T e_divisor
  have e_less := d_less (P := P) (w := w) (base := base) T
  have e_roof_of := d_roof_of (P := P) (w := w) (base := base) T e_less
  have e_whole_of := d_whole_of (P := P) (w := w) (base := base) T
  have e_top_of := d_top_of (P := P) (w := w) (base := base) T e_whole_of
  have e_number_of := d_number_of (P := P) (w := w) (base := base) T e_top_of e_whole_of e_fraction
  have e_is_step := d_is_step (P := P) (w := w) (base := base) T
  have e_plane_of := d_plane_of (P := P) (w := w) (base := base) T e_is_step e_number_of
  have e_read := d_read (P := P) (w := w) (base := base) T e_plane_of e_roof_of i_NoText
  have e__law_cell_at := d__law_cell_at (P := P) (w := w) (base := base) T
  have e__law_cells := d__law_cells (P := P) (w := w) (base := base) T e__law_cell_at
  have e__law_whole := d__law_whole (P := P) (w := w) (base := base) T
  have e__law_divisor := d__law_divisor (P := P) (w := w) (base := base) T
  have e__law_fraction := d__law_fraction (P := P) (w := w) (base := base) T e__law_divisor
  have e__law_is_fraction := d__law_is_fraction (P := P) (w := w) (base := base) T e__law_whole e__law_divisor
  have e__law_below := d__law_below (P := P) (w := w) (base := base) T
  have e__law_marks := d__law_marks (P := P) (w := w) (base := base) T
  have e__law_only := d__law_only (P := P) (w := w) (base := base) T
  have e__law_number_by := d__law_number_by (P := P) (w := w) (base := base) T e__law_fraction
  have e__law_number_text := d__law_number_text (P := P) (w := w) (base := base) T
  have e__law_figures := d__law_figures (P := P) (w := w) (base := base) T
  have e__law_number := d__law_number (P := P) (w := w) (base := base) T e__law_figures e__law_divisor
  have e__law_sign_by := d__law_sign_by (P := P) (w := w) (base := base) T
  have e__law_changed := d__law_changed (P := P) (w := w) (base := base) T e__law_sign_by
  have e__law_text_by := d__law_text_by (P := P) (w := w) (base := base) T e__law_cells e__law_number_text e__law_number_by
  have e__law_odd := d__law_odd (P := P) (w := w) (base := base) T
  have e__law_plane := d__law_plane (P := P) (w := w) (base := base) T e__law_number
  have e__law_due := d__law_due (P := P) (w := w) (base := base) T e__law_plane e__law_below
  have e__law_asked := d__law_asked (P := P) (w := w) (base := base) T e_read e__law_marks e__law_only e__law_whole
  exact d_law T e__law_cell_at e__law_text_by e__law_changed e__law_odd e__law_due e__law_asked e__law_is_fraction i_NoText X E B cdv A outer s H hX hr C
end G

set_option maxHeartbeats 1000000
namespace G
open PySem L2 Q TL SX
theorem g_divisor (a b : Int) : m_divisor [.int a, .int b] = .ok (.int (Nat.gcd a.natAbs b.natAbs : Nat)) := by
  rw [q_divisor]
  obtain ⟨s', e⟩ := gcd_whl (c := tst (ne (v 1) (k (.int 0)))) (fun a b s => by simp) (b.natAbs + 1) b.natAbs a.natAbs .no (Nat.lt_succ_self _)
  have e2 : Q.fuel 1 [.dat (.int a.natAbs), .dat (.int b.natAbs), .no] = b.natAbs + 1 := by simp [Q.fuel, natOf]
  simp [mb_divisor, e2, e]
theorem g__law_divisor (a b : Int) : m__law_divisor [.int a, .int b] = .ok (.int (Nat.gcd a.natAbs b.natAbs : Nat)) := by
  rw [q__law_divisor]
  obtain ⟨s', e⟩ := gcd_whl (c := tst (gt (v 1) (k (.int 0)))) (fun a b s => by simp only [ev_tst, ev_gt, ev_vs, ev_v0', ev_k, bind_ok', ib_int, of_some, asB_bool]; congr 1; rw [Bool.eq_iff_iff]; simp; omega) (b.natAbs + 1) b.natAbs a.natAbs .no (Nat.lt_succ_self _)
  have e2 : Q.fuel 1 [.dat (.int a.natAbs), .dat (.int b.natAbs), .no] = b.natAbs + 1 := by simp [Q.fuel, natOf]
  simp [mb__law_divisor, e2, e]
def low (t b : Int) : Int × Int := (t / (Nat.gcd t.natAbs b.natAbs : Nat), b / (Nat.gcd t.natAbs b.natAbs : Nat))
theorem fr_low {t b : Int} (h : 0 < b) (h1 : t.natAbs < 10 ^ 30) (h2 : b.natAbs < 10 ^ 30) : Fr (low t b) := by
  have g0 : 0 < Nat.gcd t.natAbs b.natAbs := Nat.gcd_pos_of_pos_right _ (by omega)
  have d1 : ((Nat.gcd t.natAbs b.natAbs : Nat) : Int) ∣ t := Int.gcd_dvd_left ..
  have d2 : ((Nat.gcd t.natAbs b.natAbs : Nat) : Int) ∣ b := Int.gcd_dvd_right ..
  have e1 : (t / (Nat.gcd t.natAbs b.natAbs : Nat)).natAbs = t.natAbs / Nat.gcd t.natAbs b.natAbs := by rw [Int.natAbs_ediv_of_dvd d1]; rfl
  have e2 : (b / (Nat.gcd t.natAbs b.natAbs : Nat)).natAbs = b.natAbs / Nat.gcd t.natAbs b.natAbs := by rw [Int.natAbs_ediv_of_dvd d2]; rfl
  refine ⟨?_, ?_, ?_, ?_⟩
  · exact Int.ediv_pos_of_pos_of_dvd h (by omega) d2
  · show Nat.gcd (t / (Nat.gcd t.natAbs b.natAbs : Nat)).natAbs (b / (Nat.gcd t.natAbs b.natAbs : Nat)).natAbs = 1
    rw [e1, e2]
    rw [Nat.gcd_div (Nat.gcd_dvd_left ..) (Nat.gcd_dvd_right ..), Nat.div_self g0]
  · show (t / (Nat.gcd t.natAbs b.natAbs : Nat)).natAbs < _
    rw [e1]; exact Nat.lt_of_le_of_lt (Nat.div_le_self _ _) h1
  · show (b / (Nat.gcd t.natAbs b.natAbs : Nat)).natAbs < _
    rw [e2]; exact Nat.lt_of_le_of_lt (Nat.div_le_self _ _) h2
theorem fr_self {a : Int × Int} (h : Fr a) : low a.1 a.2 = a := by
  unfold low; rw [h.low]; simp
theorem sz30 {i : Int} (h : i.natAbs < 10 ^ 30) : Sz 100 i := Nat.lt_trans h (by decide)
theorem gcd_sz {t b : Int} (h : 0 < b) (h2 : b.natAbs < 10 ^ 30) : Sz 100 (Nat.gcd t.natAbs b.natAbs : Nat) := by
  refine (sz30 h2).le ?_
  exact Nat.le_of_dvd (by omega) (Nat.gcd_dvd_right _ _)
def fd (a : Int × Int) : D := .tuple [.int a.1, .int a.2]
theorem g__law_fraction {t b : Int} (h : 0 < b) (h2 : b.natAbs < 10 ^ 30) : m__law_fraction [.int t, .int b] = .ok (fd (low t b)) := by
  have g0 : 0 < Nat.gcd t.natAbs b.natAbs := Nat.gcd_pos_of_pos_right _ (by omega)
  have e1 := dDiv_sz (i := t) (by omega) (gcd_sz (t := t) h h2) (by decide)
  have e2 := dDiv_sz (i := b) (by omega) (gcd_sz (t := t) h h2) (by decide)
  rw [q__law_fraction]
  simp [mb__law_fraction, g__law_divisor, e1, e2, fd, low, most]
theorem g_fraction {t b : Int} (h : 0 < b) (h2 : b.natAbs < 10 ^ 30) : m_fraction [.int t, .int b] = .ok (fd (low t b)) := by
  have g0 : 0 < Nat.gcd t.natAbs b.natAbs := Nat.gcd_pos_of_pos_right _ (by omega)
  have e1 := dDiv_sz (i := t) (by omega) (gcd_sz (t := t) h h2) (by decide)
  have e2 := dDiv_sz (i := b) (by omega) (gcd_sz (t := t) h h2) (by decide)
  have h3 : ¬ b = 0 := by omega
  have h4 : ¬ b < 0 := by omega
  rw [q_fraction]
  simp [mb_fraction, g_divisor, e1, e2, fd, low, most, h3, h4]
def cellV (c : Int) (k : Nat) : Int := c * 1000003 + (c + 7 * k * k + 13 * k + 5) * 48271 % 2147483647 * 69621 % 1000000007
def cellOf (ns : List Int) (k : Nat) : Int := cellV (if h : k < ns.length then ns[k] % 10 ^ 60 else 0) k
theorem g_cell (ns : List Int) {k : Nat} (hk : k < 1000) : m__law_cell_at [.list (ns.map .int), .int k] = .ok (.int (cellOf ns k)) := by
  rw [q__law_cell_at]
  have e2 : dMul (.int (7 * (k : Int))) (.int k) = some (.int (7 * k * k)) := dMul_r' (by omega)
  by_cases h : k < ns.length
  · have e : atI (ns.map PyData.int) (k : Int) = some (.int ns[k]) := by rw [Q.atI_nat]; simp [h]
    simp [mb__law_cell_at, e, h, e2, cellOf, cellV]
  · simp [mb__law_cell_at, h, e2, cellOf, cellV]
theorem cell_pos (ns : List Int) (k : Nat) : 0 ≤ cellOf ns k := by
  have key : ∀ c : Int, 0 ≤ c → 0 ≤ cellV c k := fun c hc => by
    unfold cellV
    omega
  unfold cellOf
  split
  · exact key _ (Int.emod_nonneg _ (by decide))
  · exact key _ (by omega)
theorem fr_one {t : Int} (h : t.natAbs < 10 ^ 30) : Fr (t, 1) := ⟨Int.one_pos, Nat.gcd_one_right _, h, show (1 : Int).natAbs < 10 ^ 30 by decide⟩
structure Sm (a : Int × Int) : Prop where
  top : a.1.natAbs ≤ 10 ^ 29
  bot : a.2.natAbs ≤ 10 ^ 29
theorem sm_low {t b : Int} (h1 : t.natAbs ≤ 10 ^ 29) (h2 : b.natAbs ≤ 10 ^ 29) : Sm (low t b) := by
  have d1 : ((Nat.gcd t.natAbs b.natAbs : Nat) : Int) ∣ t := Int.gcd_dvd_left ..
  have d2 : ((Nat.gcd t.natAbs b.natAbs : Nat) : Int) ∣ b := Int.gcd_dvd_right ..
  have e1 : (t / (Nat.gcd t.natAbs b.natAbs : Nat)).natAbs = t.natAbs / Nat.gcd t.natAbs b.natAbs := by rw [Int.natAbs_ediv_of_dvd d1]; rfl
  have e2 : (b / (Nat.gcd t.natAbs b.natAbs : Nat)).natAbs = b.natAbs / Nat.gcd t.natAbs b.natAbs := by rw [Int.natAbs_ediv_of_dvd d2]; rfl
  refine ⟨?_, ?_⟩
  · show (t / (Nat.gcd t.natAbs b.natAbs : Nat)).natAbs ≤ _
    rw [e1]; exact Nat.le_trans (Nat.div_le_self _ _) h1
  · show (b / (Nat.gcd t.natAbs b.natAbs : Nat)).natAbs ≤ _
    rw [e2]; exact Nat.le_trans (Nat.div_le_self _ _) h2
theorem g_number_by (c kind : Int) : ∃ a, Fr a ∧ Sm a ∧ m__law_number_by [.int c, .int kind] = .ok (fd a) := by
  rw [q__law_number_by]
  have h1 := Int.emod_nonneg c (show (10 ^ 60 : Int) ≠ 0 by decide)
  have h2 := Int.emod_lt_of_pos c (show (0 : Int) < 10 ^ 60 by decide)
  have e : dMul (.int (c % 10 ^ 60)) (.int (1000003 ^ 4)) = some (.int (c % 10 ^ 60 * 1000003 ^ 4)) := dMul_sz (n := 200) (m := 90) (Sz.of_abs (k := 10 ^ 60) (by omega) (by decide)) (Sz.lit (by decide)) (by decide)
  simp only [Int.reducePow] at e
  generalize hx : c % 10 ^ 60 = x at *
  simp only [Int.reducePow] at hx
  rw [hx] at e
  by_cases k0 : kind % 3 = 0
  · refine ⟨(x % 7 - 3, 1), fr_one (by omega), ⟨show (x % 7 - 3).natAbs ≤ _ by omega, show (1 : Int).natAbs ≤ 10 ^ 29 by decide⟩, ?_⟩
    simp [mb__law_number_by, hx, k0, fd, most]
  · by_cases k1 : kind % 3 = 1
    · refine ⟨low (x % 41 - 20) (1 + x / 41 % 12), fr_low (by omega) (by omega) (by omega), sm_low (by omega) (by omega), ?_⟩
      have e3 := g__law_fraction (t := x % 41 - 20) (b := 1 + x / 41 % 12) (by omega) (by omega)
      simp [mb__law_number_by, hx, k1, e3]
    · refine ⟨low (x * 1000003 ^ 4 % (2 * 10 ^ 29 + 1) - 10 ^ 29) (1 + x * 48271 % 10 ^ 29), fr_low (by omega) (by omega) (by omega), sm_low (by omega) (by omega), ?_⟩
      have e3 := g__law_fraction (t := x * 1000003 ^ 4 % (2 * 10 ^ 29 + 1) - 10 ^ 29) (b := 1 + x * 48271 % 10 ^ 29) (by omega) (by omega)
      simp only [Int.reducePow, Int.reduceMul, Int.reduceAdd] at e3 ⊢
      simp [mb__law_number_by, hx, k0, k1, e, e3]
theorem fr_len {a : Int × Int} (h : a.1.natAbs < 10 ^ 32) (h2 : a.2.natAbs < 10 ^ 32) : (numT a).length ≤ 67 := numT_len (k := 32) (by decide) h h2
theorem shaped_fd (a : Int × Int) : SeqAt.shaped (fd a) = true := by simp [SeqAt.shaped, fd, PyData.canLay0, PyData.canLayAll0, PyData.depth, PyData.depthAll]
theorem g__law_whole (i : Int) : m__law_whole [.int i] = .ok (.bool true) := by
  rw [q__law_whole]; simp [mb__law_whole]
theorem g__law_is_fraction {a : Int × Int} (h : Fr a) : m__law_is_fraction [fd a] = .ok (.bool true) := by
  rw [q__law_is_fraction]
  have h1 := h.low
  have h2 : ¬ a.2 < 1 := by have := h.pos; omega
  simp [mb__law_is_fraction, fd, g__law_whole, g__law_divisor, h1, h2]
theorem figsS : (Str.ofString "0123456789" : Str) = S [48, 49, 50, 51, 52, 53, 54, 55, 56, 57] := rfl
theorem exc_loop {l : List Nat} {z : D} {s : Q.Slot} : ∀ (r : List Nat) (s : Q.Slot), (r.all isFig = true → ∃ s', loop (bN 1) (Q.ite (tst (notin (v 1) (k (.str "0123456789")))) (rse "NoNumber") pass) (r.map fun c => .str (S [c])) [.dat z, s] = .nx [.dat z, s']) ∧
    (r.all isFig = false → ∃ s', loop (bN 1) (Q.ite (tst (notin (v 1) (k (.str "0123456789")))) (rse "NoNumber") pass) (r.map fun c => .str (S [c])) [.dat z, s] = .exc "NoNumber" .none [.dat z, s'])
  | [], s => ⟨fun _ => ⟨s, rfl⟩, fun h => by simp at h⟩
  | c :: r, s => by
    have ih := exc_loop (l := l) (z := z) (s := s) r (.dat (.str (S [c])))
    have e := dIn_sign c [48, 49, 50, 51, 52, 53, 54, 55, 56, 57]
    cases hc : isFig c with
    | true =>
      rw [decide_eq_true (isFig_mem.mp hc)] at e
      have st : loop (bN 1) (Q.ite (tst (notin (v 1) (k (.str "0123456789")))) (rse "NoNumber") pass) ((c :: r).map fun c => .str (S [c])) [.dat z, s] = loop (bN 1) (Q.ite (tst (notin (v 1) (k (.str "0123456789")))) (rse "NoNumber") pass) (r.map fun c => .str (S [c])) [.dat z, .dat (.str (S [c]))] :=
        loop_cons (ρ1 := [.dat z, .dat (.str (S [c]))]) rfl (by simp [figsS, e])
      rw [st]
      simp only [List.all_cons, hc, Bool.true_and]
      exact ih
    | false =>
      have hm : c ∉ [48, 49, 50, 51, 52, 53, 54, 55, 56, 57] := fun z => by rw [isFig_mem.mpr z] at hc; cases hc
      rw [decide_eq_false hm] at e
      refine ⟨fun h => by simp [hc] at h, fun _ => ⟨.dat (.str (S [c])), ?_⟩⟩
      have : Q.ite (tst (notin (v 1) (k (.str "0123456789")))) (rse "NoNumber") pass [.dat z, .dat (.str (S [c]))] = .exc "NoNumber" .none [.dat z, .dat (.str (S [c]))] := by simp [figsS, e, rse]
      simp only [List.map_cons, loop, bN_ev, List.set_cons_succ, List.set_cons_zero, this]
theorem atI_head {l : List Nat} {c : Nat} {r : List Nat} (e : l = c :: r) : atI l 0 = some c := by rw [e]; simp
theorem g_whole_of {l : List Nat} (hl : l.length ≤ 9000) : m_whole_of [.str (S l)] = match figs l with
    | some n => .ok (.int n)
    | none => .exc "NoNumber" .none := by
  rw [q_whole_of]
  have e1 := dLen_S (a := l) (by simp [most]; omega)
  have e3 : signs (S l) = l.map fun c => .str (S [c]) := rfl
  have e7 : (Str.ofString "0" : Str) = S [48] := rfl
  obtain ⟨ha, hb⟩ := exc_loop (l := l) (z := .str (S l)) (s := .no) l .no
  by_cases h0 : l.length = 0
  · have : figs l = none := by unfold figs; rw [if_pos (.inl h0)]
    rw [this]
    have : l = [] := List.length_eq_zero_iff.mp h0
    subst this
    simp [mb_whole_of, e1, rse]
  · obtain ⟨c, r, e5⟩ : ∃ c r, l = c :: r := by
      cases l with
      | nil => simp at h0
      | cons c r => exact ⟨c, r, rfl⟩
    have e6 := dIx_S (l := l) (c := c) 0 (by simp [most]; omega) (atI_head e5)
    have h2 : ¬ l = [] := by rw [e5]; simp
    by_cases h1 : 30 < l.length
    · have : figs l = none := by unfold figs; rw [if_pos (.inr (.inl h1))]
      rw [this]
      have h1' : (30 : Int) < l.length := by omega
      simp [mb_whole_of, e1, rse, h2, h1']
    · have h1' : ¬ (30 : Int) < l.length := by omega
      cases hd : l.all isFig with
      | false =>
        have : figs l = none := by unfold figs; rw [if_pos (.inr (.inr (.inr hd)))]
        rw [this]
        obtain ⟨s', e2⟩ := hb hd
        simp [mb_whole_of, e1, h2, h1', e3, e2]
      | true =>
        obtain ⟨s', e2⟩ := ha hd
        have e4 : dInt [.str (S l)] = some (.int (NumText.digitsVal l : Nat)) := by
          show (if (S l).length ≤ 640 then (PySem.intText? (S l)).map PyData.int else none) = _
          rw [S_len, if_pos (by omega), int_S hd h2 (by omega)]; rfl
        by_cases h3 : c = 48 ∧ 1 < l.length
        · have : figs l = none := by unfold figs; rw [if_pos (.inr (.inr (.inl ⟨by rw [e5, h3.1]; rfl, h3.2⟩)))]
          rw [this]
          have h4 : (1 : Int) < l.length := by omega
          simp [mb_whole_of, e1, h2, h1', e3, e2, e6, e7, h3.1, h4, rse]
        · have : figs l = some (NumText.digitsVal l) := by
            unfold figs
            rw [if_neg]
            rintro (z | z | z | z)
            · exact h0 z
            · exact h1 z
            · rw [e5] at z
              simp only [List.head?_cons, Option.some.injEq] at z
              rw [← e5] at z
              exact h3 z
            · rw [hd] at z; cases z
          rw [this]
          by_cases hc : c = 48
          · have h4 : ¬ (1 : Int) < l.length := by have : ¬ 1 < l.length := fun z => h3 ⟨hc, z⟩; omega
            simp [mb_whole_of, e1, h2, h1', e3, e2, e6, e7, hc, h4, e4]
          · simp [mb_whole_of, e1, h2, h1', e3, e2, e6, e7, S_ne, hc, e4]
def topP (neg : Bool) (p : List Nat) : Option Int := (figs p).bind fun t => if neg = true ∧ t = 0 then none else some (if neg = true then -(t : Int) else t)
theorem minus : (Str.ofString "-" : Str) = S [45] := rfl
theorem stroke : (Str.ofString "/" : Str) = S [47] := rfl
theorem g_top_of {neg : Bool} {p : List Nat} (hl : p.length ≤ 8998) (hn : neg = false → p.head? ≠ some 45) : m_top_of [.str (S (if neg = true then 45 :: p else p))] = match topP neg p with
    | some t => .ok (.int t)
    | none => .exc "NoNumber" .none := by
  rw [q_top_of]
  have e1 := g_whole_of (l := p) (by omega)
  cases neg with
  | true =>
    rw [if_pos rfl]
    have e3 := cutS_to (l := 45 :: p) (i := 1) (by decide)
    have e4 := cutS_from (l := 45 :: p) (i := 1) (by decide)
    have hz : (S (45 :: p)).length ≤ most := by rw [S_len]; simp [most]; omega
    simp only [Int.toNat_one, List.take_succ_cons, List.take_zero, List.drop_succ_cons, List.drop_zero] at e3 e4
    unfold topP
    cases hf : figs p with
    | none =>
      rw [hf] at e1
      simp [mb_top_of, e3, e4, hz, minus, e1]
    | some n =>
      rw [hf] at e1
      by_cases h0 : n = 0
      · subst h0; simp [mb_top_of, e3, e4, hz, minus, e1, rse]
      · simp [mb_top_of, e3, e4, hz, minus, e1, rse, h0]
  | false =>
    rw [if_neg (by decide)]
    have e3 := cutS_to (l := p) (i := 1) (by decide)
    have hz : (S p).length ≤ most := by rw [S_len]; simp [most]; omega
    have h1 : ¬ p.take 1 = [45] := by
      have := hn rfl
      cases p with
      | nil => simp
      | cons c r => simpa using this
    simp only [Int.toNat_one] at e3
    unfold topP
    cases hf : figs p with
    | none =>
      rw [hf] at e1
      simp [mb_top_of, e3, hz, minus, S_ne, h1, e1]
    | some n =>
      rw [hf] at e1
      simp [mb_top_of, e3, hz, minus, S_ne, h1, e1]
theorem low_eq {t b : Int} (hb : 2 ≤ b) : (low t b = (t, b)) ↔ Nat.gcd t.natAbs b.natAbs = 1 := by
  constructor
  · intro h
    have h2 : b / (Nat.gcd t.natAbs b.natAbs : Nat) = b := congrArg (·.2) h
    refine Classical.byContradiction fun z => ?_
    have g0 : 0 < Nat.gcd t.natAbs b.natAbs := Nat.gcd_pos_of_pos_right _ (by omega)
    have : b / (Nat.gcd t.natAbs b.natAbs : Nat) < b := Int.ediv_lt_self_of_pos_of_ne_one (by omega) (by omega)
    omega
  · intro h
    unfold low; rw [h]; simp
theorem dEq_fd (a b : Int × Int) : dEq (fd a) (fd b) = some (decide (a = b)) := by
  have e : dEq (fd a) (fd b) = if SeqAt.shaped (fd a) = true ∧ SeqAt.shaped (fd b) = true then some (PyData.eqv (fd a) (fd b)) else none := rfl
  rw [e, if_pos ⟨shaped_fd a, shaped_fd b⟩]
  congr 1
  rw [Bool.eq_iff_iff]
  simp [fd, PyData.eqv, PyData.eqvAll, Prod.ext_iff]
theorem numP1 (neg : Bool) (p : List Nat) : numP neg [p] = (topP neg p).map fun t => (t, 1) := by
  show ((figs p).bind fun t => if neg = true ∧ t = 0 then none else some (if neg = true then -(t : Int) else t, (1 : Int))) = ((figs p).bind _).map _
  cases figs p with
  | none => rfl
  | some t =>
    simp only [Option.bind_some]
    by_cases h : neg = true ∧ t = 0
    · rw [if_pos h, if_pos h]; rfl
    · rw [if_neg h, if_neg h]; rfl
theorem numP2 (neg : Bool) (p q : List Nat) : numP neg [p, q] = (topP neg p).bind fun t => (figs q).bind fun b => if b < 2 ∨ Nat.gcd t.natAbs b ≠ 1 then none else some (t, (b : Int)) := by
  show ((figs p).bind fun t => (figs q).bind fun b => if (neg = true ∧ t = 0) ∨ b < 2 ∨ Nat.gcd t b ≠ 1 then none else some (if neg = true then -(t : Int) else t, (b : Int))) = ((figs p).bind _).bind _
  cases figs p with
  | none => rfl
  | some t =>
    simp only [Option.bind_some]
    by_cases h1 : neg = true ∧ t = 0
    · rw [if_pos h1]
      cases figs q with
      | none => rfl
      | some b => simp only [Option.bind_some, Option.bind_none]; rw [if_pos (.inl h1)]
    · rw [if_neg h1, Option.bind_some]
      have e : (if neg = true then -(t : Int) else t).natAbs = t := by split <;> omega
      rw [e]
      cases figs q with
      | none => rfl
      | some b =>
        simp only [Option.bind_some]
        by_cases h2 : b < 2 ∨ Nat.gcd t b ≠ 1
        · rw [if_pos (.inr h2), if_pos h2]
        · rw [if_neg h2, if_neg (by rintro (z | z); exact h1 z; exact h2 z)]
theorem g_number_of {l : List Nat} (hl : l.length ≤ 8990) : m_number_of [.str (S l)] = match num l with
    | some a => .ok (fd a)
    | none => .exc "NoNumber" .none := by
  rw [q_number_of]
  have key : ∃ (neg : Bool) (p : List Nat) (ps : List (List Nat)), parts l = (if neg = true then 45 :: p else p) :: ps ∧ (neg = false → p.head? ≠ some 45) ∧ num l = numP neg (p :: ps) ∧ p.length ≤ 8990 ∧ ∀ q ∈ ps, q.length ≤ 8990 := by
    have hb := spl_len 47 l []
    simp only [List.length_nil, Nat.zero_add] at hb
    by_cases h : l.head? = some 45
    · obtain ⟨r, rfl⟩ : ∃ r, l = 45 :: r := by
        cases l with
        | nil => simp at h
        | cons c r => simp at h; exact ⟨r, by rw [h]⟩
      obtain ⟨p, ps, e1, e2⟩ := parts_neg r
      refine ⟨true, p, ps, by simpa using e2, fun z => absurd z (by decide), ?_, ?_, fun q hq => ?_⟩
      · unfold num; rw [if_pos h, List.tail_cons, e1]
      · have := hb (45 :: p) (by show _ ∈ parts _; rw [e2]; simp)
        simp at this hl; omega
      · have := hb q (by show _ ∈ parts _; rw [e2]; simp [hq])
        omega
    · obtain ⟨p, ps, e1, e2⟩ := parts_pos h
      refine ⟨false, p, ps, by simpa using e1, fun _ => e2, ?_, ?_, fun q hq => ?_⟩
      · unfold num; rw [if_neg h, e1]
      · have := hb p (by show _ ∈ parts _; rw [e1]; simp)
        omega
      · have := hb q (by show _ ∈ parts _; rw [e1]; simp [hq])
        omega
  obtain ⟨neg, p, ps, e1, hn, e2, l1, l2⟩ := key
  rw [e2]
  have e4 := fSplit_ok (a := l) (b := [47]) (l := parts l) (by simp) (by rfl) (by simp [most]; omega) rfl
  rw [e1] at e4
  have et := g_top_of (neg := neg) (p := p) (by omega) hn
  generalize hp0 : (if neg = true then 45 :: p else p) = p0 at *
  match ps, l2, e4 with
  | [], _, e4 =>
    simp only [List.map_cons, List.map_nil] at e4
    have e5 := numP1 neg p
    rw [e5]
    cases ht : topP neg p with
    | none => rw [ht] at et; simp [mb_number_of, stroke, e4, et]
    | some t => rw [ht] at et; simp [mb_number_of, stroke, e4, et, fd, most]
  | [q], l2, e4 =>
    simp only [List.map_cons, List.map_nil] at e4
    have eq := g_whole_of (l := q) (by have := l2 q (by simp); omega)
    have e5 := numP2 neg p q
    rw [e5]
    cases ht : topP neg p with
    | none => rw [ht] at et; simp [mb_number_of, stroke, e4, et]
    | some t =>
      rw [ht] at et
      cases hq : figs q with
      | none => rw [hq] at eq; simp [mb_number_of, stroke, e4, et, eq]
      | some b =>
        rw [hq] at eq
        have hbl := figs_lt hq
        by_cases h2 : b < 2
        · have h2' : (b : Int) < 2 := by omega
          simp [mb_number_of, stroke, e4, et, eq, h2, h2', rse]
        · have h2' : ¬ (b : Int) < 2 := by omega
          have ef := g_fraction (t := t) (b := b) (by omega) (by omega)
          have e9 := dEq_fd (low t b) (t, b)
          have e10 : fd (t, (b : Int)) = .tuple [.int t, .int b] := rfl
          rw [e10] at e9
          have hle := low_eq (t := t) (b := b) (by omega)
          by_cases h3 : Nat.gcd t.natAbs b = 1
          · have h4 : low t b = (t, (b : Int)) := hle.mpr h3
            rw [h4, e10] at ef e9
            simp [mb_number_of, stroke, e4, et, eq, h2, h2', ef, e9, h3, fd, most]
          · have h4 : ¬ low t b = (t, (b : Int)) := fun z => h3 (hle.mp z)
            simp [mb_number_of, stroke, e4, et, eq, h2, h2', ef, e9, h3, h4, most, rse]
  | q :: q2 :: rest, _, e4 =>
    have e5 : numP neg (p :: q :: q2 :: rest) = none := rfl
    rw [e5]
    simp only [List.map_cons] at e4
    have : (2 : Int) < (rest.length : Int) + 1 + 1 + 1 := by omega
    simp [mb_number_of, stroke, e4, this, rse]
theorem fIndex_fig {c : Nat} (h : isFig c = true) : fIndex (S [48, 49, 50, 51, 52, 53, 54, 55, 56, 57]) (.str (S [c])) = .ok (.int ((c - 48 : Nat) : Int)) := by
  have key : ∀ c ∈ [48, 49, 50, 51, 52, 53, 54, 55, 56, 57], Builtin.Str.occurrences (S [48, 49, 50, 51, 52, 53, 54, 55, 56, 57]) (S [c]) 0 (S [48, 49, 50, 51, 52, 53, 54, 55, 56, 57]).length 1 = [c - 48] := by decide +kernel
  unfold fIndex
  simp only
  rw [key c (isFig_mem.mp h)]
abbrev figB : SM := seq (Q.ite (tst (notin (v 2) (k (.str "0123456789")))) (ret (k .none)) pass) (setB 1 (add (mul (v 1) (k (.int 10))) (strM fIndex (k (.str "0123456789")) (v 2))))
theorem fig_loop {z : D} : ∀ (r : List Nat) (a : Nat) (s : Q.Slot), (r.all isFig = true → ∃ s', loop (bN 2) figB (r.map fun c => .str (S [c])) [.dat z, .dat (.int a), s] = .nx [.dat z, .dat (.int (r.foldl (fun acc c => acc * 10 + (c - 48)) a : Nat)), s']) ∧
    (r.all isFig = false → loop (bN 2) figB (r.map fun c => .str (S [c])) [.dat z, .dat (.int a), s] = .rt .none)
  | [], a, s => ⟨fun _ => ⟨s, rfl⟩, fun h => by simp at h⟩
  | c :: r, a, s => by
    have ih := fig_loop (z := z) r (a * 10 + (c - 48)) (.dat (.str (S [c])))
    have e := dIn_sign c [48, 49, 50, 51, 52, 53, 54, 55, 56, 57]
    cases hc : isFig c with
    | true =>
      rw [decide_eq_true (isFig_mem.mp hc)] at e
      have e2 := fIndex_fig hc
      have st : loop (bN 2) figB ((c :: r).map fun c => .str (S [c])) [.dat z, .dat (.int a), s] = loop (bN 2) figB (r.map fun c => .str (S [c])) [.dat z, .dat (.int ((a * 10 + (c - 48) : Nat) : Int)), .dat (.str (S [c]))] :=
        loop_cons (ρ1 := [.dat z, .dat (.int a), .dat (.str (S [c]))]) rfl (by simp [figsS, e, e2])
      rw [st]
      simp only [List.all_cons, hc, Bool.true_and, List.foldl_cons]
      exact ih
    | false =>
      have hm : c ∉ [48, 49, 50, 51, 52, 53, 54, 55, 56, 57] := fun z => by rw [isFig_mem.mpr z] at hc; cases hc
      rw [decide_eq_false hm] at e
      refine ⟨fun h => by simp [hc] at h, fun _ => ?_⟩
      have : figB [.dat z, .dat (.int a), .dat (.str (S [c]))] = .rt .none := by simp [figsS, e]
      simp only [List.map_cons, loop, bN_ev, List.set_cons_succ, List.set_cons_zero, this]
theorem g__law_figures {l : List Nat} (hl : l.length ≤ 9000) : m__law_figures [.str (S l)] = match figs l with
    | some n => .ok (.int n)
    | none => .ok .none := by
  rw [q__law_figures]
  have e1 := dLen_S (a := l) (by simp [most]; omega)
  have e3 : signs (S l) = l.map fun c => .str (S [c]) := rfl
  have e7 : (Str.ofString "0" : Str) = S [48] := rfl
  obtain ⟨ha, hb⟩ := fig_loop (z := .str (S l)) l 0 .no
  have e0 : ((0 : Nat) : Int) = 0 := rfl
  rw [e0] at ha hb
  by_cases h0 : l.length = 0
  · have : figs l = none := by unfold figs; rw [if_pos (.inl h0)]
    rw [this]
    have : l = [] := List.length_eq_zero_iff.mp h0
    subst this
    simp [mb__law_figures, e1]
  · obtain ⟨c, r, e5⟩ : ∃ c r, l = c :: r := by
      cases l with
      | nil => simp at h0
      | cons c r => exact ⟨c, r, rfl⟩
    have e6 := dIx_S (l := l) (c := c) 0 (by simp [most]; omega) (atI_head e5)
    have h2 : ¬ l = [] := by rw [e5]; simp
    by_cases h1 : 30 < l.length
    · have : figs l = none := by unfold figs; rw [if_pos (.inr (.inl h1))]
      rw [this]
      have h1' : (30 : Int) < l.length := by omega
      simp [mb__law_figures, e1, h2, h1']
    · have h1' : ¬ (30 : Int) < l.length := by omega
      by_cases h3 : c = 48 ∧ 1 < l.length
      · have : figs l = none := by unfold figs; rw [if_pos (.inr (.inr (.inl ⟨by rw [e5, h3.1]; rfl, h3.2⟩)))]
        rw [this]
        have h4 : (1 : Int) < l.length := by omega
        simp [mb__law_figures, e1, h2, h1', e6, e7, h3.1, h4]
      · have h34 : ¬ (c = 48) ∨ (c = 48 ∧ ¬ (1 : Int) < l.length) := by
          by_cases hc : c = 48
          · right; exact ⟨hc, by have : ¬ 1 < l.length := fun z => h3 ⟨hc, z⟩; omega⟩
          · exact .inl hc
        cases hd : l.all isFig with
        | false =>
          have : figs l = none := by unfold figs; rw [if_pos (.inr (.inr (.inr hd)))]
          rw [this]
          have e2 := hb hd
          rcases h34 with hc | ⟨hc, h4⟩
          · simp [mb__law_figures, e1, h2, h1', e3, e2, e6, e7, S_ne, hc]
          · simp [mb__law_figures, e1, h2, h1', e3, e2, e6, e7, hc, h4]
        | true =>
          obtain ⟨s', e2⟩ := ha hd
          have : figs l = some (NumText.digitsVal l) := by
            unfold figs
            rw [if_neg]
            rintro (z | z | z | z)
            · exact h0 z
            · exact h1 z
            · rw [e5] at z
              simp only [List.head?_cons, Option.some.injEq] at z
              rw [← e5] at z
              exact h3 z
            · rw [hd] at z; cases z
          rw [this]
          have e8 : l.foldl (fun acc c => acc * 10 + (c - 48)) 0 = NumText.digitsVal l := rfl
          rw [e8] at e2
          rcases h34 with hc | ⟨hc, h4⟩
          · simp [mb__law_figures, e1, h2, h1', e3, e2, e6, e7, S_ne, hc]
          · simp [mb__law_figures, e1, h2, h1', e3, e2, e6, e7, hc, h4]
def optFd : Option (Int × Int) → D
  | some a => fd a
  | none => .none
theorem g__law_number {l : List Nat} (hl : l.length ≤ 8990) : m__law_number [.str (S l)] = .ok (optFd (num l)) := by
  rw [q__law_number]
  have hz : (S l).length ≤ most := by rw [S_len]; simp [most]; omega
  have hz2 : (S l).length ≤ 100000 := hz
  have e3 := cutS_to (l := l) (i := 1) (by decide)
  simp only [Int.toNat_one] at e3
  have key : ∃ (neg : Bool) (l' : List Nat) (j : Int), (decide (l.take 1 = [45])) = neg ∧ dInt [.bool neg] = some (.int j) ∧ cutS (S l) (some j) none = S l' ∧ num l = numP neg (parts l') ∧ l'.length ≤ 8990 := by
    by_cases h : l.head? = some 45
    · obtain ⟨r, rfl⟩ : ∃ r, l = 45 :: r := by
        cases l with
        | nil => simp at h
        | cons c r => simp at h; exact ⟨r, by rw [h]⟩
      refine ⟨true, r, 1, by simp, rfl, ?_, ?_, by simp at hl; omega⟩
      · rw [cutS_from (by decide)]; rfl
      · unfold num; rw [if_pos h, List.tail_cons]
    · refine ⟨false, l, 0, ?_, rfl, ?_, ?_, hl⟩
      · rw [decide_eq_false_iff_not]
        cases l with
        | nil => simp
        | cons c r => simpa using h
      · rw [cutS_from (by decide)]; rfl
      · unfold num; rw [if_neg h]
  obtain ⟨neg, l', j, en, e6, ec, e2, hl'⟩ := key
  rw [e2]
  have e4 := fSplit_ok (a := l') (b := [47]) (l := parts l') (by simp) (by rfl) (by simp [most]; omega) rfl
  have hq : ∀ q ∈ parts l', q.length ≤ 8990 := fun q hq => by
    have := spl_len 47 l' [] q hq
    simp at this; omega
  have e5 : dEq (.str (S (l.take 1))) (.str (S [45])) = some neg := by
    rw [dEq_str, ← en]
    congr 1
    rw [Bool.eq_iff_iff]; simp [S_ne]
  have hp : ∃ p ps, parts l' = p :: ps := by
    by_cases h : l'.head? = some 45
    · cases l' with
      | nil => simp at h
      | cons c r =>
        simp at h; subst h
        obtain ⟨p, ps, _, e⟩ := parts_neg r
        exact ⟨_, _, e⟩
    · obtain ⟨p, ps, e, _⟩ := parts_pos h
      exact ⟨_, _, e⟩
  obtain ⟨p, ps, ep⟩ := hp
  rw [ep] at e4 hq ⊢
  have ef := g__law_figures (l := p) (by have := hq p (by simp); omega)
  match ps, hq, e4 with
  | [], _, e4 =>
    simp only [List.map_cons, List.map_nil] at e4
    show _ = RF.ok (optFd ((figs p).bind fun t => if neg = true ∧ t = 0 then none else some (if neg = true then -(t : Int) else t, (1 : Int))))
    cases hf : figs p with
    | none =>
      rw [hf] at ef
      simp [mb__law_number, hz, hz2, e3, minus, e5, e6, ec, stroke, e4, ef, dIsN, optFd]
    | some t =>
      rw [hf] at ef
      cases neg with
      | true =>
        by_cases h0 : t = 0
        · subst h0; simp [mb__law_number, hz, hz2, e3, minus, e5, e6, ec, stroke, e4, ef, dIsN, optFd]
        · simp [mb__law_number, hz, hz2, e3, minus, e5, e6, ec, stroke, e4, ef, dIsN, optFd, h0, fd, most]
      | false => simp [mb__law_number, hz, hz2, e3, minus, e5, e6, ec, stroke, e4, ef, dIsN, optFd, fd, most]
  | [q], hq, e4 =>
    simp only [List.map_cons, List.map_nil] at e4
    have eg := g__law_figures (l := q) (by have := hq q (by simp); omega)
    show _ = RF.ok (optFd ((figs p).bind fun t => (figs q).bind fun b => if (neg = true ∧ t = 0) ∨ b < 2 ∨ Nat.gcd t b ≠ 1 then none else some (if neg = true then -(t : Int) else t, (b : Int))))
    cases hf : figs p with
    | none =>
      rw [hf] at ef
      cases hg : figs q with
      | none => rw [hg] at eg; simp [mb__law_number, hz, hz2, e3, minus, e5, e6, ec, stroke, e4, ef, eg, dIsN, optFd]
      | some b => rw [hg] at eg; simp [mb__law_number, hz, hz2, e3, minus, e5, e6, ec, stroke, e4, ef, eg, dIsN, optFd]
    | some t =>
      rw [hf] at ef
      cases hg : figs q with
      | none => rw [hg] at eg; simp [mb__law_number, hz, hz2, e3, minus, e5, e6, ec, stroke, e4, ef, eg, dIsN, optFd]
      | some b =>
        rw [hg] at eg
        have ed := g__law_divisor t b
        simp only [Int.natAbs_natCast] at ed
        by_cases h0 : neg = true ∧ t = 0
        · obtain ⟨h1, h2⟩ := h0
          subst h1 h2
          simp [mb__law_number, hz, hz2, e3, minus, e5, e6, ec, stroke, e4, ef, eg, dIsN, optFd]
        · by_cases h2 : b < 2
          · have h2' : (b : Int) < 2 := by omega
            cases neg with
            | true =>
              have h0' : ¬ t = 0 := fun z => h0 ⟨rfl, z⟩
              simp [mb__law_number, hz, hz2, e3, minus, e5, e6, ec, stroke, e4, ef, eg, dIsN, optFd, h0', h2, h2']
            | false => simp [mb__law_number, hz, hz2, e3, minus, e5, e6, ec, stroke, e4, ef, eg, dIsN, optFd, h2, h2']
          · have h2' : ¬ (b : Int) < 2 := by omega
            by_cases h3 : Nat.gcd t b = 1
            · have h3' : ((Nat.gcd t b : Nat) : Int) = 1 := by omega
              cases neg with
              | true =>
                have h0' : ¬ t = 0 := fun z => h0 ⟨rfl, z⟩
                simp [mb__law_number, hz, hz2, e3, minus, e5, e6, ec, stroke, e4, ef, eg, dIsN, optFd, h0', h2, h2', ed, h3, fd, most]
              | false => simp [mb__law_number, hz, hz2, e3, minus, e5, e6, ec, stroke, e4, ef, eg, dIsN, optFd, h2, h2', ed, h3, fd, most]
            · have h3' : ¬ ((Nat.gcd t b : Nat) : Int) = 1 := by omega
              cases neg with
              | true =>
                have h0' : ¬ t = 0 := fun z => h0 ⟨rfl, z⟩
                simp [mb__law_number, hz, hz2, e3, minus, e5, e6, ec, stroke, e4, ef, eg, dIsN, optFd, h0', h2, h2', ed, h3, h3']
              | false => simp [mb__law_number, hz, hz2, e3, minus, e5, e6, ec, stroke, e4, ef, eg, dIsN, optFd, h2, h2', ed, h3, h3']
  | q :: q2 :: rest, _, e4 =>
    show _ = RF.ok (optFd none)
    simp only [List.map_cons] at e4
    have : (2 : Int) < (rest.length : Int) + 1 + 1 + 1 := by omega
    simp [mb__law_number, hz, hz2, e3, minus, e5, e6, ec, stroke, e4, this, optFd]
theorem dAdd_s {xs ys : List D} (h : xs.length + ys.length ≤ 1000) : dAdd (.list xs) (.list ys) = some (.list (xs ++ ys)) := dAdd_l (by simp only [most]; omega)
theorem atI_mem {α : Type} {l : List α} {i : Int} (h0 : 0 ≤ i) (h : i < l.length) : ∃ d ∈ l, atI l i = some d := by
  obtain ⟨n, rfl⟩ : ∃ n : Nat, i = n := ⟨i.toNat, by omega⟩
  have hn : n < l.length := by omega
  exact ⟨l[n], List.getElem_mem hn, by rw [Q.atI_nat]; simp [hn]⟩
theorem dIx_in {z : Str} {i : Int} (h0 : 0 ≤ i) (h : i < z.length) (hz : z.length ≤ most) : ∃ c, dIx (.str z) (.int i) = some (.str (S [c])) := by
  have hl : z.length = z.cps.toList.length := by simp [Str.length]
  obtain ⟨c, _, e⟩ := atI_mem (l := z.cps.toList) h0 (by omega)
  refine ⟨c, ?_⟩
  show (if z.length ≤ most then (atI z.cps.toList i).map fun c => PyData.str ⟨#[c]⟩ else none) = _
  rw [if_pos hz, e]; rfl
def sg1 : Str := " !\"#$&'()*+,-./0123456789:;<=>?@ABCDEFGHIJKLMNOPQRSTUVWXYZ[\\]^_`"
def sg2 : Str := "abcdefghijklmnopqrstuvwxyz{|}~"
def sg : Str := sg1 ++ sg2
def sg14 : Str := "0123456789-/ ;"
theorem g_sign_by (c : Int) : ∃ x, m__law_sign_by [.int c] = .ok (.str (S [x])) := by
  rw [q__law_sign_by]
  have a1 : dAdd (.str sg1) (.str sg2) = some (.str sg) := by rfl
  have a2 : dLen [.str sg] = some (.int 94) := by rfl
  have hl : sg.length = 94 := by decide +kernel
  obtain ⟨x, e⟩ := dIx_in (z := sg) (i := c % 94) (by omega) (by rw [hl]; omega) (by rw [hl]; decide)
  refine ⟨x, ?_⟩
  have m1 : mb__law_sign_by = seq (setB 1 (k (.str sg1))) (seq (setB 1 (add (v 1) (k (.str sg2)))) (ret (ix (v 1) (mod (v 0) (bc dLen (acons (v 1) anil)))))) := rfl
  rw [m1]
  simp [a1, a2, e]
theorem g_changed {l : List Nat} (hl : l.length ≤ 7900) (way cell : Int) : ∃ l', l'.length ≤ 8000 ∧ m__law_changed [.str (S l), .int way, .int cell] = .ok (.str (S l')) := by
  rw [q__law_changed]
  obtain ⟨x0, e1⟩ := g_sign_by (cell / 1009)
  have hz2 : (S l).length ≤ most := by rw [S_len]; simp [most]; omega
  have e2 := dLen_S (a := l) (by simp [most]; omega)
  have hp : (0 : Int) < l.length + 1 := by omega
  have a1 : 0 ≤ cell % (l.length + 1) := Int.emod_nonneg _ (by omega)
  have a2 : cell % (l.length + 1) < l.length + 1 := Int.emod_lt_of_pos _ (by omega)
  have a3 : dMod (.int cell) (.int ((l.length : Int) + 1)) = some (.int (cell % (l.length + 1))) := dMod_p' hp
  generalize cell % ((l.length : Int) + 1) = at_ at *
  have c1 := cutS_to (l := l) a1
  have c2 := cutS_from (l := l) a1
  have c3 := cutS_from (l := l) (i := at_ + 1) (by omega)
  have l1 : (l.take at_.toNat).length ≤ l.length := by rw [List.length_take]; omega
  have l2 : (l.drop at_.toNat).length ≤ l.length := by rw [List.length_drop]; omega
  have l3 : (l.take at_.toNat).length + (l.drop at_.toNat).length = l.length := by rw [List.length_take, List.length_drop]; omega
  have l4 : (l.drop (at_ + 1).toNat).length ≤ (l.drop at_.toNat).length := by rw [List.length_drop, List.length_drop]; omega
  generalize l.take at_.toNat = A at *
  generalize l.drop at_.toNat = B at *
  generalize l.drop (at_ + 1).toNat = C at *
  obtain ⟨x1, ex⟩ := dIx_in (z := sg14) (i := cell / 1009 % 14) (by omega) (by rw [show sg14.length = 14 by decide +kernel]; omega) (by decide +kernel)
  have ex2 : dIx (.str (Str.ofString "0123456789-/ ;")) (.int (cell / 1009 % 14)) = some (.str (S [x1])) := ex
  have b1 : ∀ x, dAdd (.str (S A)) (.str (S [x])) = some (.str (S (A ++ [x]))) := fun x => dAdd_S (by simp [most]; omega)
  have b2 : ∀ x, dAdd (.str (S (A ++ [x]))) (.str (S B)) = some (.str (S (A ++ [x] ++ B))) := fun x => dAdd_S (by simp [most]; omega)
  have b3 : ∀ x, dAdd (.str (S (A ++ [x]))) (.str (S C)) = some (.str (S (A ++ [x] ++ C))) := fun x => dAdd_S (by simp [most]; omega)
  have b4 : dAdd (.str (S A)) (.str (S C)) = some (.str (S (A ++ C))) := dAdd_S (by simp [most]; omega)
  have k3 : ∀ x, (A ++ [x] ++ B).length ≤ 8000 := fun x => by simp; omega
  have k4 : ∀ x, (A ++ [x] ++ C).length ≤ 8000 := fun x => by simp; omega
  have k5 : (A ++ C).length ≤ 8000 := by simp; omega
  generalize hA : (fun x => S (A ++ [x])) = fA at *
  have b1 : ∀ x, dAdd (.str (S A)) (.str (S [x])) = some (.str (fA x)) := by subst hA; exact b1
  have b2 : ∀ x, dAdd (.str (fA x)) (.str (S B)) = some (.str (S (A ++ [x] ++ B))) := by subst hA; exact b2
  have b3 : ∀ x, dAdd (.str (fA x)) (.str (S C)) = some (.str (S (A ++ [x] ++ C))) := by subst hA; exact b3
  have w0 : 0 ≤ way % 4 := by omega
  by_cases w1 : way % 4 = 1
  · refine ⟨A ++ [x1] ++ B, k3 x1, ?_⟩
    simp only [List.append_assoc, List.cons_append, List.nil_append] at b2
    simp [mb__law_changed, e1, e2, a3, hz2, c1, c2, c3, w1, ex2, b1, b2]
  · by_cases w2 : way % 4 < 2
    · refine ⟨A ++ [x0] ++ B, k3 x0, ?_⟩
      simp only [List.append_assoc, List.cons_append, List.nil_append] at b2
      simp [mb__law_changed, e1, e2, a3, hz2, c1, c2, c3, w1, w2, b1, b2]
    · by_cases w3 : way % 4 = 2
      · refine ⟨A ++ C, k5, ?_⟩
        simp [mb__law_changed, e1, e2, a3, hz2, c1, c2, c3, w1, w2, w3, b4]
      · refine ⟨A ++ [x0] ++ C, k4 x0, ?_⟩
        simp only [List.append_assoc, List.cons_append, List.nil_append] at b3
        simp [mb__law_changed, e1, e2, a3, hz2, c1, c2, c3, w1, w2, w3, b1, b3]
theorem g__law_number_text {a : Int × Int} (h : a.1.natAbs < 10 ^ 32) (h2 : a.2.natAbs < 10 ^ 32) : m__law_number_text [fd a] = .ok (.str (S (numT a))) := by
  rw [q__law_number_text]
  have l1 := decL_len (by decide) h
  have l2 := decL_len (by decide) h2
  have e1 := dStr_ok (i := a.1) (Sz.mono (n := 110) (Nat.lt_trans h (by decide)) (by decide))
  have e2 := dStr_ok (i := a.2) (Sz.mono (n := 110) (Nat.lt_trans h2 (by decide)) (by decide))
  have e3 : (Str.ofString "/" : Str) = S [47] := rfl
  have e4 := dAdd_S (a := decL a.1) (b := [47]) (by simp [most]; omega)
  have e5 := dAdd_S (a := decL a.1 ++ [47]) (b := decL a.2) (by simp [most]; omega)
  by_cases h1 : a.2 = 1
  · simp [mb__law_number_text, fd, h1, e1, numT]
  · simp [mb__law_number_text, fd, h1, e1, e2, e3, e4, e5, numT]
end G

set_option maxHeartbeats 1000000
namespace G
open PySem L2 Q TL SX
theorem stepsS : (Str.ofString "012345678" : Str) = S [48, 49, 50, 51, 52, 53, 54, 55, 56] := rfl
theorem blank : (Str.ofString " " : Str) = S [32] := rfl
theorem step_mem {c : Nat} : c ∈ [48, 49, 50, 51, 52, 53, 54, 55, 56] ↔ 48 ≤ c ∧ c ≤ 56 := by
  simp only [List.mem_cons, List.not_mem_nil, or_false]; omega
theorem g_is_step {a : List Nat} (hl : a.length ≤ 8990) : m_is_step [.str (S a)] = .ok (.bool (dig8 a).isSome) := by
  rw [q_is_step]
  have e1 := dLen_S (a := a) (by simp [most]; omega)
  match a, hl, e1 with
  | [], _, e1 => simp [mb_is_step, e1, dig8]
  | [c], _, e1 =>
    have e2 := dIn_sign c [48, 49, 50, 51, 52, 53, 54, 55, 56]
    by_cases h : 48 ≤ c ∧ c ≤ 56
    · rw [decide_eq_true (step_mem.mpr h)] at e2
      simp [mb_is_step, e1, stepsS, e2, dig8, h]
    · rw [decide_eq_false (fun z => h (step_mem.mp z))] at e2
      simp [mb_is_step, e1, stepsS, e2, dig8, h]
  | c :: d :: r, _, e1 =>
    have : ¬ ((r.length : Int) + 1 + 1 = 1) := by omega
    simp [mb_is_step, e1, dig8, this]
def pd (p : Pl) : D := .tuple [.int p.1.1, .int p.1.2, fd p.2]
def optPl : Option Pl → D
  | some p => pd p
  | none => .none
theorem dInt_dig {a : List Nat} {i : Int} (h : dig8 a = some i) : dInt [.str (S a)] = some (.int i) := by
  obtain ⟨c, rfl, h1, h2, rfl⟩ := dig8_some h
  show (if (S [c]).length ≤ 640 then (PySem.intText? (S [c])).map PyData.int else none) = _
  rw [S_len, if_pos (by simp), int_S (by simp; omega) (by simp) (by simp)]
  simp [NumText.digitsVal]
theorem fIndex_dig {a : List Nat} {i : Int} (h : dig8 a = some i) : fIndex (S [48, 49, 50, 51, 52, 53, 54, 55, 56]) (.str (S a)) = .ok (.int i) := by
  obtain ⟨c, rfl, h1, h2, rfl⟩ := dig8_some h
  have key : ∀ c ∈ [48, 49, 50, 51, 52, 53, 54, 55, 56], Builtin.Str.occurrences (S [48, 49, 50, 51, 52, 53, 54, 55, 56]) (S [c]) 0 (S [48, 49, 50, 51, 52, 53, 54, 55, 56]).length 1 = [c - 48] := by decide +kernel
  unfold fIndex
  simp only
  rw [key c (step_mem.mpr ⟨h1, h2⟩)]
theorem it_NN : it_NoNumber "NoNumber" = some true := by simp [it_NoNumber]
theorem planeW3 (a b c : List Nat) : planeW [a, b, c] = (dig8 a).bind fun i => (dig8 b).bind fun j => (num c).map fun h => ((i, j), h) := rfl
theorem words3 {ws : List (List Nat)} (h : ws.length ≠ 3) : planeW ws = none := by
  unfold planeW
  split
  · simp at h
  · rfl
theorem g_plane_of {l : List Nat} (hl : l.length ≤ 8000) : m_plane_of [.str (S l)] = .ok (optPl (planeS l)) := by
  rw [q_plane_of]
  have e4 := fSplit_ok (a := l) (b := [32]) (l := spl [32] 0 [] l) (by simp) (by rfl) (by simp only [most]; omega) rfl
  have hq := spl_len 32 l []
  simp only [List.length_nil, Nat.zero_add] at hq
  unfold planeS
  generalize spl [32] 0 [] l = ws at *
  by_cases h3 : ws.length = 3
  · match ws, h3, e4, hq with
    | [a, b, c], _, e4, hq =>
      have la := hq a (by simp)
      have lb := hq b (by simp)
      have lc := hq c (by simp)
      have sa := g_is_step (a := a) (by omega)
      have sb := g_is_step (a := b) (by omega)
      have sc := g_number_of (l := c) (by omega)
      simp only [List.map_cons, List.map_nil] at e4
      rw [planeW3]
      cases ha : dig8 a with
      | none => rw [ha] at sa; simp [mb_plane_of, blank, e4, sa, optPl]
      | some i =>
        rw [ha] at sa
        cases hb : dig8 b with
        | none => rw [hb] at sb; simp [mb_plane_of, blank, e4, sa, sb, optPl]
        | some j =>
          rw [hb] at sb
          cases hc : num c with
          | none => rw [hc] at sc; simp [mb_plane_of, blank, e4, sa, sb, sc, optPl, tryMo_exc it_NN]
          | some x =>
            rw [hc] at sc
            simp [mb_plane_of, blank, e4, sa, sb, sc, optPl, dInt_dig ha, dInt_dig hb, pd, most]
  · rw [words3 h3]
    have h3' : ¬ (ws.length : Int) = 3 := by omega
    simp [mb_plane_of, blank, e4, h3', optPl]
theorem g__law_plane {l : List Nat} (hl : l.length ≤ 8000) : m__law_plane [.str (S l)] = .ok (optPl (planeS l)) := by
  rw [q__law_plane]
  have e4 := fSplit_ok (a := l) (b := [32]) (l := spl [32] 0 [] l) (by simp) (by rfl) (by simp only [most]; omega) rfl
  have hq := spl_len 32 l []
  simp only [List.length_nil, Nat.zero_add] at hq
  unfold planeS
  generalize spl [32] 0 [] l = ws at *
  by_cases h3 : ws.length = 3
  · match ws, h3, e4, hq with
    | [a, b, c], _, e4, hq =>
      have la := hq a (by simp)
      have lb := hq b (by simp)
      have lc := hq c (by simp)
      have na := dLen_S (a := a) (by simp only [most]; omega)
      have nb := dLen_S (a := b) (by simp only [most]; omega)
      have sc := g__law_number (l := c) (by omega)
      simp only [List.map_cons, List.map_nil] at e4
      have key : ∀ {a : List Nat}, a.length = 1 → dIn (.str (S a)) (.str (S [48, 49, 50, 51, 52, 53, 54, 55, 56])) = some (dig8 a).isSome := by
        intro a h
        match a, h with
        | [x], _ =>
          rw [dIn_sign x]
          congr 1
          show _ = (if 48 ≤ x ∧ x ≤ 56 then some ((x - 48 : Nat) : Int) else none).isSome
          by_cases h : 48 ≤ x ∧ x ≤ 56
          · rw [if_pos h, decide_eq_true (step_mem.mpr h)]; rfl
          · rw [if_neg h, decide_eq_false (fun z => h (step_mem.mp z))]; rfl
      have nope : ∀ {a : List Nat}, a.length ≠ 1 → dig8 a = none := by
        intro a h
        match a, h with
        | [], _ => rfl
        | [x], h => simp at h
        | x :: y :: r, _ => rfl
      rw [planeW3]
      by_cases l1 : a.length = 1
      · have l1' : (a.length : Int) = 1 := by omega
        by_cases l2 : b.length = 1
        · have l2' : (b.length : Int) = 1 := by omega
          have ka := key l1
          have kb := key l2
          cases ha : dig8 a with
          | none => rw [ha] at ka; simp [mb__law_plane, blank, e4, na, nb, l1, l2, stepsS, ka, optPl]
          | some i =>
            rw [ha] at ka
            cases hb : dig8 b with
            | none => rw [hb] at kb; simp [mb__law_plane, blank, e4, na, nb, l1, l2, stepsS, ka, kb, optPl]
            | some j =>
              rw [hb] at kb
              cases hc : num c with
              | none => rw [hc] at sc; simp [mb__law_plane, blank, e4, na, nb, l1, l2, stepsS, ka, kb, sc, optFd, dIsN, optPl]
              | some x =>
                rw [hc] at sc
                have e8 : dIsN (fd x) .none = some false := rfl
                simp [mb__law_plane, blank, e4, na, nb, l1, l2, stepsS, ka, kb, sc, optFd, e8, optPl, fIndex_dig ha, fIndex_dig hb, pd, most]
        · have := nope l2
          have l2' : ¬ (b.length : Int) = 1 := by omega
          rw [this]
          cases ha : dig8 a <;> simp [mb__law_plane, blank, e4, na, nb, l1, l2, l2', optPl]
      · have := nope l1
        have l1' : ¬ (a.length : Int) = 1 := by omega
        rw [this]
        simp [mb__law_plane, blank, e4, na, nb, l1, l1', optPl]
  · rw [words3 h3]
    have h3' : ¬ (ws.length : Int) = 3 := by omega
    simp [mb__law_plane, blank, e4, h3', optPl]
end G

set_option maxHeartbeats 1000000
namespace G
open PySem L2 Q TL SX
theorem g_less {a b : Int × Int} (h1 : Sz 200 a.1) (h2 : Sz 200 a.2) (h3 : Sz 200 b.1) (h4 : Sz 200 b.2) : m_less [fd a, fd b] = .ok (.bool (decide (a.1 * b.2 < b.1 * a.2))) := by
  rw [q_less]
  have e1 := dMul_sz h1 h4 (by decide)
  have e2 := dMul_sz h3 h2 (by decide)
  simp [mb_less, fd, e1, e2]
theorem g__law_below {a b : Int × Int} (h1 : Sz 200 a.1) (h2 : Sz 200 a.2) (h3 : Sz 200 b.1) (h4 : Sz 200 b.2) : m__law_below [fd a, fd b] = .ok (.bool (decide (a.1 * b.2 < b.1 * a.2))) := by
  rw [q__law_below]
  have e1 := dMul_sz h1 h4 (by decide)
  have e2 := dMul_sz h3 h2 (by decide)
  simp [mb__law_below, fd, e1, e2]
def stp (T : List Pl) (p : Pl) : List Pl := match tlook T p.1 with
  | none => tput T p.1 p.2
  | some h => if h.1 * p.2.2 < p.2.1 * h.2 then tput T p.1 p.2 else T
theorem tput_sub {T : List Pl} {p e : Pl} (h : e ∈ tput T p.1 p.2) : e ∈ T ∨ e = p := by
  unfold tput at h
  split at h
  · obtain ⟨x, hx, rfl⟩ := List.mem_map.mp h
    by_cases h2 : x.1 = p.1
    · right; simp only [h2, if_true]
    · left; simp only [h2, if_false]; exact hx
  · rcases List.mem_append.mp h with h | h
    · exact .inl h
    · right; simpa using h
theorem stp_sub {T : List Pl} {p e : Pl} (h : e ∈ stp T p) : e ∈ T ∨ e = p := by
  unfold stp at h
  split at h
  · exact tput_sub h
  · split at h
    · exact tput_sub h
    · exact .inl h
theorem stp_len {T : List Pl} {p : Pl} : (stp T p).length ≤ T.length + 1 := by
  unfold stp
  split
  · exact tput_length
  · split
    · exact tput_length
    · omega
theorem stp_nodup {T : List Pl} {p : Pl} (h : (T.map (·.1)).Nodup) : ((stp T p).map (·.1)).Nodup := by
  unfold stp
  split
  · exact tput_nodup h
  · split
    · exact tput_nodup h
    · exact h
theorem g_roof_of {ps : List Pl} (h : ∀ p ∈ ps, Pok p) (h0 : ps ≠ []) (hl : ps.length ≤ 9000) :
    m_roof_of [.list (ps.map pd)] = if 16 < (ps.foldl stp []).length then .exc "TooMany" .none else .ol ((ksort ((ps.foldl stp []).map (·.1))).map fun k => pd (k, (tlook (ps.foldl stp []) k).getD (0, 1))) := by
  rw [q_roof_of]
  have e1 : ∃ ρ', loop (bT 3 (bsC (bN 2) (bsC (bN 3) (bsC (bN 4) bsN)))) (seq (Q.ite (tor (tst (lt (v 2) (k (.int 0)))) (tor (tst (gt (v 2) (k (.int 8)))) (tor (tst (lt (v 3) (k (.int 0)))) (tst (gt (v 3) (k (.int 8))))))) (rse "TooSteep") pass) (Q.ite (pkT 1 (tor (tst (notin (etup (acons (v 2) (acons (v 3) anil))) (v 1))) (tst (call m_less (argsN 2 (acons (ix (v 1) (etup (acons (v 2) (acons (v 3) anil)))) (acons (v 4) anil))))))) (putD 1 (etup (acons (v 2) (acons (v 3) anil))) (v 4)) pass)) (ps.map pd) [.dat (.list (ps.map pd)), .od [], .no, .no, .no, .no] = .nx ρ' ∧
      ((ps.foldl stp []).length ≤ ps.length ∧ (∀ e ∈ ps.foldl stp [], e ∈ ps) ∧ ∃ s2 s3 s4, ρ' = [.dat (.list (ps.map pd)), .od (encT fd (ps.foldl stp [])), s2, s3, s4, .no]) := by
    refine loop_done pd ps (fun done ρ' => (done.foldl stp []).length ≤ done.length ∧ (∀ e ∈ done.foldl stp [], e ∈ done) ∧ ∃ s2 s3 s4, ρ' = [.dat (.list (ps.map pd)), .od (encT fd (done.foldl stp [])), s2, s3, s4, .no]) _ ⟨by simp, by simp, _, _, _, rfl⟩ ?_
    rintro done x rest ρ e ⟨hlen, hsub, s2, s3, s4, rfl⟩
    generalize hT : done.foldl stp [] = T at *
    have hx := h x (by rw [e]; simp)
    have e9 : (done ++ [x]).foldl stp [] = stp T x := by rw [List.foldl_append, hT]; rfl
    have hTl : T.length < most := by
      have : done.length ≤ ps.length := by rw [e]; simp
      simp only [most]; omega
    have c1 : ¬ x.1.1 < 0 := by have := hx.i0; omega
    have c2 : ¬ 8 < x.1.1 := by have := hx.i8; omega
    have c3 : ¬ x.1.2 < 0 := by have := hx.j0; omega
    have c4 : ¬ 8 < x.1.2 := by have := hx.j8; omega
    have i1 := dIn_enc fd T x.1.1 x.1.2
    have i2 := dIx_enc fd T x.1.1 x.1.2
    have i3 : ∀ ρ, putK ρ 1 (encT fd T) (fd x.2) (.tuple [.int x.1.1, .int x.1.2]) = .nx (ρ.set 1 (.od (encT fd (tput T x.1 x.2)))) := fun ρ => putK_enc fd T x.1.1 x.1.2 x.2 hTl
    refine ⟨[.dat (.list (ps.map pd)), .od (encT fd T), .dat (.int x.1.1), .dat (.int x.1.2), .dat (fd x.2), .no], [.dat (.list (ps.map pd)), .od (encT fd (stp T x)), .dat (.int x.1.1), .dat (.int x.1.2), .dat (fd x.2), .no], by rw [pd, bT_three]; rfl, ?_, ?_⟩
    · cases ht : tlook T x.1 with
      | none =>
        have hk := tlook_none.mp ht
        have hk2 : ((x.1.1, x.1.2) ∈ T.map (·.1)) = False := eq_false hk
        simp only [hk2, decide_false] at i1
        have hs : stp T x = tput T x.1 x.2 := by unfold stp; rw [ht]
        simp [c1, c2, c3, c4, i1, i3, hs, most]
      | some hh =>
        have hk : (x.1.1, x.1.2) ∈ T.map (·.1) := List.mem_map.mpr ⟨_, tlook_mem ht, rfl⟩
        have hk2 : ((x.1.1, x.1.2) ∈ T.map (·.1)) = True := eq_true hk
        simp only [hk2, decide_true] at i1
        have ht2 : tlook T (x.1.1, x.1.2) = some hh := ht
        rw [ht2] at i2
        simp only [Option.map_some] at i2
        have hp : Pok (x.1, hh) := h _ (by rw [e]; exact List.mem_append_left _ (hsub _ (tlook_mem ht)))
        have i4 := g_less (a := hh) (b := x.2) ((sz30 hp.fr.top).mono (by decide)) ((sz30 hp.fr.bot).mono (by decide)) ((sz30 hx.fr.top).mono (by decide)) ((sz30 hx.fr.bot).mono (by decide))
        by_cases hc : hh.1 * x.2.2 < x.2.1 * hh.2
        · have hs : stp T x = tput T x.1 x.2 := by unfold stp; rw [ht]; simp only [if_pos hc]
          simp [c1, c2, c3, c4, i1, i2, i3, i4, hs, hc, most]
        · have hs : stp T x = T := by unfold stp; rw [ht]; simp only [if_neg hc]
          simp [c1, c2, c3, c4, i1, i2, i3, i4, hs, hc, most]
    · rw [e9]
      refine ⟨?_, ?_, _, _, _, rfl⟩
      · have := stp_len (T := T) (p := x)
        simp; omega
      · intro y hy
        rcases stp_sub hy with hy | hy
        · exact List.mem_append_left _ (hsub y hy)
        · subst hy; simp
  obtain ⟨_, e1, hlen, hsub, s2, s3, s4, rfl⟩ := e1
  generalize hT : ps.foldl stp [] = T at *
  have c0 : ¬ ps.length = 0 := by simpa using h0
  have c2 : (encT fd T).length = T.length := by simp [encT]
  by_cases hm : 16 < T.length
  · have c1 : (16 : Int) < T.length := by omega
    rw [if_pos hm]
    simp [mb_roof_of, e1, h0, c1, c2]
  · rw [if_neg hm]
    have e2 := dSort_encT fd T
    have e3 : lcl (bN 5) tyes (etup (acons (ix (v 5) (k (.int 0))) (acons (ix (v 5) (k (.int 1))) (acons (ix (v 1) (v 5)) anil)))) ((ksort (T.map (·.1))).map kt) [.dat (.list (ps.map pd)), .dat (.dict (encT fd T)), s2, s3, s4, .no] [] = .ok ([] ++ (ksort (T.map (·.1))).map fun k => pd (k, (tlook T k).getD (0, 1))) := by
      refine lcl_map kt (fun k => pd (k, (tlook T k).getD (0, 1))) _ [] (fun k hk => ?_) (by simp [(ksort_perm _).length_eq, most]; omega)
      have hk : k ∈ T.map (·.1) := (ksort_perm _).mem_iff.mp hk
      obtain ⟨hh, ht⟩ : ∃ hh, tlook T k = some hh := by
        cases ht : tlook T k with
        | none => exact absurd hk (tlook_none.mp ht)
        | some hh => exact ⟨hh, rfl⟩
      have i2 := dIx_enc fd T k.1 k.2
      have ht2 : tlook T (k.1, k.2) = some hh := ht
      rw [ht2] at i2
      simp only [Option.map_some] at i2
      exact ⟨_, rfl, rfl, by simp [kt, i2, ht, pd, most]⟩
    have c1 : ¬ (16 : Int) < T.length := by omega
    simp [mb_roof_of, e1, e2, e3, h0, c1, c2]

end G

set_option maxHeartbeats 1000000
namespace G
open PySem L2 Q TL SX
theorem parting : (Str.ofString "; " : Str) = S [59, 32] := rfl
/-- the planes' roof -/
def roofL (ps : List Pl) : List D := (ksort ((ps.foldl stp []).map (·.1))).map fun k => pd (k, (tlook (ps.foldl stp []) k).getD (0, 1))
abbrev readB : SM := seq (setB 4 (call m_plane_of (argsN 1 (acons (v 3) anil)))) (seq (Q.ite (tst (isn (v 4) (k .none))) (rseF "NoText" "at" (v 2)) pass) (app 1 (v 4)))
theorem pd_some (p : Pl) : dIsN (pd p) .none = some false := rfl
theorem read_loop {z : D} : ∀ (ps : List (List Nat)) (j : Nat) (acc : List Pl) (s2 s3 s4 : Q.Slot), (∀ p ∈ ps, p.length ≤ 8000) → acc.length + ps.length ≤ 9000 →
    match rd j ps with
    | .error e => ∃ ρ', loop (bT 2 (bsC (bN 2) (bsC (bN 3) bsN))) readB (enum j (ps.map fun x => .str (S x))) [.dat z, .ol (acc.map pd), s2, s3, s4] = .exc "NoText" (.tuple [.str "at", .int e]) ρ' ∧ noFx ρ' = true
    | .ok xs => ∃ s2' s3' s4', loop (bT 2 (bsC (bN 2) (bsC (bN 3) bsN))) readB (enum j (ps.map fun x => .str (S x))) [.dat z, .ol (acc.map pd), s2, s3, s4] = .nx [.dat z, .ol ((acc ++ xs).map pd), s2', s3', s4']
  | [], j, acc, s2, s3, s4, _, _ => ⟨s2, s3, s4, by simp [enum, loop_nil]⟩
  | p :: r, j, acc, s2, s3, s4, hl, hn => by
    have e5 := g_plane_of (hl p (by simp))
    have hacc : acc.length < 100000 := by simp at hn; omega
    unfold rd
    cases hp : planeS p with
    | none =>
      rw [hp] at e5
      refine ⟨[.dat z, .ol (acc.map pd), .dat (.int j), .dat (.str (S p)), .dat .none], ?_, rfl⟩
      have : readB [.dat z, .ol (acc.map pd), .dat (.int j), .dat (.str (S p)), s4] = .exc "NoText" (.tuple [.str "at", .int j]) [.dat z, .ol (acc.map pd), .dat (.int j), .dat (.str (S p)), .dat .none] := by simp [e5, optPl, dIsN]
      simp only [List.map_cons, enum, loop]
      rw [bT_two]
      simp only [bN_ev, List.set_cons_succ, List.set_cons_zero, Option.bind_some, this]
    | some x =>
      rw [hp] at e5
      have st : loop (bT 2 (bsC (bN 2) (bsC (bN 3) bsN))) readB (enum j ((p :: r).map fun x => .str (S x))) [.dat z, .ol (acc.map pd), s2, s3, s4] = loop (bT 2 (bsC (bN 2) (bsC (bN 3) bsN))) readB (enum (j + 1) (r.map fun x => .str (S x))) [.dat z, .ol ((acc ++ [x]).map pd), .dat (.int j), .dat (.str (S p)), .dat (pd x)] :=
        loop_cons (ρ1 := [.dat z, .ol (acc.map pd), .dat (.int j), .dat (.str (S p)), s4]) (by rw [bT_two]; rfl) (by simp [e5, optPl, pd_some, hacc, most])
      rw [st]
      have ih := read_loop (z := z) r (j + 1) (acc ++ [x]) (.dat (.int j)) (.dat (.str (S p))) (.dat (pd x)) (fun q hq => hl q (List.mem_cons_of_mem _ hq)) (by simp at hn ⊢; omega)
      cases hr : rd (j + 1) r with
      | error e => rw [hr] at ih; exact ih
      | ok xs => rw [hr] at ih; simpa using ih
theorem spl_any (T : List Nat) : ∀ (l : List Nat) (j : Nat) (acc : List Nat), spl T j acc l ≠ [] ∧ (∀ p ∈ spl T j acc l, p.length ≤ acc.length + l.length) ∧ (spl T j acc l).length ≤ l.length + 1
  | [], j, acc => by rw [spl_nil]; simp
  | c :: r, 0, acc => by
    cases h : pre T (c :: r) with
    | true =>
      obtain ⟨h1, h2, h3⟩ := spl_any T r (T.length - 1) []
      rw [spl_hit h]
      refine ⟨by simp, fun p hp => ?_, by simp; omega⟩
      rcases List.mem_cons.mp hp with e | hp
      · subst e; omega
      · have := h2 p hp; simp at this ⊢; omega
    | false =>
      obtain ⟨h1, h2, h3⟩ := spl_any T r 0 (acc ++ [c])
      rw [spl_miss h]
      refine ⟨h1, fun p hp => ?_, by simp; omega⟩
      have := h2 p hp; simp at this ⊢; omega
  | c :: r, j + 1, acc => by
    obtain ⟨h1, h2, h3⟩ := spl_any T r j acc
    have e : spl T (j + 1) acc (c :: r) = spl T j acc r := rfl
    rw [e]
    refine ⟨h1, fun p hp => ?_, by simp; omega⟩
    have := h2 p hp; simp; omega
theorem g_read_str {l : List Nat} (hl : l.length ≤ 8000) : m_read [.str (S l)] = match rd 0 (spl [59, 32] 0 [] l) with
    | .error e => .exc "NoText" (.tuple [.str "at", .int e])
    | .ok xs => if 16 < (xs.foldl stp []).length then .exc "TooMany" .none else .ok (.list (roofL xs)) := by
  rw [q_read]
  have e4 := fSplit_ok (a := l) (b := [59, 32]) (l := spl [59, 32] 0 [] l) (by simp) (by rfl) (by simp only [most]; omega) rfl
  obtain ⟨h1, h2, h3⟩ := spl_any [59, 32] l 0 []
  generalize spl [59, 32] 0 [] l = ps at *
  have ih := read_loop (z := .str (S l)) ps 0 [] .no .no .no (fun p hp => by have := h2 p hp; simp at this; omega) (by simp; omega)
  cases hr : rd 0 ps with
  | error e =>
    rw [hr] at ih
    obtain ⟨ρ', e1, _⟩ := ih
    simp only [List.map_nil] at e1
    simp [mb_read, parting, e4, e1, most]
  | ok xs =>
    rw [hr] at ih
    obtain ⟨s2, s3, s4, e1⟩ := ih
    obtain ⟨hok, hlen⟩ := rd_ok hr
    simp only [List.map_nil, List.nil_append] at e1
    have h0 : xs ≠ [] := by
      intro z; subst z
      simp at hlen; exact h1 (List.length_eq_zero_iff.mp hlen.symm)
    have e7 := g_roof_of hok h0 (by omega)
    by_cases hm : 16 < (xs.foldl stp []).length
    · rw [if_pos hm] at e7
      simp [mb_read, parting, e4, e1, e7, hm, most]
    · rw [if_neg hm] at e7
      simp [mb_read, parting, e4, e1, e7, hm, most, roofL]
/-! ## what is due -/
abbrev dueB : SM := seq (setB 4 (call m__law_plane (argsN 1 (acons (v 3) anil)))) (seq (Q.ite (tst (isn (v 4) (k .none))) (ret (etup (acons (k (.int 9)) (acons (v 2) anil)))) pass) (seq (setB 5 (slcT (v 4) pn (ps (k (.int 2))))) (Q.ite (pkT 1 (tor (tst (notin (v 5) (v 1))) (tst (call m__law_below (argsN 2 (acons (ix (v 1) (v 5)) (acons (ix (v 4) (k (.int 2))) anil))))))) (putD 1 (v 5) (ix (v 4) (k (.int 2)))) pass)))
theorem due_loop {z : D} : ∀ (ps : List (List Nat)) (j : Nat) (T : List Pl) (s2 s3 s4 s5 : Q.Slot), (∀ p ∈ ps, p.length ≤ 8000) → T.length + ps.length ≤ 9000 → (∀ e ∈ T, Pok e) →
    match rd j ps with
    | .error e => loop (bT 2 (bsC (bN 2) (bsC (bN 3) bsN))) dueB (enum j (ps.map fun x => .str (S x))) [.dat z, .od (encT fd T), s2, s3, s4, s5, .no, .no] = .rt (.tuple [.int 9, .int e])
    | .ok xs => ∃ s2' s3' s4' s5', loop (bT 2 (bsC (bN 2) (bsC (bN 3) bsN))) dueB (enum j (ps.map fun x => .str (S x))) [.dat z, .od (encT fd T), s2, s3, s4, s5, .no, .no] = .nx [.dat z, .od (encT fd (xs.foldl stp T)), s2', s3', s4', s5', .no, .no]
  | [], j, T, s2, s3, s4, s5, _, _, _ => ⟨s2, s3, s4, s5, by simp [enum, loop_nil]⟩
  | p :: r, j, T, s2, s3, s4, s5, hl, hn, hT => by
    have e5 := g__law_plane (hl p (by simp))
    have hTl : T.length < most := by simp at hn; simp only [most]; omega
    unfold rd
    cases hp : planeS p with
    | none =>
      rw [hp] at e5
      have : dueB [.dat z, .od (encT fd T), .dat (.int j), .dat (.str (S p)), s4, s5, .no, .no] = .rt (.tuple [.int 9, .int j]) := by simp [e5, optPl, dIsN, most]
      simp only [List.map_cons, enum, loop]
      rw [bT_two]
      simp only [bN_ev, List.set_cons_succ, List.set_cons_zero, Option.bind_some, this]
    | some x =>
      rw [hp] at e5
      have hx := planeS_ok hp
      have ct : cutD [.int x.1.1, .int x.1.2, fd x.2] none (some 2) = [.int x.1.1, .int x.1.2] := rfl
      have i1 := dIn_enc fd T x.1.1 x.1.2
      have i2 := dIx_enc fd T x.1.1 x.1.2
      have i3 : ∀ ρ, putK ρ 1 (encT fd T) (fd x.2) (.tuple [.int x.1.1, .int x.1.2]) = .nx (ρ.set 1 (.od (encT fd (tput T x.1 x.2)))) := fun ρ => putK_enc fd T x.1.1 x.1.2 x.2 hTl
      have px : pd x = .tuple [.int x.1.1, .int x.1.2, fd x.2] := rfl
      have nn : dIsN (.tuple [.int x.1.1, .int x.1.2, fd x.2]) .none = some false := rfl
      have st : loop (bT 2 (bsC (bN 2) (bsC (bN 3) bsN))) dueB (enum j ((p :: r).map fun x => .str (S x))) [.dat z, .od (encT fd T), s2, s3, s4, s5, .no, .no] = loop (bT 2 (bsC (bN 2) (bsC (bN 3) bsN))) dueB (enum (j + 1) (r.map fun x => .str (S x))) [.dat z, .od (encT fd (stp T x)), .dat (.int j), .dat (.str (S p)), .dat (pd x), .dat (.tuple [.int x.1.1, .int x.1.2]), .no, .no] := by
        refine loop_cons (ρ1 := [.dat z, .od (encT fd T), .dat (.int j), .dat (.str (S p)), s4, s5, .no, .no]) (by rw [bT_two]; rfl) ?_
        cases ht : tlook T x.1 with
        | none =>
          have hk := tlook_none.mp ht
          have hk2 : ((x.1.1, x.1.2) ∈ T.map (·.1)) = False := eq_false hk
          simp only [hk2, decide_false] at i1
          have hs : stp T x = tput T x.1 x.2 := by unfold stp; rw [ht]
          simp [e5, optPl, px, nn, ct, i1, i3, hs, most]
        | some hh =>
          have hk : (x.1.1, x.1.2) ∈ T.map (·.1) := List.mem_map.mpr ⟨_, tlook_mem ht, rfl⟩
          have hk2 : ((x.1.1, x.1.2) ∈ T.map (·.1)) = True := eq_true hk
          simp only [hk2, decide_true] at i1
          have ht2 : tlook T (x.1.1, x.1.2) = some hh := ht
          rw [ht2] at i2
          simp only [Option.map_some] at i2
          have hp' : Pok (x.1, hh) := hT _ (tlook_mem ht)
          have i4 := g__law_below (a := hh) (b := x.2) ((sz30 hp'.fr.top).mono (by decide)) ((sz30 hp'.fr.bot).mono (by decide)) ((sz30 hx.fr.top).mono (by decide)) ((sz30 hx.fr.bot).mono (by decide))
          by_cases hc : hh.1 * x.2.2 < x.2.1 * hh.2
          · have hs : stp T x = tput T x.1 x.2 := by unfold stp; rw [ht]; simp only [if_pos hc]
            simp [e5, optPl, px, nn, ct, i1, i2, i3, i4, hs, hc, most]
          · have hs : stp T x = T := by unfold stp; rw [ht]; simp only [if_neg hc]
            simp [e5, optPl, px, nn, ct, i1, i2, i4, hs, hc, most]
      rw [st]
      have hlen := stp_len (T := T) (p := x)
      have ih := due_loop (z := z) r (j + 1) (stp T x) (.dat (.int j)) (.dat (.str (S p))) (.dat (pd x)) (.dat (.tuple [.int x.1.1, .int x.1.2])) (fun q hq => hl q (List.mem_cons_of_mem _ hq)) (by simp at hn ⊢; omega) (fun e he => by
        rcases stp_sub he with h | h
        · exact hT e h
        · rw [h]; exact hx)
      cases hr : rd (j + 1) r with
      | error e => rw [hr] at ih; exact ih
      | ok xs => rw [hr] at ih; exact ih
end G

set_option maxHeartbeats 1000000
namespace G
open PySem L2 Q TL SX
/-- what is due of a text -/
def dueL (l : List Nat) : D := match rd 0 (spl [59, 32] 0 [] l) with
  | .error e => .tuple [.int 9, .int e]
  | .ok xs => if 16 < (xs.foldl stp []).length then .tuple [.int 4, .int 0] else .list (roofL xs)
theorem g_due {l : List Nat} (hl : l.length ≤ 8000) : R.ofF (m__law_due [.str (S l)]) = .ok (dueL l) := by
  rw [q__law_due]
  have e4 := fSplit_ok (a := l) (b := [59, 32]) (l := spl [59, 32] 0 [] l) (by simp) (by rfl) (by simp only [most]; omega) rfl
  obtain ⟨h1, h2, h3⟩ := spl_any [59, 32] l 0 []
  unfold dueL
  generalize spl [59, 32] 0 [] l = ps at *
  have ih := due_loop (z := .str (S l)) ps 0 [] .no .no .no .no (fun p hp => by have := h2 p hp; simp at this; omega) (by simp; omega) (by simp)
  have e0 : encT fd ([] : List Pl) = [] := rfl
  rw [e0] at ih
  cases hr : rd 0 ps with
  | error e =>
    rw [hr] at ih
    simp [mb__law_due, parting, e4, ih, most]
  | ok xs =>
    rw [hr] at ih
    obtain ⟨s2, s3, s4, s5, e1⟩ := ih
    obtain ⟨hok, hlen⟩ := rd_ok hr
    have c2 : (encT fd (xs.foldl stp [])).length = (xs.foldl stp []).length := by simp [encT]
    unfold roofL
    generalize hT : xs.foldl stp [] = T at *
    by_cases hm : 16 < T.length
    · have hm' : (16 : Int) < T.length := by omega
      simp [mb__law_due, parting, e4, e1, c2, hm, hm', most, hT]
    · have hm' : ¬ (16 : Int) < T.length := by omega
      have e2 := dSort_encT fd T
      have e3 : lcl (bT 2 (bsC (bN 6) (bsC (bN 7) bsN))) tyes (etup (acons (v 6) (acons (v 7) (acons (ix (v 1) (etup (acons (v 6) (acons (v 7) anil)))) anil)))) ((ksort (T.map (·.1))).map kt) [.dat (.str (S l)), .dat (.dict (encT fd T)), s2, s3, s4, s5, .no, .no] [] = .ok ([] ++ (ksort (T.map (·.1))).map fun k => pd (k, (tlook T k).getD (0, 1))) := by
        refine lcl_map kt (fun k => pd (k, (tlook T k).getD (0, 1))) _ [] (fun k hk => ?_) (by simp [(ksort_perm _).length_eq, most]; omega)
        have hk : k ∈ T.map (·.1) := (ksort_perm _).mem_iff.mp hk
        obtain ⟨hh, ht⟩ : ∃ hh, tlook T k = some hh := by
          cases ht : tlook T k with
          | none => exact absurd hk (tlook_none.mp ht)
          | some hh => exact ⟨hh, rfl⟩
        have i2 := dIx_enc fd T k.1 k.2
        have ht2 : tlook T (k.1, k.2) = some hh := ht
        rw [ht2] at i2
        simp only [Option.map_some] at i2
        exact ⟨_, by rw [kt, bT_two]; rfl, rfl, by simp [i2, ht, pd, most]⟩
      simp [mb__law_due, parting, e4, e1, c2, hm, hm', e2, e3, most, hT]
/-! ## marks -/
def told (j : Nat) : List D := (List.range 11).map fun i => .bool (decide (i = 0 ∨ i = j))
theorem g_marks9 (x : D) : m__law_marks "NoText" x = .ok (.list (told 9)) := by
  rw [q__law_marks]
  simp [mb__law_marks, it_ValueError, it_NoFraction, it_NoRoof, it_TooSteep, it_TooMany, it_NoNumber, it_NoCorner, it_NoDealing, it_NoRow, it_NoText, it_NoName, dAdd_s, most, told, List.range_succ]
theorem g_marks4 (x : D) : m__law_marks "TooMany" x = .ok (.list (told 4)) := by
  rw [q__law_marks]
  simp [mb__law_marks, it_ValueError, it_NoFraction, it_NoRoof, it_TooSteep, it_TooMany, it_NoNumber, it_NoCorner, it_NoDealing, it_NoRow, it_NoText, it_NoName, dAdd_s, most, told, List.range_succ]
theorem g_only4 : m__law_only [.int 4] = .ol (told 4) := by rfl
theorem g_only9 : m__law_only [.int 9] = .ol (told 9) := by rfl
theorem told_eq : dEq (.list (told 9)) (.list (told 4)) = some false ∧ dEq (.list (told 9)) (.list (told 9)) = some true ∧ dEq (.list (told 4)) (.list (told 4)) = some true := ⟨by rfl, by rfl, by rfl⟩
theorem asked_text {d : D} {e : Int} (h : m_read [d] = .exc "NoText" (.tuple [.str "at", .int e])) : m__law_asked [d] = .ok (.tuple [.int 9, .int e]) := by
  rw [q__law_asked]
  have nn : dIsN (.list (told 9)) .none = some false := rfl
  simp [mb__law_asked, h, tryNs, it_NoText, g_marks9, nn, loop, bN_ev, g_only4, g_only9, told_eq.1, told_eq.2.1, g__law_whole, most]
theorem asked_many {d : D} (h : m_read [d] = .exc "TooMany" .none) : m__law_asked [d] = .ok (.tuple [.int 4, .int 0]) := by
  rw [q__law_asked]
  have nn : dIsN (.list (told 4)) .none = some false := rfl
  simp [mb__law_asked, h, tryNs, it_NoText, it_RoofError, g_marks4, nn, loop, bN_ev, g_only4, told_eq.2.2, g__law_whole, most]
theorem asked_ok {d : D} {ds : List D} (h : m_read [d] = .ok (.list ds)) : m__law_asked [d] = .ok (.list ds) := by
  rw [q__law_asked]
  simp [mb__law_asked, h, dIsN]
theorem g_asked {l : List Nat} (hl : l.length ≤ 8000) : m__law_asked [.str (S l)] = .ok (dueL l) := by
  have h := g_read_str hl
  unfold dueL
  cases hr : rd 0 (spl [59, 32] 0 [] l) with
  | error e => rw [hr] at h; exact asked_text h
  | ok xs =>
    rw [hr] at h
    simp only at h ⊢
    by_cases hm : 16 < (xs.foldl stp []).length
    · rw [if_pos hm] at h ⊢; exact asked_many h
    · rw [if_neg hm] at h ⊢; exact asked_ok h
end G

set_option maxHeartbeats 1000000
namespace G
open PySem L2 Q TL SX
@[simp] theorem kit_tl : kitB "tuple" "list" = some false := by decide +kernel
theorem shaped_int2 (i j : Int) : SeqAt.shaped (.tuple [.int i, .int j]) = true := by simp [SeqAt.shaped, PyData.canLay0, PyData.canLayAll0, PyData.depth, PyData.depthAll]
theorem shaped_pds (R : List Pl) : SeqAt.shaped (.list (R.map pd)) = true := by
  have h1 : PyData.canLayAll0 (R.map pd) = true := by
    induction R with
    | nil => simp [PyData.canLayAll0]
    | cons r R ih => simp [PyData.canLayAll0, PyData.canLay0, pd, fd, ih]
  have h2 : PyData.depthAll (R.map pd) ≤ 2 := by
    clear h1
    induction R with
    | nil => simp [PyData.depthAll]
    | cons r R ih =>
      have : PyData.depth (pd r) = 2 := by simp [pd, fd, PyData.depth, PyData.depthAll]
      simp only [List.map_cons, PyData.depthAll, this]; omega
  have h3 : (PyData.list (R.map pd)).canLay0 = true := by simp only [PyData.canLay0]; exact h1
  have h4 : (PyData.list (R.map pd)).depth = PyData.depthAll (R.map pd) + 1 := by simp only [PyData.depth]
  unfold SeqAt.shaped
  rw [h3, h4, Bool.true_and]
  exact decide_eq_true (by omega)
/-- what both tell of a thing -/
inductive Told : D → Prop
  | pair (i j : Int) : Told (.tuple [.int i, .int j])
  | roof (R : List Pl) : (∀ r ∈ R, Fr r.2) → R.length ≤ 9000 → Told (.list (R.map pd))
theorem Told.shaped {e : D} (h : Told e) : SeqAt.shaped e = true := by
  cases h with
  | pair i j => exact shaped_int2 i j
  | roof R _ _ => exact shaped_pds R
theorem stp_all {xs T : List Pl} {e : Pl} (h : e ∈ xs.foldl stp T) : e ∈ T ∨ e ∈ xs := by
  induction xs generalizing T with
  | nil => exact .inl h
  | cons x xs ih =>
    rcases ih h with h | h
    · rcases stp_sub h with h | h
      · exact .inl h
      · exact .inr (by rw [h]; simp)
    · exact .inr (List.mem_cons_of_mem _ h)
theorem told_due {l : List Nat} (hl : l.length ≤ 8000) : Told (dueL l) := by
  unfold dueL
  cases hr : rd 0 (spl [59, 32] 0 [] l) with
  | error e => exact .pair 9 e
  | ok xs =>
    simp only
    by_cases hm : 16 < (xs.foldl stp []).length
    · rw [if_pos hm]; exact .pair 4 0
    · rw [if_neg hm]
      obtain ⟨hok, _⟩ := rd_ok hr
      have e : roofL xs = ((ksort ((xs.foldl stp []).map (·.1))).map fun k => (k, (tlook (xs.foldl stp []) k).getD (0, 1))).map pd := by unfold roofL; rw [List.map_map]; rfl
      rw [e]
      refine .roof _ (fun r hr => ?_) (by simp [(ksort_perm _).length_eq]; omega)
      obtain ⟨k, hk, rfl⟩ := List.mem_map.mp hr
      have hk : k ∈ (xs.foldl stp []).map (·.1) := (ksort_perm _).mem_iff.mp hk
      cases ht : tlook (xs.foldl stp []) k with
      | none => exact absurd hk (tlook_none.mp ht)
      | some h =>
        rcases stp_all (tlook_mem ht) with h1 | h1
        · simp at h1
        · exact (hok _ h1).fr
/-- a thing that may be handed over -/
def Good (d : D) : Prop := (∃ l, d = .str (S l) ∧ l.length ≤ 8000) ∨ kitB (tyN d) "str" = some false
theorem both {d : D} (h : Good d) : ∃ e, Told e ∧ R.ofF (m__law_due [d]) = .ok e ∧ m__law_asked [d] = .ok e := by
  rcases h with ⟨l, rfl, hl⟩ | hk
  · exact ⟨dueL l, told_due hl, g_due hl, g_asked hl⟩
  · refine ⟨.tuple [.int 9, .int (-1)], .pair 9 (-1), ?_, ?_⟩
    · rw [q__law_due]; simp [mb__law_due, hk, most]
    · refine asked_text (e := -1) ?_
      rw [q_read]; simp [mb_read, hk]
/-! ## the texts -/
theorem dAll_true (n : Nat) : dAll [.list (List.replicate n (.bool true))] = some (.bool true) := by
  have h : boolsOf (List.replicate n (.bool true)) = some (List.replicate n true) := by
    induction n with
    | zero => rfl
    | succ n ih => simp only [List.replicate_succ, boolsOf, ih]; rfl
  unfold dAll
  simp [h]
theorem g_cells (ns : List Int) (a b : Nat) (h : ns.length ≤ 63) (ha : a < 500) (hb : b < 500) : m__law_cells [.list (ns.map .int), .int a, .int b] = .ol ((List.range' a (min b ns.length - a)).map fun k => .int (cellOf ns k)) := by
  rw [q__law_cells]
  have e : asR2 [.int a, .int (min (b : Int) ns.length)] = some (intsFrom a (min b ns.length - a)) := by
    rw [asR2_ok (by omega)]
    congr 2; omega
  have e2 : lcl (bN 3) tyes (call m__law_cell_at (argsN 2 (acons (v 0) (acons (v 3) anil)))) (intsFrom a (min b ns.length - a)) [.dat (.list (ns.map .int)), .dat (.int a), .dat (.int b), .no] [] = .ok ([] ++ (List.range (min b ns.length - a)).map fun i => .int (cellOf ns (a + i))) := by
    refine lcl_map (fun i : Nat => .int (a + i)) (fun i => .int (cellOf ns (a + i))) (List.range (min b ns.length - a)) [] (fun i hi => ?_) (by simp [most]; omega)
    have hi' : i < min b ns.length - a := by simpa using hi
    have e3 := g_cell ns (k := a + i) (by omega)
    rw [Int.natCast_add] at e3
    exact ⟨_, rfl, rfl, by simp [e3]⟩
  simp [mb__law_cells, e, e2]
  rw [List.range'_eq_map_range]
  simp
theorem dec8 {i : Int} (h : 0 ≤ i) (h2 : i ≤ 8) : decL i = [48 + i.toNat] := by
  have e : ∃ n : Nat, i = (n : Int) := ⟨i.toNat, by omega⟩
  obtain ⟨n, rfl⟩ := e
  rw [decL_nat, numL_lt (by omega)]; simp
/-- parts: short, not empty, of plain signs -/
structure Part (l : List Nat) : Prop where
  len : l.length ≤ 80
  ne : l ≠ []
  low : ∀ c ∈ l, c < 128
def strsD (Ls : List (List Nat)) : List D := Ls.map fun x => .str (S x)
theorem shaped_strs {Ls : List (List Nat)} (h : ∀ l ∈ Ls, Part l) : SeqAt.shaped (.list (strsD Ls)) = true := by
  have h1 : PyData.canLayAll0 (strsD Ls) = true := by
    induction Ls with
    | nil => simp [PyData.canLayAll0, strsD]
    | cons l Ls ih =>
      have hl := h l (by simp)
      have e : (PyData.str (S l)).canLay0 = true := by
        simp only [PyData.canLay0, PyData.strOk]
        rw [Array.all_eq_true']
        intro c hc
        have : c ∈ l := by simpa using hc
        have := hl.low c this
        exact decide_eq_true (by omega)
      have := ih fun q hq => h q (List.mem_cons_of_mem _ hq)
      simp only [strsD, List.map_cons, PyData.canLayAll0, e, Bool.true_and] at this ⊢
      exact this
  have h2 : PyData.depthAll (strsD Ls) = 0 := by
    clear h1 h
    induction Ls with
    | nil => simp [PyData.depthAll, strsD]
    | cons r R ih =>
      simp only [strsD, List.map_cons, PyData.depthAll, PyData.depth] at ih ⊢
      rw [ih]; rfl
  have h3 : (PyData.list (strsD Ls)).canLay0 = true := by simp only [PyData.canLay0]; exact h1
  have h4 : (PyData.list (strsD Ls)).depth = PyData.depthAll (strsD Ls) + 1 := by simp only [PyData.depth]
  unfold SeqAt.shaped
  rw [h3, h4, h2]; rfl
theorem decL_lt {t : Int} {c : Nat} (h : c ∈ decL t) : c < 128 := by
  unfold decL at h
  split at h
  · rcases List.mem_cons.mp h with h | h
    · omega
    · have := numL_digits _ c h; omega
  · have := numL_digits _ c h; omega
theorem numT_lt {a : Int × Int} {c : Nat} (h : c ∈ numT a) : c < 128 := by
  unfold numT at h
  split at h
  · exact decL_lt h
  · rcases List.mem_append.mp h with h | h
    · exact decL_lt h
    · rcases List.mem_cons.mp h with h | h
      · omega
      · exact decL_lt h
end G

set_option maxHeartbeats 1000000
namespace G
open PySem L2 Q TL SX
theorem half_text : (Str.ofString "0 0 1/2" : Str) = S [48, 32, 48, 32, 49, 47, 50] := rfl
theorem part_half : Part [48, 32, 48, 32, 49, 47, 50] := ⟨by decide, by decide, by decide⟩
theorem dEq_strs {Ls : List (List Nat)} (h : ∀ l ∈ Ls, Part l) : dEq (.list (strsD Ls)) (.list []) = some (decide (Ls = [])) := by
  have e : dEq (.list (strsD Ls)) (.list []) = if SeqAt.shaped (.list (strsD Ls)) = true ∧ SeqAt.shaped (.list []) = true then some (PyData.eqv (.list (strsD Ls)) (.list [])) else none := rfl
  rw [e, if_pos ⟨shaped_strs h, by rfl⟩]
  congr 1
  cases Ls with
  | nil => rfl
  | cons l Ls => rfl
theorem part_line {i j : Int} {a : Int × Int} (hi : 0 ≤ i) (hi8 : i ≤ 8) (hj : 0 ≤ j) (hj8 : j ≤ 8) (hf : Fr a) : Part (decL i ++ 32 :: (decL j ++ 32 :: numT a)) := by
  have l1 := fr_len (a := a) (Nat.lt_trans hf.top (by decide)) (Nat.lt_trans hf.bot (by decide))
  have d1 := dec8 hi hi8
  have d2 := dec8 hj hj8
  refine ⟨by rw [d1, d2]; simp; omega, by rw [d1]; simp, fun c hc => ?_⟩
  simp only [List.mem_append, List.mem_cons] at hc
  rcases hc with h | h | h | h | h
  · exact decL_lt h
  · omega
  · exact decL_lt h
  · omega
  · exact numT_lt h
theorem g_text_by (ns : List Int) (hns : ns.length ≤ 63) (kind : Int) : ∃ Ls : List (List Nat), (∀ l ∈ Ls, Part l) ∧ Ls ≠ [] ∧ Ls.length ≤ 20 ∧ m__law_text_by [.list (ns.map .int), .int kind] = .ok (.list (strsD Ls)) := by
  rw [q__law_text_by]
  have e0 : m__law_cells [.list (ns.map .int), .int 3, .int 23] = .ol ((List.range' 3 (min 23 ns.length - 3)).map fun k => .int (cellOf ns k)) := g_cells ns 3 23 hns (by omega) (by omega)
  have hkl : (List.range' 3 (min 23 ns.length - 3)).length ≤ 20 := by simp; omega
  generalize List.range' 3 (min 23 ns.length - 3) = ks at *
  have e1 : ∃ ρ', loop (bN 3) (seq (setB 4 (mod (v 3) (pow (k (.int 10)) (k (.int 60))))) (seq (setB 5 (call m__law_number_text (argsN 1 (acons (call m__law_number_by (argsN 2 (acons (div (v 4) (k (.int 81))) (acons (v 1) anil)))) anil)))) (app 2 (add (add (add (add (bc dStr (acons (mod (v 4) (k (.int 9))) anil)) (k (.str " "))) (bc dStr (acons (mod (div (v 4) (k (.int 9))) (k (.int 9))) anil))) (k (.str " "))) (v 5))))) (ks.map fun k => .int (cellOf ns k)) [.dat (.list (ns.map .int)), .dat (.int kind), .ol [], .no, .no, .no] = .nx ρ' ∧
      ∃ Ls s3 s4 s5, (∀ l ∈ Ls, Part l) ∧ Ls.length = ks.length ∧ ρ' = [.dat (.list (ns.map .int)), .dat (.int kind), .ol (strsD Ls), s3, s4, s5] := by
    refine loop_done (fun k => .int (cellOf ns k)) ks (fun done ρ' => ∃ Ls s3 s4 s5, (∀ l ∈ Ls, Part l) ∧ Ls.length = done.length ∧ ρ' = [.dat (.list (ns.map .int)), .dat (.int kind), .ol (strsD Ls), s3, s4, s5]) _ ⟨[], _, _, _, by simp, rfl, rfl⟩ ?_
    rintro done x rest ρ e ⟨Ls, s3, s4, s5, hP, hL, rfl⟩
    have hdl : done.length ≤ 20 := by
      have := congrArg List.length e
      simp at this; omega
    generalize hc : cellOf ns x % 10 ^ 60 = c
    have hc0 : 0 ≤ c := by rw [← hc]; exact Int.emod_nonneg _ (by decide)
    simp only [Int.reducePow] at hc
    obtain ⟨a, hf, _, en⟩ := g_number_by (c / 81) kind
    have et := g__law_number_text (a := a) (Nat.lt_trans hf.top (by decide)) (Nat.lt_trans hf.bot (by decide))
    have b1 := dStr_ok (i := c % 9) (Sz.mono (n := 10) (Sz.of_abs (k := 8) (by omega) (by decide)) (by decide))
    have b2 := dStr_ok (i := c / 9 % 9) (Sz.mono (n := 10) (Sz.of_abs (k := 8) (by omega) (by decide)) (by decide))
    have hp := part_line (i := c % 9) (j := c / 9 % 9) (a := a) (by omega) (by omega) (by omega) (by omega) hf
    have l1 := fr_len (a := a) (Nat.lt_trans hf.top (by decide)) (Nat.lt_trans hf.bot (by decide))
    have d1 := dec8 (i := c % 9) (by omega) (by omega)
    have d2 := dec8 (i := c / 9 % 9) (by omega) (by omega)
    have a1 := dAdd_S (a := decL (c % 9)) (b := [32]) (by rw [d1]; simp [most])
    have a2 := dAdd_S (a := decL (c % 9) ++ [32]) (b := decL (c / 9 % 9)) (by rw [d1, d2]; simp [most])
    have a3 := dAdd_S (a := (decL (c % 9) ++ [32]) ++ decL (c / 9 % 9)) (b := [32]) (by rw [d1, d2]; simp [most])
    have a4 := dAdd_S (a := ((decL (c % 9) ++ [32]) ++ decL (c / 9 % 9)) ++ [32]) (b := numT a) (by rw [d1, d2]; simp [most]; omega)
    simp only [List.append_assoc, List.cons_append, List.nil_append] at a1 a2 a3 a4
    generalize decL (c % 9) ++ 32 :: (decL (c / 9 % 9) ++ 32 :: numT a) = line at *
    have hm : (strsD Ls).length < 100000 := by simp [strsD]; omega
    refine ⟨[.dat (.list (ns.map .int)), .dat (.int kind), .ol (strsD Ls), .dat (.int (cellOf ns x)), s4, s5], [.dat (.list (ns.map .int)), .dat (.int kind), .ol (strsD (Ls ++ [line])), .dat (.int (cellOf ns x)), .dat (.int c), .dat (.str (S (numT a)))], rfl, ?_, Ls ++ [line], _, _, _, ?_, ?_, rfl⟩
    · have e9 : strsD (Ls ++ [line]) = strsD Ls ++ [.str (S line)] := by simp [strsD]
      rw [e9]
      simp [hc, en, et, b1, b2, blank, a1, a2, a3, a4, hm, most]
    · intro l hl
      rcases List.mem_append.mp hl with h | h
      · exact hP l h
      · rw [List.mem_singleton] at h; rw [h]; exact hp
    · simp [hL]
  obtain ⟨_, e1, Ls, s3, s4, s5, hP, hL, rfl⟩ := e1
  have e2 := dEq_strs hP
  by_cases h0 : Ls = []
  · subst h0
    refine ⟨[[48, 32, 48, 32, 49, 47, 50]], by simpa using part_half, by simp, by simp, ?_⟩
    have e3 : strsD ([] : List (List Nat)) = [] := rfl
    rw [e3] at e1 e2
    simp [mb__law_text_by, e0, e1, e2, most, half_text, strsD]
  · refine ⟨Ls, hP, h0, by omega, ?_⟩
    simp [mb__law_text_by, e0, e1, e2, h0, most]
def odds : List D := [.str "", .str " ", .str "1", .str "1 2", .str "9 0 1", .str "0 9 1", .str "0 0 1 1", .str "0  0 1", .str " 0 0 1", .str "0 0 1 ", .str "00 1 2", .str "1 -1 2", .str "a b c",
  .str "0 0 2/4", .str "0 0 -0", .str "0 0", .str "0 0 1;", .str "0 0 1/1", .str "-1 0 1", .str "0 10 3", .str "0 0 1_0", .str "1 1 1/0", .str "8 8 01"]
def shortB : D → Bool
  | .str z => decide (z.length ≤ 80)
  | _ => false
theorem odds_short : odds.all shortB = true := by decide +kernel
theorem g_odd (c : Int) : ∃ l, l.length ≤ 80 ∧ m__law_odd [.int c] = .ok (.str (S l)) := by
  rw [q__law_odd]
  obtain ⟨d, hd, e⟩ := atI_mem (l := odds) (i := c % 23) (by omega) (by show c % 23 < 23; omega)
  have h := List.all_eq_true.mp odds_short d hd
  obtain ⟨l, rfl, hl⟩ : ∃ l, d = .str (S l) ∧ l.length ≤ 80 := by
    unfold shortB at h
    split at h
    · rename_i z
      exact ⟨z.cps.toList, by rw [S_tl], by have := of_decide_eq_true h; simpa [Str.length] using this⟩
    · cases h
  refine ⟨l, hl, ?_⟩
  unfold odds at e
  simp [mb__law_odd, dAdd_s, most, e]
end G

set_option maxHeartbeats 2000000
namespace G
open PySem L2 Q TL SX
abbrev turnB : SM := (seq (setB 8 (call m__law_asked (argsN 1 (acons (v 4) anil)))) (seq (Q.ite (tor (tst (ne (v 8) (v 6))) (tst (ne (isi "list" (v 8)) (isi "list" (v 6))))) (ret (k (.bool false))) pass) (Q.ite (tand (tst (isi "list" (v 8))) (tnot (tst (bc dAll (acons (elst (lc (iv asL (v 8)) [9] (bN 9) tyes (call m__law_is_fraction (argsN 1 (acons (ix (v 9) (k (.int 2))) anil))))) anil))))) (ret (k (.bool false))) pass)))
def tailD : SM := (seq (setB 6 (call m__law_due (argsN 1 (acons (v 4) anil)))) (seq (Q.ite (tst (ne (sub (mod (v 1) (k (.int 9))) (k (.int 1))) (sub (mod (v 1) (k (.int 9))) (k (.int 1))))) (ret (k (.bool false))) pass) (seq (each (ivA asR1 (acons (k (.int 2)) anil)) (bN 7) (seq (setB 8 (call m__law_asked (argsN 1 (acons (v 4) anil)))) (seq (Q.ite (tor (tst (ne (v 8) (v 6))) (tst (ne (isi "list" (v 8)) (isi "list" (v 6))))) (ret (k (.bool false))) pass) (Q.ite (tand (tst (isi "list" (v 8))) (tnot (tst (bc dAll (acons (elst (lc (iv asL (v 8)) [9] (bN 9) tyes (call m__law_is_fraction (argsN 1 (acons (ix (v 9) (k (.int 2))) anil))))) anil))))) (ret (k (.bool false))) pass)))) (ret (k (.bool true))))))
theorem law_eq : mb_law = seq (setB 1 (call m__law_cell_at (argsN 2 (acons (v 0) (acons (k (.int 0)) anil))))) (seq (setB 2 (call m__law_text_by (argsN 2 (acons (v 0) (acons (v 1) anil))))) (seq (setB 3 (mod (call m__law_cell_at (argsN 2 (acons (v 0) (acons (k (.int 1)) anil)))) (pow (k (.int 10)) (k (.int 30))))) (seq (setB 4 (strM fJoin (k (.str "; ")) (v 2))) (seq (Q.ite (tst (eq (mod (div (v 1) (k (.int 3))) (k (.int 4))) (k (.int 1)))) (setB 4 (call m__law_changed (argsN 3 (acons (v 4) (acons (div (v 1) (k (.int 12))) (acons (v 3) anil)))))) pass) (seq (Q.ite (tst (eq (mod (div (v 1) (k (.int 3))) (k (.int 4))) (k (.int 2)))) (seq (setB 5 (mod (v 3) (add (bc dLen (acons (v 2) anil)) (k (.int 1))))) (setB 4 (strM fJoin (k (.str "; ")) (add (add (slc (v 2) pn (ps (v 5))) (elst (olst (acons (call m__law_odd (argsN 1 (acons (div (v 3) (k (.int 64))) anil))) anil)))) (slc (v 2) (ps (v 5)) pn))))) pass) (seq (Q.ite (tst (eq (mod (div (v 1) (k (.int 3))) (k (.int 4))) (k (.int 3)))) (seq (setB 4 (call m__law_changed (argsN 3 (acons (strM fJoin (k (.str "; ")) (v 2)) (acons (div (v 1) (k (.int 12))) (acons (add (mod (v 3) (bc dLen (acons (v 4) anil))) (mul (k (.int 1009)) (mod (v 3) (k (.int 97))))) anil)))))) (Q.ite (tst (eq (mod (v 3) (k (.int 5))) (k (.int 0)))) (setB 4 (ix (etup (acons (k .none) (acons (k (.int 7)) (acons (v 2) (acons (etup (acons (k (.str "0 0 1")) anil)) (acons (k (.bool true)) (acons (k (.dict [])) anil))))))) (mod (div (v 3) (k (.int 5))) (k (.int 6))))) pass)) pass) tailD)))))) := rfl
theorem turn_ok {s0 s1 s2 s3 s5 s7 s8 : Q.Slot} {d e : D} (he : Told e) (ha : m__law_asked [d] = .ok e) : ∃ s8', turnB [s0, s1, s2, s3, .dat d, s5, .dat e, s7, s8, .no] = .nx [s0, s1, s2, s3, .dat d, s5, .dat e, s7, s8', .no] := by
  have e1 := dEq_self he.shaped
  cases he with
  | pair i j => exact ⟨_, by simp [ha, e1]; rfl⟩
  | roof R hf hl =>
    have e2 : lcl (bN 9) tyes (call m__law_is_fraction (argsN 1 (acons (ix (v 9) (k (.int 2))) anil))) (R.map pd) [s0, s1, s2, s3, .dat d, s5, .dat (.list (R.map pd)), s7, .dat (.list (R.map pd)), .no] [] = .ok ([] ++ R.map fun _ => .bool true) := by
      refine lcl_map pd (fun _ => .bool true) R [] (fun r hr => ⟨_, rfl, rfl, ?_⟩) (by simp [most]; omega)
      simp [pd, g__law_is_fraction (hf r hr)]
    have e3 : dAll [.list (R.map fun _ => .bool true)] = some (.bool true) := by
      rw [show (R.map fun _ => PyData.bool true) = List.replicate R.length (.bool true) by simp [List.map_const']]
      exact dAll_true _
    simp only [List.nil_append] at e2
    exact ⟨_, by simp [ha, e1, e2, e3]; rfl⟩
theorem tail_ok {s0 s2 s3 s5 : Q.Slot} {kind : Int} {d : D} (h : Good d) : tailD [s0, .dat (.int kind), s2, s3, .dat d, s5, .no, .no, .no, .no] = .rt (.bool true) := by
  obtain ⟨e, he, h1, h2⟩ := both h
  have r2 : asR1 [.int 2] = some (intsFrom 0 2) := asR1_ok (by omega)
  have i2 : intsFrom 0 2 = [.int (0 + (0 : Nat)), .int (0 + (1 : Nat))] := rfl
  obtain ⟨x1, t1⟩ := turn_ok (s0 := s0) (s1 := .dat (.int kind)) (s2 := s2) (s3 := s3) (s5 := s5) (s7 := .dat (.int (0 + (0 : Nat)))) (s8 := .no) he h2
  obtain ⟨x2, t2⟩ := turn_ok (s0 := s0) (s1 := .dat (.int kind)) (s2 := s2) (s3 := s3) (s5 := s5) (s7 := .dat (.int (0 + (1 : Nat)))) (s8 := x1) he h2
  have w : loop (bN 7) turnB (intsFrom 0 2) [s0, .dat (.int kind), s2, s3, .dat d, s5, .dat e, .no, .no, .no] = .nx [s0, .dat (.int kind), s2, s3, .dat d, s5, .dat e, .dat (.int (0 + (1 : Nat))), x2, .no] := by
    rw [i2, loop_cons rfl t1, loop_cons rfl t2, loop_nil]
  unfold tailD
  simp [h1, r2, w]
theorem good_S {l : List Nat} (h : l.length ≤ 8000) : Good (.str (S l)) := .inl ⟨l, rfl, h⟩
theorem join_S2 {Ls : List (List Nat)} (h : ∀ l ∈ Ls, l.length ≤ 80) (hl : Ls.length ≤ 30) : fJoin (S [59, 32]) (.list (strsD Ls)) = .ok (.str (S (joinL [59, 32] Ls))) ∧ (joinL [59, 32] Ls).length ≤ 2460 := by
  refine ⟨fJoin_ok ?_, ?_⟩
  · have := sum_le (fun p : List Nat => p.length) 80 Ls h
    have e : [59, 32].length = 2 := rfl
    rw [e]; simp only [most]; omega
  · have := joinL_len (a := [59, 32]) (c := 80) h
    have e : [59, 32].length = 2 := rfl
    rw [e] at this; omega
theorem joinL_ne {Ls : List (List Nat)} (h0 : Ls ≠ []) (h : ∀ l ∈ Ls, l ≠ []) : joinL [59, 32] Ls ≠ [] := by
  match Ls, h0, h with
  | [p], _, h => exact h p (by simp)
  | p :: q :: r, _, h =>
    intro z
    have := h p (by simp)
    simp [joinL] at z
theorem law_true : ∀ ns : List Int, ns.length ≤ 63 → runD 10 mb_law [.list (ns.map PyData.int)] = .ok (.bool true) := by
  intro ns hns
  rw [runD_eq, law_eq]
  have e0 : m__law_cell_at [.list (ns.map .int), .int 0] = .ok (.int (cellOf ns 0)) := g_cell ns (k := 0) (by omega)
  have e1 : m__law_cell_at [.list (ns.map .int), .int 1] = .ok (.int (cellOf ns 1)) := g_cell ns (k := 1) (by omega)
  generalize cellOf ns 0 = kind at *
  generalize hc : cellOf ns 1 % 10 ^ 30 = c
  simp only [Int.reducePow] at hc
  obtain ⟨Ls, hP, h0, hL, et⟩ := g_text_by ns hns kind
  obtain ⟨ej, hj⟩ := join_S2 (Ls := Ls) (fun l hl => (hP l hl).len) (by omega)
  have hjn := joinL_ne h0 fun l hl => (hP l hl).ne
  generalize hJ : joinL [59, 32] Ls = J at *
  have hjp : 0 < J.length := List.length_pos_iff.mpr hjn
  have nJ := dLen_S (a := J) (by simp only [most]; omega)
  have nL : dLen [.list (strsD Ls)] = some (.int Ls.length) := by simp [strsD]
  by_cases k1 : kind / 3 % 4 = 1
  · obtain ⟨l', hl', ec⟩ := g_changed (l := J) (by omega) (kind / 12) c
    have g := good_S (l := l') (by omega)
    simp [e0, e1, hc, et, parting, ej, k1, ec, tail_ok g]
  · by_cases k2 : kind / 3 % 4 = 2
    · have hp : (0 : Int) < Ls.length + 1 := by omega
      have a1 : 0 ≤ c % (Ls.length + 1) := Int.emod_nonneg _ (by omega)
      have a2 : c % (Ls.length + 1) < Ls.length + 1 := Int.emod_lt_of_pos _ (by omega)
      have a3 : dMod (.int c) (.int ((Ls.length : Int) + 1)) = some (.int (c % (Ls.length + 1))) := dMod_p' hp
      generalize c % ((Ls.length : Int) + 1) = at_ at *
      obtain ⟨n, rfl⟩ : ∃ n : Nat, at_ = n := ⟨at_.toNat, by omega⟩
      have c1 := cutD_to (fun x => PyData.str (S x)) Ls n (by omega)
      have c2 := cutD_from (fun x => PyData.str (S x)) Ls n (by omega)
      obtain ⟨o, ho, eo⟩ := g_odd (c / 64)
      have t1 : (Ls.take n).length ≤ 20 := by rw [List.length_take]; omega
      have t2 : (Ls.drop n).length ≤ 20 := by rw [List.length_drop]; omega
      have b1 : dAdd (.list (strsD (Ls.take n))) (.list [.str (S o)]) = some (.list (strsD (Ls.take n ++ [o]))) := by rw [dAdd_l (by simp [strsD, most]; omega)]; simp [strsD]
      have b2 : dAdd (.list (strsD (Ls.take n ++ [o]))) (.list (strsD (Ls.drop n))) = some (.list (strsD (Ls.take n ++ [o] ++ Ls.drop n))) := by rw [dAdd_l (by simp [strsD, most]; omega)]; simp [strsD]
      obtain ⟨ej2, hj2⟩ := join_S2 (Ls := Ls.take n ++ [o] ++ Ls.drop n) (fun l hl => by
        simp only [List.mem_append, List.mem_singleton] at hl
        rcases hl with (h | h) | h
        · exact (hP l (List.mem_of_mem_take h)).len
        · rw [h]; exact ho
        · exact (hP l (List.mem_of_mem_drop h)).len) (by simp; omega)
      have c1 : cutD (strsD Ls) none (some (n : Int)) = strsD (Ls.take n) := c1
      have c2 : cutD (strsD Ls) (some (n : Int)) none = strsD (Ls.drop n) := c2
      generalize Ls.take n ++ [o] ++ Ls.drop n = Ms at *
      generalize Ls.take n ++ [o] = Ns at *
      generalize Ls.take n = As at *
      generalize Ls.drop n = Bs at *
      have g := good_S (l := joinL [59, 32] Ms) (by omega)
      simp [e0, e1, hc, et, parting, ej, k1, k2, nL, a3, eo, c1, c2, b1, b2, ej2, most, tail_ok g]
    · by_cases k3 : kind / 3 % 4 = 3
      · have hp : (0 : Int) < J.length := by omega
        have a3 : dMod (.int c) (.int (J.length : Int)) = some (.int (c % J.length)) := dMod_p' hp
        obtain ⟨l', hl', ec⟩ := g_changed (l := J) (by omega) (kind / 12) (c % J.length + 1009 * (c % 97))
        by_cases k5 : c % 5 = 0
        · obtain ⟨x, hx, ex⟩ := atI_mem (l := [PyData.none, .int 7, .list (strsD Ls), .tuple [.str "0 0 1"], .bool true, .dict []]) (i := c / 5 % 6) (by omega) (by show c / 5 % 6 < 6; omega)
          have g : Good x := by
            right
            simp only [List.mem_cons, List.not_mem_nil, or_false] at hx
            rcases hx with rfl | rfl | rfl | rfl | rfl | rfl <;> first | exact kit_ls | decide +kernel
          simp [e0, e1, hc, et, parting, ej, k1, k2, k3, nJ, a3, ec, k5, ex, most, tail_ok g]
        · have g := good_S (l := l') (by omega)
          simp [e0, e1, hc, et, parting, ej, k1, k2, k3, nJ, a3, ec, k5, tail_ok g]
      · have g := good_S (l := J) (by omega)
        simp [e0, e1, hc, et, parting, ej, k1, k2, k3, tail_ok g]
end G

open PySem PySem.W PyProof.Rows
set_option maxRecDepth 100000 in
set_option maxHeartbeats 0 in
theorem PySem.Challenge.cw_creasecurve_k06_no_texts_of_roofs_holds : PySem.Challenge.rw_creasecurve_k06_no_texts_of_roofs.Holds := by
  w_on; o_law; k_head; (case hw => w_witness2)
  k_fill
  refine Q.law_walk (l := PySem.Challenge.rw_creasecurve_k06_no_texts_of_roofs) (kk := 7) rfl rfl ⟨rfl, by decide, by decide⟩ (fun w h Y => PySem.W.kIn_of Y) ?F
  case F =>
    intro w mg fa h KX hG hmg
    refine' G.use (G.tx_mk KX hG ?a0 ?l0 ?k0 ?p0 ?a1 ?l1 ?k1 ?p1 ?a2 ?l2 ?k2 ?p2 ?a3 ?l3 ?k3 ?p3 ?a4 ?l4 ?k4 ?p4 ?a5 ?l5 ?k5 ?p5 ?a6 ?l6 ?k6 ?p6 ?a7 ?l7 ?k7 ?p7 ?a8 ?l8 ?k8 ?p8 ?a9 ?l9 ?k9 ?p9 ?a10 ?l10 ?k10 ?p10 ?a11 ?l11 ?k11 ?p11 ?a12 ?l12 ?k12 ?p12 ?a13 ?l13 ?k13 ?p13 ?a14 ?l14 ?k14 ?p14 ?a15 ?l15 ?k15 ?p15 ?a16 ?l16 ?k16 ?p16 ?a17 ?l17 ?k17 ?p17 ?a18 ?l18 ?k18 ?p18 ?a19 ?l19 ?k19 ?p19 ?a20 ?l20 ?k20 ?p20 ?a21 ?l21 ?k21 ?p21 ?a22 ?l22 ?k22 ?p22 ?a23 ?l23 ?k23 ?p23 ?a24 ?l24 ?k24 ?p24 ?a25 ?l25 ?k25 ?p25 ?a26 ?l26 ?k26 ?p26 ?a27 ?l27 ?k27 ?p27 ?a28 ?l28 ?k28 ?p28 ?a29 ?l29 ?k29 ?p29 ?n_abs ?n_len ?n_sorted ?n_int ?n_isinstance ?n_str ?n_enumerate ?n_min ?n_range ?n_bool ?n_tuple ?n_ValueError ?n_list ?n_all ?c_STEEPEST ?c_MOST ?c_LONGEST ?c_FIGURES ?c_STEPS ?q_NoFraction ?q_NoRoof ?q_TooSteep ?q_TooMany ?q_NoNumber ?q_NoText ?q_RoofError ?q_NoRow ?q_NoDealing ?q_NoCorner ?q_NoName ?u_NoFraction ?v_NoFraction ?z_NoFraction ?u_NoRoof ?v_NoRoof ?z_NoRoof ?u_TooSteep ?v_TooSteep ?z_TooSteep ?u_TooMany ?v_TooMany ?z_TooMany ?u_NoNumber ?v_NoNumber ?z_NoNumber ?u_NoText ?v_NoText ?z_NoText ?u_RoofError ?v_RoofError ?z_RoofError ?u_NoRow ?v_NoRow ?z_NoRow ?u_NoDealing ?v_NoDealing ?z_NoDealing ?u_NoCorner ?v_NoCorner ?z_NoCorner ?u_NoName ?v_NoName ?z_NoName ?s_NoFraction ?g1_NoFraction ?g2_NoFraction ?g3_NoFraction ?g4_NoFraction ?s_NoRoof ?g1_NoRoof ?g2_NoRoof ?g3_NoRoof ?g4_NoRoof ?s_TooSteep ?g1_TooSteep ?g2_TooSteep ?g3_TooSteep ?g4_TooSteep ?s_TooMany ?g1_TooMany ?g2_TooMany ?g3_TooMany ?g4_TooMany ?s_NoNumber ?g1_NoNumber ?g2_NoNumber ?g3_NoNumber ?g4_NoNumber ?s_NoText ?g1_NoText ?g2_NoText ?g3_NoText ?g4_NoText ?r_NoFraction ?r_NoRoof ?r_TooSteep ?r_TooMany ?r_NoNumber ?xl_NoText ?xm_NoText ?xs_NoText ?xf_NoText ?xi_NoText ?xt_NoText ?xd_NoText ?xc_NoText ?xk_NoText ?y1_RoofError ?y2_RoofError ?y3_RoofError ?o1 ?o2 ?w_NoFraction_NoRoof ?n_NoFraction_NoRoof ?w_NoRoof_NoRoof ?w_TooSteep_NoRoof ?n_TooSteep_NoRoof ?w_TooMany_NoRoof ?n_TooMany_NoRoof ?w_NoNumber_NoRoof ?n_NoNumber_NoRoof ?w_NoText_NoRoof ?n_NoText_NoRoof ?w_NoFraction_NoFraction ?w_NoRoof_NoFraction ?n_NoRoof_NoFraction ?w_TooSteep_NoFraction ?n_TooSteep_NoFraction ?w_TooMany_NoFraction ?n_TooMany_NoFraction ?w_NoNumber_NoFraction ?n_NoNumber_NoFraction ?w_NoText_NoFraction ?n_NoText_NoFraction ?w_NoFraction_ValueError ?w_NoRoof_ValueError ?w_TooSteep_ValueError ?w_TooMany_ValueError ?w_NoNumber_ValueError ?w_NoText_ValueError ?w_NoFraction_NoNumber ?n_NoFraction_NoNumber ?w_NoRoof_NoNumber ?n_NoRoof_NoNumber ?w_TooSteep_NoNumber ?n_TooSteep_NoNumber ?w_TooMany_NoNumber ?n_TooMany_NoNumber ?w_NoNumber_NoNumber ?w_NoText_NoNumber ?n_NoText_NoNumber ?w_NoFraction_TooMany ?n_NoFraction_TooMany ?w_NoRoof_TooMany ?n_NoRoof_TooMany ?w_TooSteep_TooMany ?n_TooSteep_TooMany ?w_TooMany_TooMany ?w_NoNumber_TooMany ?n_NoNumber_TooMany ?w_NoText_TooMany ?n_NoText_TooMany ?w_NoFraction_TooSteep ?n_NoFraction_TooSteep ?w_NoRoof_TooSteep ?n_NoRoof_TooSteep ?w_TooSteep_TooSteep ?w_TooMany_TooSteep ?n_TooMany_TooSteep ?w_NoNumber_TooSteep ?n_NoNumber_TooSteep ?w_NoText_TooSteep ?n_NoText_TooSteep ?w_NoFraction_NoRow ?n_NoFraction_NoRow ?w_NoRoof_NoRow ?n_NoRoof_NoRow ?w_TooSteep_NoRow ?n_TooSteep_NoRow ?w_TooMany_NoRow ?n_TooMany_NoRow ?w_NoNumber_NoRow ?n_NoNumber_NoRow ?w_NoText_NoRow ?n_NoText_NoRow ?w_NoFraction_NoDealing ?n_NoFraction_NoDealing ?w_NoRoof_NoDealing ?n_NoRoof_NoDealing ?w_TooSteep_NoDealing ?n_TooSteep_NoDealing ?w_TooMany_NoDealing ?n_TooMany_NoDealing ?w_NoNumber_NoDealing ?n_NoNumber_NoDealing ?w_NoText_NoDealing ?n_NoText_NoDealing ?w_NoFraction_NoCorner ?n_NoFraction_NoCorner ?w_NoRoof_NoCorner ?n_NoRoof_NoCorner ?w_TooSteep_NoCorner ?n_TooSteep_NoCorner ?w_TooMany_NoCorner ?n_TooMany_NoCorner ?w_NoNumber_NoCorner ?n_NoNumber_NoCorner ?w_NoText_NoCorner ?n_NoText_NoCorner ?w_NoFraction_NoName ?n_NoFraction_NoName ?w_NoRoof_NoName ?n_NoRoof_NoName ?w_TooSteep_NoName ?n_TooSteep_NoName ?w_TooMany_NoName ?n_TooMany_NoName ?w_NoNumber_NoName ?n_NoNumber_NoName ?w_NoText_NoName ?n_NoText_NoName ?w_NoFraction_NoText ?n_NoFraction_NoText ?w_NoRoof_NoText ?n_NoRoof_NoText ?w_TooSteep_NoText ?n_TooSteep_NoText ?w_TooMany_NoText ?n_TooMany_NoText ?w_NoNumber_NoText ?n_NoNumber_NoText ?w_NoText_NoText ?w_NoFraction_RoofError ?w_NoRoof_RoofError ?w_TooSteep_RoofError ?w_TooMany_RoofError ?w_NoNumber_RoofError ?w_NoText_RoofError) ?Z
    (case a0 => k_is)
    (case l0 => k_is)
    (case k0 => k_is)
    (case p0 => k_is)
    (case a1 => k_is)
    (case l1 => k_is)
    (case k1 => k_is)
    (case p1 => k_is)
    (case a2 => k_is)
    (case l2 => k_is)
    (case k2 => k_is)
    (case p2 => k_is)
    (case a3 => k_is)
    (case l3 => k_is)
    (case k3 => k_is)
    (case p3 => k_is)
    (case a4 => k_is)
    (case l4 => k_is)
    (case k4 => k_is)
    (case p4 => k_is)
    (case a5 => k_is)
    (case l5 => k_is)
    (case k5 => k_is)
    (case p5 => k_is)
    (case a6 => k_is)
    (case l6 => k_is)
    (case k6 => k_is)
    (case p6 => k_is)
    (case a7 => k_is)
    (case l7 => k_is)
    (case k7 => k_is)
    (case p7 => k_is)
    (case a8 => k_is)
    (case l8 => k_is)
    (case k8 => k_is)
    (case p8 => k_is)
    (case a9 => k_is)
    (case l9 => k_is)
    (case k9 => k_is)
    (case p9 => k_is)
    (case a10 => k_is)
    (case l10 => k_is)
    (case k10 => k_is)
    (case p10 => k_is)
    (case a11 => k_is)
    (case l11 => k_is)
    (case k11 => k_is)
    (case p11 => k_is)
    (case a12 => k_is)
    (case l12 => k_is)
    (case k12 => k_is)
    (case p12 => k_is)
    (case a13 => k_is)
    (case l13 => k_is)
    (case k13 => k_is)
    (case p13 => k_is)
    (case a14 => k_is)
    (case l14 => k_is)
    (case k14 => k_is)
    (case p14 => k_is)
    (case a15 => k_is)
    (case l15 => k_is)
    (case k15 => k_is)
    (case p15 => k_is)
    (case a16 => k_is)
    (case l16 => k_is)
    (case k16 => k_is)
    (case p16 => k_is)
    (case a17 => k_is)
    (case l17 => k_is)
    (case k17 => k_is)
    (case p17 => k_is)
    (case a18 => k_is)
    (case l18 => k_is)
    (case k18 => k_is)
    (case p18 => k_is)
    (case a19 => k_is)
    (case l19 => k_is)
    (case k19 => k_is)
    (case p19 => k_is)
    (case a20 => k_is)
    (case l20 => k_is)
    (case k20 => k_is)
    (case p20 => k_is)
    (case a21 => k_is)
    (case l21 => k_is)
    (case k21 => k_is)
    (case p21 => k_is)
    (case a22 => k_is)
    (case l22 => k_is)
    (case k22 => k_is)
    (case p22 => k_is)
    (case a23 => k_is)
    (case l23 => k_is)
    (case k23 => k_is)
    (case p23 => k_is)
    (case a24 => k_is)
    (case l24 => k_is)
    (case k24 => k_is)
    (case p24 => k_is)
    (case a25 => k_is)
    (case l25 => k_is)
    (case k25 => k_is)
    (case p25 => k_is)
    (case a26 => k_is)
    (case l26 => k_is)
    (case k26 => k_is)
    (case p26 => k_is)
    (case a27 => k_is)
    (case l27 => k_is)
    (case k27 => k_is)
    (case p27 => k_is)
    (case a28 => k_is)
    (case l28 => k_is)
    (case k28 => k_is)
    (case p28 => k_is)
    (case a29 => k_is)
    (case l29 => k_is)
    (case k29 => k_is)
    (case p29 => k_is)
    (case n_abs => k_is)
    (case n_len => k_is)
    (case n_sorted => k_is)
    (case n_int => k_is)
    (case n_isinstance => k_is)
    (case n_str => k_is)
    (case n_enumerate => k_is)
    (case n_min => k_is)
    (case n_range => k_is)
    (case n_bool => k_is)
    (case n_tuple => k_is)
    (case n_ValueError => k_is)
    (case n_list => k_is)
    (case n_all => k_is)
    (case c_STEEPEST => k_is)
    (case c_MOST => k_is)
    (case c_LONGEST => k_is)
    (case c_FIGURES => k_is)
    (case c_STEPS => k_is)
    (case q_NoFraction => k_is)
    (case q_NoRoof => k_is)
    (case q_TooSteep => k_is)
    (case q_TooMany => k_is)
    (case q_NoNumber => k_is)
    (case q_NoText => k_is)
    (case q_RoofError => k_is)
    (case q_NoRow => k_is)
    (case q_NoDealing => k_is)
    (case q_NoCorner => k_is)
    (case q_NoName => k_is)
    (case u_NoFraction => k_is)
    (case v_NoFraction => k_is)
    (case z_NoFraction => k_is)
    (case u_NoRoof => k_is)
    (case v_NoRoof => k_is)
    (case z_NoRoof => k_is)
    (case u_TooSteep => k_is)
    (case v_TooSteep => k_is)
    (case z_TooSteep => k_is)
    (case u_TooMany => k_is)
    (case v_TooMany => k_is)
    (case z_TooMany => k_is)
    (case u_NoNumber => k_is)
    (case v_NoNumber => k_is)
    (case z_NoNumber => k_is)
    (case u_NoText => k_is)
    (case v_NoText => k_is)
    (case z_NoText => k_is)
    (case u_RoofError => k_is)
    (case v_RoofError => k_is)
    (case z_RoofError => k_is)
    (case u_NoRow => k_is)
    (case v_NoRow => k_is)
    (case z_NoRow => k_is)
    (case u_NoDealing => k_is)
    (case v_NoDealing => k_is)
    (case z_NoDealing => k_is)
    (case u_NoCorner => k_is)
    (case v_NoCorner => k_is)
    (case z_NoCorner => k_is)
    (case u_NoName => k_is)
    (case v_NoName => k_is)
    (case z_NoName => k_is)
    (case s_NoFraction => k_is)
    (case g1_NoFraction => k_is)
    (case g2_NoFraction => k_is)
    (case g3_NoFraction => k_is)
    (case g4_NoFraction => k_is)
    (case s_NoRoof => k_is)
    (case g1_NoRoof => k_is)
    (case g2_NoRoof => k_is)
    (case g3_NoRoof => k_is)
    (case g4_NoRoof => k_is)
    (case s_TooSteep => k_is)
    (case g1_TooSteep => k_is)
    (case g2_TooSteep => k_is)
    (case g3_TooSteep => k_is)
    (case g4_TooSteep => k_is)
    (case s_TooMany => k_is)
    (case g1_TooMany => k_is)
    (case g2_TooMany => k_is)
    (case g3_TooMany => k_is)
    (case g4_TooMany => k_is)
    (case s_NoNumber => k_is)
    (case g1_NoNumber => k_is)
    (case g2_NoNumber => k_is)
    (case g3_NoNumber => k_is)
    (case g4_NoNumber => k_is)
    (case s_NoText => k_is)
    (case g1_NoText => k_is)
    (case g2_NoText => k_is)
    (case g3_NoText => k_is)
    (case g4_NoText => k_is)
    (case r_NoFraction => k_exc)
    (case r_NoRoof => k_exc)
    (case r_TooSteep => k_exc)
    (case r_TooMany => k_exc)
    (case r_NoNumber => k_exc)
    (case xl_NoText => k_is)
    (case xm_NoText => first | rfl | decide +kernel)
    (case xs_NoText => k_is)
    (case xf_NoText => k_is)
    (case xi_NoText => k_is)
    (case xt_NoText => k_is)
    (case xd_NoText => k_is)
    (case xc_NoText => k_is)
    (case xk_NoText => k_is)
    (case y1_RoofError => k_is)
    (case y2_RoofError => k_is)
    (case y3_RoofError => k_is)
    (case o1 => k_is)
    (case o2 => k_is)
    (case w_NoFraction_NoRoof => k_is)
    (case n_NoFraction_NoRoof => rfl)
    (case w_NoRoof_NoRoof => k_is)
    (case w_TooSteep_NoRoof => k_is)
    (case n_TooSteep_NoRoof => rfl)
    (case w_TooMany_NoRoof => k_is)
    (case n_TooMany_NoRoof => rfl)
    (case w_NoNumber_NoRoof => k_is)
    (case n_NoNumber_NoRoof => rfl)
    (case w_NoText_NoRoof => k_is)
    (case n_NoText_NoRoof => rfl)
    (case w_NoFraction_NoFraction => k_is)
    (case w_NoRoof_NoFraction => k_is)
    (case n_NoRoof_NoFraction => rfl)
    (case w_TooSteep_NoFraction => k_is)
    (case n_TooSteep_NoFraction => rfl)
    (case w_TooMany_NoFraction => k_is)
    (case n_TooMany_NoFraction => rfl)
    (case w_NoNumber_NoFraction => k_is)
    (case n_NoNumber_NoFraction => rfl)
    (case w_NoText_NoFraction => k_is)
    (case n_NoText_NoFraction => rfl)
    (case w_NoFraction_ValueError => k_is)
    (case w_NoRoof_ValueError => k_is)
    (case w_TooSteep_ValueError => k_is)
    (case w_TooMany_ValueError => k_is)
    (case w_NoNumber_ValueError => k_is)
    (case w_NoText_ValueError => k_is)
    (case w_NoFraction_NoNumber => k_is)
    (case n_NoFraction_NoNumber => rfl)
    (case w_NoRoof_NoNumber => k_is)
    (case n_NoRoof_NoNumber => rfl)
    (case w_TooSteep_NoNumber => k_is)
    (case n_TooSteep_NoNumber => rfl)
    (case w_TooMany_NoNumber => k_is)
    (case n_TooMany_NoNumber => rfl)
    (case w_NoNumber_NoNumber => k_is)
    (case w_NoText_NoNumber => k_is)
    (case n_NoText_NoNumber => rfl)
    (case w_NoFraction_TooMany => k_is)
    (case n_NoFraction_TooMany => rfl)
    (case w_NoRoof_TooMany => k_is)
    (case n_NoRoof_TooMany => rfl)
    (case w_TooSteep_TooMany => k_is)
    (case n_TooSteep_TooMany => rfl)
    (case w_TooMany_TooMany => k_is)
    (case w_NoNumber_TooMany => k_is)
    (case n_NoNumber_TooMany => rfl)
    (case w_NoText_TooMany => k_is)
    (case n_NoText_TooMany => rfl)
    (case w_NoFraction_TooSteep => k_is)
    (case n_NoFraction_TooSteep => rfl)
    (case w_NoRoof_TooSteep => k_is)
    (case n_NoRoof_TooSteep => rfl)
    (case w_TooSteep_TooSteep => k_is)
    (case w_TooMany_TooSteep => k_is)
    (case n_TooMany_TooSteep => rfl)
    (case w_NoNumber_TooSteep => k_is)
    (case n_NoNumber_TooSteep => rfl)
    (case w_NoText_TooSteep => k_is)
    (case n_NoText_TooSteep => rfl)
    (case w_NoFraction_NoRow => k_is)
    (case n_NoFraction_NoRow => rfl)
    (case w_NoRoof_NoRow => k_is)
    (case n_NoRoof_NoRow => rfl)
    (case w_TooSteep_NoRow => k_is)
    (case n_TooSteep_NoRow => rfl)
    (case w_TooMany_NoRow => k_is)
    (case n_TooMany_NoRow => rfl)
    (case w_NoNumber_NoRow => k_is)
    (case n_NoNumber_NoRow => rfl)
    (case w_NoText_NoRow => k_is)
    (case n_NoText_NoRow => rfl)
    (case w_NoFraction_NoDealing => k_is)
    (case n_NoFraction_NoDealing => rfl)
    (case w_NoRoof_NoDealing => k_is)
    (case n_NoRoof_NoDealing => rfl)
    (case w_TooSteep_NoDealing => k_is)
    (case n_TooSteep_NoDealing => rfl)
    (case w_TooMany_NoDealing => k_is)
    (case n_TooMany_NoDealing => rfl)
    (case w_NoNumber_NoDealing => k_is)
    (case n_NoNumber_NoDealing => rfl)
    (case w_NoText_NoDealing => k_is)
    (case n_NoText_NoDealing => rfl)
    (case w_NoFraction_NoCorner => k_is)
    (case n_NoFraction_NoCorner => rfl)
    (case w_NoRoof_NoCorner => k_is)
    (case n_NoRoof_NoCorner => rfl)
    (case w_TooSteep_NoCorner => k_is)
    (case n_TooSteep_NoCorner => rfl)
    (case w_TooMany_NoCorner => k_is)
    (case n_TooMany_NoCorner => rfl)
    (case w_NoNumber_NoCorner => k_is)
    (case n_NoNumber_NoCorner => rfl)
    (case w_NoText_NoCorner => k_is)
    (case n_NoText_NoCorner => rfl)
    (case w_NoFraction_NoName => k_is)
    (case n_NoFraction_NoName => rfl)
    (case w_NoRoof_NoName => k_is)
    (case n_NoRoof_NoName => rfl)
    (case w_TooSteep_NoName => k_is)
    (case n_TooSteep_NoName => rfl)
    (case w_TooMany_NoName => k_is)
    (case n_TooMany_NoName => rfl)
    (case w_NoNumber_NoName => k_is)
    (case n_NoNumber_NoName => rfl)
    (case w_NoText_NoName => k_is)
    (case n_NoText_NoName => rfl)
    (case w_NoFraction_NoText => k_is)
    (case n_NoFraction_NoText => rfl)
    (case w_NoRoof_NoText => k_is)
    (case n_NoRoof_NoText => rfl)
    (case w_TooSteep_NoText => k_is)
    (case n_TooSteep_NoText => rfl)
    (case w_TooMany_NoText => k_is)
    (case n_TooMany_NoText => rfl)
    (case w_NoNumber_NoText => k_is)
    (case n_NoNumber_NoText => rfl)
    (case w_NoText_NoText => k_is)
    (case w_NoFraction_RoofError => k_is)
    (case w_NoRoof_RoofError => k_is)
    (case w_TooSteep_RoofError => k_is)
    (case w_TooMany_RoofError => k_is)
    (case w_NoNumber_RoofError => k_is)
    (case w_NoText_RoofError => k_is)
    intro T
    refine' Q.law_def (f := fun _ => .bad) ⟨h, KX, hG⟩ hmg ?a ?l ?c ?k G.sc_law (fun _ _ => .of_eq rfl) (fun base _ _ => G.all_law T) G.law_true
    (case a => k_is)
    (case l => k_is)
    (case c => k_is)
    (case k => k_is)

