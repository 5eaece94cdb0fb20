import PyProof.Rows.All
import Wide.All
import OpenK.AllK
import Wide.FinOn
import KE.KStateDown
import Lean
import HandS.ForExc
import HandS.Defaults
import HandS.ExcOwn
import HandS.Codes
import HandS.Head0
import HandS.Head1
import HandS.Head2
import HandS.HeadEnd
import HandS.HeadHook1
import HandS.HeadHook2
import HandS.Deep
import HandS.Wide
import HandS.ForMost
import HandS.Text
import HandS.Iter
import HandS.IsInst
import PySem.Challenge.RW_callround_k01_names_told
set_option Elab.async false
set_option linter.all false
set_option maxRecDepth 100000
set_option maxHeartbeats 4000000
/-! Values with owners, 1: plain values, frozen and owned representation, worlds, steps. -/
namespace Vo
open PySem PySem.Spec PyProof.Rows L2

/-- plain values -/
inductive D where
  | non | bl (b : Bool) | int (i : Int) | str (x : Str)
  | tup (ds : List D) | lst (ds : List D)
  | dic (t : Bool) (ks vs : List D)
  | obj (c : Str) (fs : List Str) (vs : List D)
  | pot (ns : List Int) (a b c : Int)
  | scr (K : PySem.W.Frag) (p : Addr) (ns : List Int)

/-- who may change what: frozen (shared), or owned with so and such items -/
inductive Ty where
  | z | ls (t : Ty) | pot
  deriving DecidableEq

mutual
def At (F : Hp) : D → V → Prop
  | .non, v => v = .non
  | .bl b, v => v = .bl b
  | .int i, v => v = .int i
  | .str x, v => v = .str x
  | .tup ds, v => ∃ p vs, v = .ref p ∧ F p = some (.tup vs) ∧ AtL F ds vs
  | .lst ds, v => ∃ p vs, v = .ref p ∧ F p = some (.lst vs) ∧ AtL F ds vs
  | .dic _ _ _, _ => False
  | .obj _ _ _, _ => False
  | .pot _ _ _ _, _ => False
  | .scr K p ns, v => v = .ref p ∧ SqL K F p (ns.map V.int)
def AtL (F : Hp) : List D → List V → Prop
  | [], vs => vs = []
  | d :: ds, vs => ∃ v r, vs = v :: r ∧ At F d v ∧ AtL F ds r
end

/-- the frozen part grows -/
def Gro (F F' : Hp) : Prop := ∀ a u, F a = some u → F' a = some u
theorem Gro.rfl {F : Hp} : Gro F F := fun _ _ h => h
theorem Gro.trans {F G J : Hp} (a : Gro F G) (b : Gro G J) : Gro F J := fun x u h => b x u (a x u h)
theorem Gro.upd {F : Hp} {p : Addr} {o : HO} (h : F p = none) : Gro F (upd F p o) := fun a u e => by
  rw [upd_ne (ne_of_none e h)]; exact e

mutual
theorem At.mono {F F' : Hp} (g : Gro F F') : ∀ {d : D} {v : V}, At F d v → At F' d v
  | .non, _, h => h
  | .bl _, _, h => h
  | .int _, _, h => h
  | .str _, _, h => h
  | .tup _, _, h => by
    unfold At at h ⊢
    obtain ⟨p, vs, e, k, l⟩ := h
    exact ⟨p, vs, e, g _ _ k, AtL.mono g l⟩
  | .lst _, _, h => by
    unfold At at h ⊢
    obtain ⟨p, vs, e, k, l⟩ := h
    exact ⟨p, vs, e, g _ _ k, AtL.mono g l⟩
  | .dic _ _ _, _, h => by unfold At at h; exact h.elim
  | .obj _ _ _, _, h => by unfold At at h; exact h.elim
  | .pot _ _ _ _, _, h => by unfold At at h; exact h.elim
  | .scr K p ns, _, h => by
    unfold At at h ⊢
    refine ⟨h.1, ?_⟩
    rcases h.2 with (q | ⟨o, q⟩) | q
    · exact .inl (.inl (g _ _ q))
    · exact .inl (.inr ⟨o, g _ _ q⟩)
    · exact .inr q
theorem AtL.mono {F F' : Hp} (g : Gro F F') : ∀ {ds : List D} {vs : List V}, AtL F ds vs → AtL F' ds vs
  | [], _, h => h
  | _ :: _, _, h => by
    unfold AtL at h ⊢
    obtain ⟨v, r, e, a, b⟩ := h
    exact ⟨v, r, e, At.mono g a, AtL.mono g b⟩
end

theorem AtL.nil {F : Hp} : AtL F [] [] := by unfold AtL; rfl
theorem AtL.cons {F : Hp} {d : D} {v : V} {ds : List D} {vs : List V} (a : At F d v) (b : AtL F ds vs) : AtL F (d :: ds) (v :: vs) := by
  unfold AtL; exact ⟨v, vs, rfl, a, b⟩
theorem AtL.len {F : Hp} : ∀ {ds : List D} {vs : List V}, AtL F ds vs → vs.length = ds.length
  | [], _, h => by unfold AtL at h; subst h; rfl
  | _ :: _, _, h => by
    unfold AtL at h
    obtain ⟨v, r, rfl, _, b⟩ := h
    simp [AtL.len b]
theorem AtL.get {F : Hp} : ∀ {ds : List D} {vs : List V} {i : Nat} {d : D}, AtL F ds vs → ds[i]? = some d → ∃ v, vs[i]? = some v ∧ At F d v
  | [], _, _, _, _, e => by simp at e
  | _ :: _, _, 0, _, h, e => by
    unfold AtL at h
    obtain ⟨v, r, rfl, a, _⟩ := h
    simp at e; subst e
    exact ⟨v, rfl, a⟩
  | _ :: _, _, i + 1, _, h, e => by
    unfold AtL at h
    obtain ⟨v, r, rfl, _, b⟩ := h
    obtain ⟨u, e1, a1⟩ := AtL.get (i := i) b (by simpa using e)
    exact ⟨u, by simpa using e1, a1⟩
theorem AtL.getV {F : Hp} : ∀ {ds : List D} {vs : List V} {i : Nat} {v : V}, AtL F ds vs → vs[i]? = some v → ∃ d, ds[i]? = some d ∧ At F d v
  | [], _, _, _, h, e => by unfold AtL at h; subst h; simp at e
  | d :: _, _, 0, _, h, e => by
    unfold AtL at h
    obtain ⟨v, r, rfl, a, _⟩ := h
    simp at e; subst e
    exact ⟨d, rfl, a⟩
  | _ :: _, _, i + 1, _, h, e => by
    unfold AtL at h
    obtain ⟨v, r, rfl, _, b⟩ := h
    obtain ⟨u, e1, a1⟩ := AtL.getV (i := i) b (by simpa using e)
    exact ⟨u, by simpa using e1, a1⟩
theorem AtL.app {F : Hp} : ∀ {ds es : List D} {vs us : List V}, AtL F ds vs → AtL F es us → AtL F (ds ++ es) (vs ++ us)
  | [], _, _, _, h, k => by unfold AtL at h; subst h; exact k
  | _ :: _, _, _, _, h, k => by
    unfold AtL at h
    obtain ⟨v, r, rfl, a, b⟩ := h
    exact AtL.cons a (AtL.app b k)
theorem AtL.take {F : Hp} : ∀ {ds : List D} {vs : List V} (n : Nat), AtL F ds vs → AtL F (ds.take n) (vs.take n)
  | [], _, _, h => by unfold AtL at h; subst h; simp [AtL.nil]
  | _ :: _, _, 0, _ => AtL.nil
  | _ :: _, _, n + 1, h => by
    unfold AtL at h
    obtain ⟨v, r, rfl, a, b⟩ := h
    exact AtL.cons a (AtL.take n b)
theorem AtL.drop {F : Hp} : ∀ {ds : List D} {vs : List V} (n : Nat), AtL F ds vs → AtL F (ds.drop n) (vs.drop n)
  | [], _, _, h => by unfold AtL at h; subst h; simp [AtL.nil]
  | _ :: _, _, 0, h => h
  | _ :: _, _, n + 1, h => by
    unfold AtL at h
    obtain ⟨v, r, rfl, a, b⟩ := h
    exact AtL.drop n b
theorem AtL.set {F : Hp} {d : D} {v : V} (hd : At F d v) : ∀ {ds : List D} {vs : List V} (n : Nat), AtL F ds vs → AtL F (ds.set n d) (vs.set n v)
  | [], _, _, h => by unfold AtL at h; subst h; exact AtL.nil
  | _ :: _, _, 0, h => by
    unfold AtL at h
    obtain ⟨_, r, rfl, _, b⟩ := h
    exact AtL.cons hd b
  | _ :: _, _, n + 1, h => by
    unfold AtL at h
    obtain ⟨_, r, rfl, a, b⟩ := h
    exact AtL.cons a (AtL.set hd n b)
theorem AtL.rev {F : Hp} : ∀ {ds : List D} {vs : List V}, AtL F ds vs → AtL F ds.reverse vs.reverse
  | [], _, h => by unfold AtL at h; subst h; exact AtL.nil
  | _ :: _, _, h => by
    unfold AtL at h
    obtain ⟨v, r, rfl, a, b⟩ := h
    simp only [List.reverse_cons]
    exact AtL.app (AtL.rev b) (AtL.cons a AtL.nil)
theorem AtL.split {F : Hp} : ∀ {ds es : List D} {us : List V}, AtL F (ds ++ es) us → ∃ vs ws, us = vs ++ ws ∧ AtL F ds vs ∧ AtL F es ws
  | [], _, us, h => ⟨[], us, rfl, AtL.nil, h⟩
  | _ :: _, _, _, h => by
    rw [List.cons_append] at h
    unfold AtL at h
    obtain ⟨v, r, rfl, a, b⟩ := h
    obtain ⟨vs, ws, rfl, k, l⟩ := AtL.split b
    exact ⟨v :: vs, ws, rfl, AtL.cons a k, l⟩

/-- items one by one, with what each owns -/
def RepL (R : D → V → List Addr → Prop) : List D → List V → List (List Addr) → Prop
  | [], vs, fs => vs = [] ∧ fs = []
  | d :: ds, vs, fs => ∃ v r f q, vs = v :: r ∧ fs = f :: q ∧ R d v f ∧ RepL R ds r q

/-- an owned value: its nodes fp stand in H alone, what is frozen in it stands in F -/
def Rep (F H : Hp) : Ty → D → V → List Addr → Prop
  | .z, d, v, fp => At F d v ∧ fp = []
  | .ls t, d, v, fp => ∃ ds p vs fs, d = .lst ds ∧ v = .ref p ∧ H p = some (.lst vs) ∧ RepL (Rep F H t) ds vs fs ∧ fp = p :: fs.flatten
  | .pot, d, v, fp => ∃ ns a b c p q, d = .pot ns a b c ∧ v = .ref p ∧ H p = some (.lst [.ref q, .int a, .int b, .int c]) ∧ H q = some (.lst (ns.map V.int)) ∧ fp = [p, q]

theorem RepL.imp {R R' : D → V → List Addr → Prop} : ∀ {ds : List D} {vs : List V} {fs : List (List Addr)}, RepL R ds vs fs → (∀ d v f, f ∈ fs → R d v f → R' d v f) → RepL R' ds vs fs
  | [], _, _, h, _ => h
  | _ :: _, _, _, h, k => by
    unfold RepL at h ⊢
    obtain ⟨v, r, f, q, e1, e2, a, b⟩ := h
    subst e2
    exact ⟨v, r, f, q, e1, rfl, k _ _ _ List.mem_cons_self a, RepL.imp b fun d v f' hf => k d v f' (List.mem_cons_of_mem _ hf)⟩

theorem Rep.frame {F F' : Hp} (g : Gro F F') {H H' : Hp} : ∀ {t : Ty} {d : D} {v : V} {fp : List Addr}, Rep F H t d v fp → (∀ a ∈ fp, H' a = H a) → Rep F' H' t d v fp
  | .z, _, _, _, h, _ => ⟨h.1.mono g, h.2⟩
  | .ls t, _, _, _, h, k => by
    obtain ⟨ds, p, vs, fs, rfl, rfl, hp, l, rfl⟩ := h
    refine ⟨ds, p, vs, fs, rfl, rfl, (k p List.mem_cons_self).trans hp, RepL.imp l fun d v f hf r => Rep.frame g r fun a ha => k a ?_, rfl⟩
    exact List.mem_cons_of_mem _ (List.mem_flatten.mpr ⟨f, hf, ha⟩)
  | .pot, _, _, _, h, k => by
    obtain ⟨ns, a, b, c, p, q, rfl, rfl, hp, hq, rfl⟩ := h
    exact ⟨ns, a, b, c, p, q, rfl, rfl, (k p (by simp)).trans hp, (k q (by simp)).trans hq, rfl⟩

/-- frozen items own nothing -/
theorem RepL.of_AtL {F H : Hp} : ∀ {ds : List D} {vs : List V}, AtL F ds vs → ∃ fs, RepL (Rep F H .z) ds vs fs ∧ fs.flatten = []
  | [], _, h => by unfold AtL at h; subst h; exact ⟨[], ⟨rfl, rfl⟩, rfl⟩
  | _ :: _, _, h => by
    unfold AtL at h
    obtain ⟨v, r, rfl, a, b⟩ := h
    obtain ⟨fs, k, e⟩ := RepL.of_AtL (H := H) b
    exact ⟨[] :: fs, ⟨v, r, [], fs, rfl, rfl, ⟨a, rfl⟩, k⟩, by simpa using e⟩
theorem RepL.to_AtL {F H : Hp} : ∀ {ds : List D} {vs : List V} {fs : List (List Addr)}, RepL (Rep F H .z) ds vs fs → AtL F ds vs ∧ fs.flatten = []
  | [], _, _, h => by obtain ⟨rfl, rfl⟩ := h; exact ⟨AtL.nil, rfl⟩
  | _ :: _, _, _, h => by
    unfold RepL at h
    obtain ⟨v, r, f, q, rfl, rfl, ⟨a, rfl⟩, b⟩ := h
    obtain ⟨k, e⟩ := RepL.to_AtL b
    exact ⟨AtL.cons a k, by simpa using e⟩
theorem Rep.lsz {F H : Hp} {ds : List D} {vs : List V} {p : Addr} (hp : H p = some (.lst vs)) (h : AtL F ds vs) : Rep F H (.ls .z) (.lst ds) (.ref p) [p] := by
  obtain ⟨fs, k, e⟩ := RepL.of_AtL (H := H) h
  exact ⟨ds, p, vs, fs, rfl, rfl, hp, k, by rw [e]⟩
theorem Rep.lsz_inv {F H : Hp} {d : D} {v : V} {fp : List Addr} (h : Rep F H (.ls .z) d v fp) : ∃ ds p vs, d = .lst ds ∧ v = .ref p ∧ H p = some (.lst vs) ∧ AtL F ds vs ∧ fp = [p] := by
  obtain ⟨ds, p, vs, fs, rfl, rfl, hp, l, rfl⟩ := h
  obtain ⟨k, e⟩ := RepL.to_AtL l
  exact ⟨ds, p, vs, rfl, rfl, hp, k, by rw [e]⟩

/-! ### freezing -/
def over (F H : Hp) (fp : List Addr) : Hp := fun a => if a ∈ fp then H a else F a
theorem over_in {F H : Hp} {fp : List Addr} {a : Addr} (h : a ∈ fp) : over F H fp a = H a := if_pos h
theorem over_out {F H : Hp} {fp : List Addr} {a : Addr} (h : a ∉ fp) : over F H fp a = F a := if_neg h
theorem Gro.over {F H : Hp} {fp : List Addr} (h : ∀ a ∈ fp, F a = none) : Gro F (over F H fp) := fun a u e => by
  rw [over_out fun m => by rw [h a m] at e; cases e]; exact e
/-- may this be frozen? (a law's pot may not) -/
def Ty.fz : Ty → Bool
  | .z => true
  | .ls t => t.fz
  | .pot => false
theorem Rep.freeze {F J H : Hp} (g : Gro F J) : ∀ {t : Ty} {d : D} {v : V} {fp : List Addr}, t.fz = true → Rep F H t d v fp → (∀ a ∈ fp, J a = H a) → At J d v
  | .z, _, _, _, _, h, _ => h.1.mono g
  | .ls t, _, _, _, z, h, k => by
    obtain ⟨ds, p, vs, fs, rfl, rfl, hp, l, rfl⟩ := h
    unfold At
    refine ⟨p, vs, rfl, (k p List.mem_cons_self).trans hp, ?_⟩
    have z' : t.fz = true := z
    have all : ∀ {ds : List D} {vs : List V} {fs : List (List Addr)}, RepL (Rep F H t) ds vs fs → (∀ f ∈ fs, ∀ a ∈ f, J a = H a) → AtL J ds vs := by
      intro ds
      induction ds with
      | nil => intro vs fs h _; obtain ⟨rfl, _⟩ := h; exact AtL.nil
      | cons d ds ih =>
        intro vs fs h k
        unfold RepL at h
        obtain ⟨v, r, f, q, rfl, rfl, a, b⟩ := h
        exact AtL.cons (Rep.freeze g z' a (k f List.mem_cons_self)) (ih b fun f' hf => k f' (List.mem_cons_of_mem _ hf))
    exact all l fun f hf a ha => k a (List.mem_cons_of_mem _ (List.mem_flatten.mpr ⟨f, hf, ha⟩))
  | .pot, _, _, _, z, _, _ => by cases z

/-! ### worlds -/
abbrev Rho := List (Option D)
def fsAt (fs : List (List Addr)) (i : Nat) : List Addr := fs.getD i []
theorem fsAt_mem {fs : List (List Addr)} {i : Nat} {a : Addr} (h : a ∈ fsAt fs i) : a ∈ fs.flatten := by
  unfold fsAt at h
  rw [List.getD_eq_getElem?_getD] at h
  cases e : fs[i]? with
  | none => rw [e] at h; simp at h
  | some f => rw [e] at h; exact List.mem_flatten.mpr ⟨f, List.mem_of_getElem? e, h⟩
theorem fsAt_set {fs : List (List Addr)} {i : Nat} {f : List Addr} (h : i < fs.length) : fsAt (fs.set i f) i = f := by
  unfold fsAt; rw [List.getD_eq_getElem?_getD, List.getElem?_set_self h]; rfl
theorem fsAt_set_ne {fs : List (List Addr)} {i j : Nat} {f : List Addr} (h : j ≠ i) : fsAt (fs.set i f) j = fsAt fs j := by
  unfold fsAt; rw [List.getD_eq_getElem?_getD, List.getD_eq_getElem?_getD, List.getElem?_set_ne (Ne.symm h)]
theorem perm_set : ∀ {fs : List (List Addr)} {i : Nat} {f : List Addr}, i < fs.length → (fs.set i f).flatten.Perm (f ++ (fs.set i []).flatten)
  | [], _, _, h => by simp at h
  | x :: r, 0, f, _ => by simp
  | x :: r, i + 1, f, h => by
    simp only [List.set_cons_succ, List.flatten_cons]
    have ih := perm_set (fs := r) (i := i) (f := f) (by simpa using h)
    refine (List.Perm.append_left x ih).trans ?_
    rw [← List.append_assoc, ← List.append_assoc]
    exact List.Perm.append_right _ List.perm_append_comm
theorem perm_at {fs : List (List Addr)} {i : Nat} (h : i < fs.length) : fs.flatten.Perm (fsAt fs i ++ (fs.set i []).flatten) := by
  have e : fs.set i (fsAt fs i) = fs := by
    unfold fsAt
    rw [List.getD_eq_getElem?_getD, List.getElem?_eq_getElem h]
    simp
  have q := perm_set (f := fsAt fs i) h
  rw [e] at q
  exact q

/-- a dict (a loop may have locked it) -/
def isD : HO → Bool
  | .dK _ => true
  | .dT _ => true
  | _ => false
/-- it stands there (a dict, perhaps locked) -/
def Ro (L : List Addr) (H : Hp) (a : Addr) (u : HO) : Prop := H a = some u ∨ (a ∈ L ∧ isD u = true ∧ ∃ o, H a = some (.frz o u))
theorem Ro.rd {L : List Addr} {H : Hp} {a : Addr} {u : HO} (r : Ro L H a u) : Rd H a u := by
  rcases r with r | ⟨_, _, r⟩
  · exact .inl r
  · exact .inr r
theorem Ro.is {L : List Addr} {H : Hp} {a : Addr} {u : HO} (r : Ro L H a u) (n : isD u = false := by rfl) : H a = some u := by
  rcases r with r | ⟨_, e, _⟩
  · exact r
  · rw [n] at e; cases e
/-- a world: slots of types Γ hold the values ρ; fs: what each slot owns; g: what others own -/
structure Wd (L : List Addr) (Γ : List Ty) (F H : Hp) (σ : L2.St) (ρ : Rho) (fs : List (List Addr)) (g : List Addr) : Prop where
  lf : fs.length = Γ.length
  lr : ρ.length = Γ.length
  ls : σ.length = Γ.length
  le : ∀ a u, F a = some u → Ro L H a u
  nd : (fs.flatten ++ g).Nodup
  out : ∀ a ∈ fs.flatten ++ g, F a = none ∧ H a ≠ none
  sl : ∀ i t d, Γ[i]? = some t → ρ[i]? = some (some d) → ∃ v, σ[i]? = some (some v) ∧ Rep F H t d v (fsAt fs i)

/-- from a world to a later one: the frozen grows, what others own and the slots out of T own stays -/
structure Step (T : List Nat) (F H : Hp) (ρ : Rho) (fs : List (List Addr)) (g : List Addr) (F' H' : Hp) (ρ' : Rho) (fs' : List (List Addr)) : Prop where
  gro : Gro F F'
  fr : ∀ a ∈ g, H' a = H a
  sl : ∀ i, i ∉ T → fsAt fs' i = fsAt fs i ∧ ρ'[i]? = ρ[i]? ∧ ∀ a ∈ fsAt fs i, H' a = H a
section
variable {L : List Addr} {Γ : List Ty} {F H F1 H1 F2 H2 : Hp} {σ : L2.St} {ρ ρ1 ρ2 : Rho} {fs fs1 fs2 : List (List Addr)} {g g' : List Addr} {T T1 T2 : List Nat} {t : Ty} {d : D} {v : V} {fp : List Addr}
theorem Step.rfl : Step T F H ρ fs g F H ρ fs := ⟨Gro.rfl, fun _ _ => Eq.refl _, fun _ _ => ⟨Eq.refl _, Eq.refl _, fun _ _ => Eq.refl _⟩⟩
theorem Step.trans (a : Step T1 F H ρ fs g F1 H1 ρ1 fs1) (b : Step T2 F1 H1 ρ1 fs1 g F2 H2 ρ2 fs2) : Step (T1 ++ T2) F H ρ fs g F2 H2 ρ2 fs2 := by
  refine ⟨a.gro.trans b.gro, fun x hx => (b.fr x hx).trans (a.fr x hx), fun i hi => ?_⟩
  have h1 : i ∉ T1 := fun h => hi (List.mem_append_left _ h)
  have h2 : i ∉ T2 := fun h => hi (List.mem_append_right _ h)
  obtain ⟨e1, r1, k1⟩ := a.sl i h1
  obtain ⟨e2, r2, k2⟩ := b.sl i h2
  exact ⟨e2.trans e1, r2.trans r1, fun x hx => (k2 x (by rw [e1]; exact hx)).trans (k1 x hx)⟩
theorem Step.sub (a : Step T F H ρ fs g F1 H1 ρ1 fs1) (h : ∀ x ∈ g', x ∈ g) : Step T F H ρ fs g' F1 H1 ρ1 fs1 := ⟨a.gro, fun x hx => a.fr x (h x hx), a.sl⟩
theorem Step.wide (a : Step T F H ρ fs g F1 H1 ρ1 fs1) (h : ∀ i ∈ T, i ∈ T2) : Step T2 F H ρ fs g F1 H1 ρ1 fs1 := ⟨a.gro, a.fr, fun i hi => a.sl i fun z => hi (h i z)⟩
/-- forget what a temporary owns -/
theorem Wd.drop (w : Wd L Γ F H σ ρ fs (fp ++ g)) : Wd L Γ F H σ ρ fs g := by
  refine ⟨w.lf, w.lr, w.ls, w.le, ?_, fun a ha => w.out a ?_, w.sl⟩
  · have h := w.nd
    rw [List.nodup_append] at h ⊢
    obtain ⟨h1, h2, h3⟩ := h
    rw [List.nodup_append] at h2
    exact ⟨h1, h2.2.1, fun a ha b hb => h3 a ha b (List.mem_append_right _ hb)⟩
  · rcases List.mem_append.mp ha with h | h
    · exact List.mem_append_left _ h
    · exact List.mem_append_right _ (List.mem_append_right _ h)
theorem Wd.perm (w : Wd L Γ F H σ ρ fs g) (p : g.Perm g') : Wd L Γ F H σ ρ fs g' := by
  refine ⟨w.lf, w.lr, w.ls, w.le, ((List.Perm.append_left _ p).nodup_iff).mp w.nd, fun a ha => w.out a ?_, w.sl⟩
  exact ((List.Perm.append_left _ p).mem_iff).mpr ha
theorem Wd.fnone (w : Wd L Γ F H σ ρ fs g) {p : Addr} (h : H p = none) : F p = none := by
  cases e : F p with
  | none => rfl
  | some u =>
    rcases w.le p u e with q | ⟨_, _, o, q⟩
    · rw [h] at q; cases q
    · rw [h] at q; cases q
theorem Wd.new (w : Wd L Γ F H σ ρ fs g) {p : Addr} (h : H p = none) : p ∉ fs.flatten ++ g := fun m => (w.out p m).2 h
/-- a slot's value -/
theorem Wd.at (w : Wd L Γ F H σ ρ fs g) {i : Nat} (ht : Γ[i]? = some t) (hd : ρ[i]? = some (some d)) : ∃ v, σ[i]? = some (some v) ∧ Rep F H t d v (fsAt fs i) := w.sl i t d ht hd
/-- a new object that is frozen at once -/
theorem Wd.allocZ (w : Wd L Γ F H σ ρ fs g) {p : Addr} (h : H p = none) (o : HO) : Wd L Γ (upd F p o) (upd H p o) σ ρ fs g := by
  have fn := w.fnone h
  have ne : ∀ a ∈ fs.flatten ++ g, a ≠ p := fun a ha e => w.new h (e ▸ ha)
  refine ⟨w.lf, w.lr, w.ls, fun a u e => ?_, w.nd, fun a ha => ?_, fun i t d ht hd => ?_⟩
  · by_cases ha : a = p
    · subst ha
      rw [upd_same] at e
      cases e
      exact .inl upd_same
    · rw [upd_ne ha] at e
      rcases w.le a u e with q | ⟨hl, hd, o', q⟩
      · exact .inl (by rw [upd_ne ha]; exact q)
      · exact .inr ⟨hl, hd, o', by rw [upd_ne ha]; exact q⟩
  · rw [upd_ne (ne a ha), upd_ne (ne a ha)]
    exact w.out a ha
  · obtain ⟨v, e, r⟩ := w.sl i t d ht hd
    exact ⟨v, e, r.frame (Gro.upd fn) fun a ha => upd_ne (ne a (List.mem_append_left _ (fsAt_mem ha)))⟩
theorem Wd.stepZ (w : Wd L Γ F H σ ρ fs g) {p : Addr} (h : H p = none) (o : HO) : Step T F H ρ fs g (upd F p o) (upd H p o) ρ fs := by
  have ne : ∀ a ∈ fs.flatten ++ g, a ≠ p := fun a ha e => w.new h (e ▸ ha)
  exact ⟨Gro.upd (w.fnone h), fun a ha => upd_ne (ne a (List.mem_append_right _ ha)), fun i _ => ⟨Eq.refl _, Eq.refl _, fun a ha => upd_ne (ne a (List.mem_append_left _ (fsAt_mem ha)))⟩⟩
/-- a new object that is owned -/
theorem Wd.allocO (w : Wd L Γ F H σ ρ fs g) {p : Addr} (h : H p = none) (o : HO) : Wd L Γ F (upd H p o) σ ρ fs (p :: g) := by
  have fn := w.fnone h
  have ne : ∀ a ∈ fs.flatten ++ g, a ≠ p := fun a ha e => w.new h (e ▸ ha)
  refine ⟨w.lf, w.lr, w.ls, fun a u e => ?_, ?_, fun a ha => ?_, fun i t d ht hd => ?_⟩
  · have ha : a ≠ p := ne_of_none e fn
    rcases w.le a u e with q | ⟨hl, hd, o', q⟩
    · exact .inl (by rw [upd_ne ha]; exact q)
    · exact .inr ⟨hl, hd, o', by rw [upd_ne ha]; exact q⟩
  · refine (List.perm_middle.nodup_iff).mpr (List.nodup_cons.mpr ⟨w.new h, w.nd⟩)
  · rcases List.mem_append.mp ha with m | m
    · have q := ne a (List.mem_append_left _ m)
      rw [upd_ne q]
      exact w.out a (List.mem_append_left _ m)
    · rcases List.mem_cons.mp m with rfl | m
      · exact ⟨fn, by rw [upd_same]; simp⟩
      · have q := ne a (List.mem_append_right _ m)
        rw [upd_ne q]
        exact w.out a (List.mem_append_right _ m)
  · obtain ⟨v, e, r⟩ := w.sl i t d ht hd
    exact ⟨v, e, r.frame Gro.rfl fun a ha => upd_ne (ne a (List.mem_append_left _ (fsAt_mem ha)))⟩
theorem Wd.stepO (w : Wd L Γ F H σ ρ fs g) {p : Addr} (h : H p = none) (o : HO) : Step T F H ρ fs g F (upd H p o) ρ fs := by
  have ne : ∀ a ∈ fs.flatten ++ g, a ≠ p := fun a ha e => w.new h (e ▸ ha)
  exact ⟨Gro.rfl, fun a ha => upd_ne (ne a (List.mem_append_right _ ha)), fun i _ => ⟨Eq.refl _, Eq.refl _, fun a ha => upd_ne (ne a (List.mem_append_left _ (fsAt_mem ha)))⟩⟩
/-- a temporary's nodes become frozen -/
theorem Wd.freeze (w : Wd L Γ F H σ ρ fs (fp ++ g)) : Wd L Γ (over F H fp) H σ ρ fs g := by
  have hn : ∀ a ∈ fp, F a = none := fun a ha => (w.out a (List.mem_append_right _ (List.mem_append_left _ ha))).1
  have dj : ∀ a ∈ fs.flatten ++ g, a ∉ fp := by
    have h := w.nd
    rw [List.nodup_append] at h
    obtain ⟨_, h2, h3⟩ := h
    rw [List.nodup_append] at h2
    intro a ha m
    rcases List.mem_append.mp ha with q | q
    · exact h3 a q a (List.mem_append_left _ m) rfl
    · exact h2.2.2 a m a q rfl
  refine ⟨w.lf, w.lr, w.ls, fun a u e => ?_, w.drop.nd, fun a ha => ?_, fun i t d ht hd => ?_⟩
  · by_cases m : a ∈ fp
    · rw [over_in m] at e; exact .inl e
    · rw [over_out m] at e; exact w.le a u e
  · rw [over_out (dj a ha)]
    exact w.drop.out a ha
  · obtain ⟨v, e, r⟩ := w.sl i t d ht hd
    exact ⟨v, e, r.frame (Gro.over hn) fun _ _ => rfl⟩
theorem Wd.gro_freeze (w : Wd L Γ F H σ ρ fs (fp ++ g)) : Gro F (over F H fp) := Gro.over fun a ha => (w.out a (List.mem_append_right _ (List.mem_append_left _ ha))).1
theorem Wd.stepF (w : Wd L Γ F H σ ρ fs (fp ++ g)) : Step T F H ρ fs g (over F H fp) H ρ fs := ⟨w.gro_freeze, fun _ _ => rfl, fun _ _ => ⟨rfl, rfl, fun _ _ => rfl⟩⟩
/-- a temporary goes into a slot -/
theorem Wd.put (w : Wd L Γ F H σ ρ fs (fp ++ g)) {i : Nat} (ht : Γ[i]? = some t) (r : Rep F H t d v fp) : Wd L Γ F H (σ.set i (some v)) (ρ.set i (some d)) (fs.set i fp) g := by
  have hi : i < Γ.length := (List.getElem?_eq_some_iff.mp ht).1
  have hif : i < fs.length := by rw [w.lf]; exact hi
  have hir : i < ρ.length := by rw [w.lr]; exact hi
  have his : i < σ.length := by rw [w.ls]; exact hi
  have pm := perm_set (f := fp) hif
  have pa := perm_at hif
  have nd0 : ((fs.set i []).flatten ++ (fp ++ g)).Nodup := by
    have h := (List.Perm.append_right (fp ++ g) pa).nodup_iff.mp w.nd
    rw [List.append_assoc] at h
    exact (List.nodup_append.mp h).2.1
  have mem0 : ∀ a, a ∈ (fs.set i []).flatten → a ∈ fs.flatten := fun a ha => pa.mem_iff.mpr (List.mem_append_right _ ha)
  refine ⟨by rw [List.length_set]; exact w.lf, by rw [List.length_set]; exact w.lr, by rw [List.length_set]; exact w.ls, w.le, ?_, fun a ha => ?_, fun j u e hj he => ?_⟩
  · refine (List.Perm.append_right g pm).nodup_iff.mpr ?_
    rw [List.append_assoc]
    refine (List.perm_append_comm (l₁ := fp) (l₂ := (fs.set i []).flatten ++ g)).nodup_iff.mpr ?_
    rw [List.append_assoc]
    exact (List.Perm.append_left _ List.perm_append_comm).nodup_iff.mpr nd0
  · refine w.out a ?_
    rcases List.mem_append.mp ha with m | m
    · rcases List.mem_append.mp (pm.mem_iff.mp m) with q | q
      · exact List.mem_append_right _ (List.mem_append_left _ q)
      · exact List.mem_append_left _ (mem0 a q)
    · exact List.mem_append_right _ (List.mem_append_right _ m)
  · by_cases hji : j = i
    · subst hji
      rw [List.getElem?_set_self hir] at he
      cases he
      rw [ht] at hj
      cases hj
      rw [List.getElem?_set_self his, fsAt_set hif]
      exact ⟨v, rfl, r⟩
    · rw [List.getElem?_set_ne (Ne.symm hji)] at he
      rw [List.getElem?_set_ne (Ne.symm hji), fsAt_set_ne hji]
      exact w.sl j u e hj he
/-- a slot's value becomes a temporary -/
theorem Wd.take (w : Wd L Γ F H σ ρ fs g) {i : Nat} (hi : i < Γ.length) : Wd L Γ F H σ (ρ.set i none) (fs.set i []) (fsAt fs i ++ g) := by
  have hif : i < fs.length := by rw [w.lf]; exact hi
  have hir : i < ρ.length := by rw [w.lr]; exact hi
  have pa := perm_at hif
  refine ⟨by rw [List.length_set]; exact w.lf, by rw [List.length_set]; exact w.lr, w.ls, w.le, ?_, fun a ha => ?_, fun j u e hj he => ?_⟩
  · have h := (List.Perm.append_right g pa).nodup_iff.mp w.nd
    rw [List.append_assoc] at h
    have h2 := (List.perm_append_comm (l₁ := fsAt fs i) (l₂ := (fs.set i []).flatten ++ g)).nodup_iff.mp h
    rw [List.append_assoc] at h2
    exact (List.Perm.append_left _ List.perm_append_comm).nodup_iff.mp h2
  · refine w.out a ?_
    rcases List.mem_append.mp ha with m | m
    · exact List.mem_append_left _ (pa.mem_iff.mpr (List.mem_append_right _ m))
    · rcases List.mem_append.mp m with q | q
      · exact List.mem_append_left _ (fsAt_mem q)
      · exact List.mem_append_right _ q
  · by_cases hji : j = i
    · subst hji
      rw [List.getElem?_set_self hir] at he
      cases he
    · rw [List.getElem?_set_ne (Ne.symm hji)] at he
      rw [fsAt_set_ne hji]
      exact w.sl j u e hj he
end
end Vo

set_option maxHeartbeats 4000000
/-! Values with owners, 2: readings over plain values: expressions, tests, statements. -/
namespace Vo
open PySem PySem.Spec PyProof.Rows L2

/-- an error that leaves: its class, its fields by name -/
structure Exn where
  cls : Str
  fs : List Str
  vs : List D
/-- where the classes stand -/
abbrev CAd := Str → Addr
/-- an error as it lies: cls its class, dd its own dict -/
def XR (CA : CAd) (F H : Hp) (x : Exn) (cls : Value) (dd : Option Addr) : Prop :=
  cls = .ref (CA x.cls) ∧ ((x.fs = [] ∧ x.vs = [] ∧ dd = none) ∨ ∃ p vs, dd = some p ∧ H p = some (.xd (x.fs.zip vs)) ∧ AtL F x.vs vs)

abbrev XD := Exn → Rho → Prop
abbrev DE := XD → Rho → (D → Rho → Prop) → Prop
abbrev DB := XD → Rho → (Bool → Rho → Prop) → Prop
abbrev DL := XD → Rho → (List D → Rho → Prop) → Prop
structure DEnds where
  nx : Rho → Prop
  rt : D → Rho → Prop
  bk : Rho → Prop := fun _ => False
  ct : Rho → Prop := fun _ => False
abbrev DS := XD → DEnds → Rho → Prop

/-- what a def's proof keeps through: the frame's types, where classes stand, the wish of errors -/
structure Cf where
  Γ : List Ty
  CA : CAd
  W : WX

/-- a temporary's own nodes (a borrowed value's are its slot's) -/
def own (k : Option Nat) (fp : List Addr) : List Addr := match k with
  | none => fp
  | some _ => []

/-- what an error asks -/
def XOk (C : Cf) (T : List Nat) (Xd : XD) (L : List Addr) (F H : Hp) (σ : L2.St) (ρ : Rho) (fs : List (List Addr)) (g : List Addr) : Prop :=
  ∀ x ρ' F' H' fs' cls dd, Step T F H ρ fs g F' H' ρ' fs' → Wd L C.Γ F' H' σ ρ' fs' g → XR C.CA F' H' x cls dd → Xd x ρ' → C.W cls dd σ H'

def tD (C : Cf) (we : DE) (t : Ty) (k : Option Nat) (T : List Nat) : TE := fun σ H Q =>
  ∃ L F ρ fs g Qd Xd, Wd L C.Γ F H σ ρ fs g ∧ we Xd ρ Qd ∧ XOk C T Xd L F H σ ρ fs g ∧
    ∀ d v ρ' F' H' fs' fp, Step T F H ρ fs g F' H' ρ' fs' → Wd L C.Γ F' H' σ ρ' fs' (own k fp ++ g) → Rep F' H' t d v fp → (∀ i, k = some i → ∀ a ∈ fp, a ∈ fsAt fs' i) → Qd d ρ' → Q v H'
def tB (C : Cf) (wb : DB) (T : List Nat) : TT := fun σ H Q =>
  ∃ L F ρ fs g Qd Xd, Wd L C.Γ F H σ ρ fs g ∧ wb Xd ρ Qd ∧ XOk C T Xd L F H σ ρ fs g ∧
    ∀ b ρ' F' H' fs', Step T F H ρ fs g F' H' ρ' fs' → Wd L C.Γ F' H' σ ρ' fs' g → Qd b ρ' → Q b H'

section
variable {X : Cx}
theorem PE.imp {e : Expr} {t u : TE} (h : PE X e t) (k : ∀ σ H Q, u σ H Q → t σ H Q) : PE X e u := ⟨fun pins s σ H Q I q => h.run pins s σ H Q I (k σ H Q q)⟩
theorem PT.imp {e : Expr} {t u : TT} (h : PT X e t) (k : ∀ σ H Q, u σ H Q → t σ H Q) : PT X e u := ⟨fun pins s σ H Q I q => h.run pins s σ H Q I (k σ H Q q)⟩
theorem PW.imp {e : Expr} {t u : TT} (h : PW X e t) (k : ∀ σ H Q, u σ H Q → t σ H Q) : PW X e u := ⟨fun w pins s σ H Q I q => h.run w pins s σ H Q I (k σ H Q q)⟩
theorem PS.imp {e : Stmt} {t u : TS} (h : PS X e t) (k : ∀ D σ H, u D σ H → t D σ H) : PS X e u := ⟨fun pins s σ H D I q => h.run pins s σ H D I (k D σ H q)⟩
theorem PSs.imp {e : List Stmt} {t u : TS} (h : PSs X e t) (k : ∀ D σ H, u D σ H → t D σ H) : PSs X e u := ⟨fun pins s σ H D I q => h.run pins s σ H D I (k D σ H q)⟩
theorem PA.imp {es : List Expr} {t u : TA} (h : PA X es t) (k : ∀ σ H Q, u σ H Q → t σ H Q) : PA X es u := ⟨fun pos pins s σ H Q I q => h.run pos pins s σ H Q I (k σ H Q q)⟩
end

/-! ### plain readings -/
def slot : Rho → Nat → Option D
  | [], _ => none
  | o :: _, 0 => o
  | _ :: r, i + 1 => slot r i
theorem slot_some : ∀ {ρ : Rho} {i : Nat} {d : D}, slot ρ i = some d → ρ[i]? = some (some d)
  | [], _, _, h => by simp [slot] at h
  | _ :: _, 0, _, h => by simp only [slot] at h; simp [h]
  | _ :: r, i + 1, _, h => by simp only [slot] at h; simpa using slot_some h
def put : Rho → Nat → Option D → Rho
  | [], _, _ => []
  | _ :: r, 0, d => d :: r
  | o :: r, i + 1, d => o :: put r i d
theorem put_eq : ∀ {ρ : Rho} {i : Nat} {d : Option D}, put ρ i d = ρ.set i d
  | [], _, _ => rfl
  | _ :: _, 0, _ => rfl
  | _ :: r, i + 1, d => by simp only [put, List.set_cons_succ]; rw [put_eq]

def wC (d : D) : DE := fun _ ρ Q => Q d ρ
def wV (i : Nat) : DE := fun _ ρ Q => match slot ρ i with
  | some d => Q d ρ
  | none => False
def wM (i : Nat) : DE := fun _ ρ Q => match slot ρ i with
  | some d => Q d (put ρ i none)
  | none => False
def w1 (f : D → (D → Prop) → Prop) (wa : DE) : DE := fun X ρ Q => wa X ρ fun a ρ1 => f a fun d => Q d ρ1
def w2 (f : D → D → (D → Prop) → Prop) (wa wb : DE) : DE := fun X ρ Q => wa X ρ fun a ρ1 => wb X ρ1 fun b ρ2 => f a b fun d => Q d ρ2
def wIs (wa : DE) : DB := fun X ρ Q => wa X ρ fun a ρ1 => match a with
  | .bl b => Q b ρ1
  | _ => False
def wAndB (wa wb : DB) : DB := fun X ρ Q => wa X ρ fun b ρ1 => if b = true then wb X ρ1 Q else Q false ρ1
def wOrB (wa wb : DB) : DB := fun X ρ Q => wa X ρ fun b ρ1 => if b = true then Q true ρ1 else wb X ρ1 Q
def wNotB (wa : DB) : DB := fun X ρ Q => wa X ρ fun b ρ1 => Q (!b) ρ1
def wAnd (wa wb : DE) : DE := fun X ρ Q => wa X ρ fun a ρ1 => match a with
  | .bl b => if b = true then wb X ρ1 Q else Q (.bl false) ρ1
  | _ => False
def wOr (wa wb : DE) : DE := fun X ρ Q => wa X ρ fun a ρ1 => match a with
  | .bl b => if b = true then Q (.bl true) ρ1 else wb X ρ1 Q
  | _ => False
def wNot (wa : DE) : DE := fun X ρ Q => wa X ρ fun a ρ1 => match a with
  | .bl b => Q (.bl (!b)) ρ1
  | _ => False
def wIf (wc : DB) (wa wb : DE) : DE := fun X ρ Q => wc X ρ fun b ρ1 => if b = true then wa X ρ1 Q else wb X ρ1 Q

/-! ### frames and temporaries -/
section
variable {C : Cf} {σ : L2.St} {H : Hp} {Q : VK} {ta tb t : Ty} {ka kb k : Option Nat} {Ta Tb T : List Nat} {wa wb : DE}
/-- what stands behind an operand that is evaluated -/
theorem XOk.sub {Xd : XD} {L : List Addr} {F : Hp} {ρ : Rho} {fs : List (List Addr)} {g : List Addr} (x : XOk C T Xd L F H σ ρ fs g) (h : ∀ i ∈ Ta, i ∈ T) : XOk C Ta Xd L F H σ ρ fs g :=
  fun x' ρ' F' H' fs' cls dd st wd => x x' ρ' F' H' fs' cls dd (st.wide h) wd
theorem XOk.next {Xd : XD} {L : List Addr} {F F1 H1 : Hp} {ρ ρ1 : Rho} {fs fs1 : List (List Addr)} {g g1 : List Addr} (x : XOk C (Ta ++ Tb) Xd L F H σ ρ fs g) (s : Step Ta F H ρ fs g F1 H1 ρ1 fs1) (hg : ∀ a ∈ g, a ∈ g1)
    (hd : ∀ {F' H' : Hp} {ρ' : Rho} {fs' : List (List Addr)}, Wd L C.Γ F' H' σ ρ' fs' g1 → Wd L C.Γ F' H' σ ρ' fs' g) : XOk C Tb Xd L F1 H1 σ ρ1 fs1 g1 :=
  fun x' ρ' F' H' fs' cls dd st wd => x x' ρ' F' H' fs' cls dd (s.trans (st.sub hg)) (hd wd)
/-- an operand's nodes stay while what does not touch them runs -/
theorem keep_op {F1 H1 F2 H2 : Hp} {ρ1 ρ2 : Rho} {fs1 fs2 : List (List Addr)} {g : List Addr} {fp : List Addr} {d : D} {v : V} (s : Step T F1 H1 ρ1 fs1 (own k fp ++ g) F2 H2 ρ2 fs2) (hk : ∀ i, k = some i → i ∉ T) (hb : ∀ i, k = some i → ∀ a ∈ fp, a ∈ fsAt fs1 i)
    (r : Rep F1 H1 t d v fp) : Rep F2 H2 t d v fp ∧ ∀ i, k = some i → ∀ a ∈ fp, a ∈ fsAt fs2 i := by
  cases k with
  | none => exact ⟨r.frame s.gro fun a ha => s.fr a (List.mem_append_left _ ha), fun i e => by cases e⟩
  | some i =>
    obtain ⟨e, _, q⟩ := s.sl i (hk i rfl)
    exact ⟨r.frame s.gro fun a ha => q a (hb i rfl a ha), fun j ej a ha => by cases ej; rw [e]; exact hb i rfl a ha⟩

/-- what an operation of one operand must show -/
def Op1 (C : Cf) (ta : Ty) (ka : Option Nat) (t : Ty) (k : Option Nat) (f : D → (D → Prop) → Prop) (r : V → Hp → VK → Prop) : Prop :=
  ∀ (L : List Addr) (F H : Hp) (σ : L2.St) (ρ : Rho) (fs : List (List Addr)) (g : List Addr) (d : D) (v : V) (fp : List Addr) (Qo : D → Prop) (Q : VK), Wd L C.Γ F H σ ρ fs (own ka fp ++ g) → Rep F H ta d v fp → (∀ i, ka = some i → ∀ a ∈ fp, a ∈ fsAt fs i) → f d Qo →
    (∀ d' v' F' H' fp', Step [] F H ρ fs g F' H' ρ fs → Wd L C.Γ F' H' σ ρ fs (own k fp' ++ g) → Rep F' H' t d' v' fp' → (∀ i, k = some i → ∀ a ∈ fp', a ∈ fsAt fs i) → Qo d' → Q v' H') → r v H Q
def Op2 (C : Cf) (ta tb : Ty) (ka kb : Option Nat) (t : Ty) (k : Option Nat) (f : D → D → (D → Prop) → Prop) (r : R2) : Prop :=
  ∀ (L : List Addr) (F H : Hp) (σ : L2.St) (ρ : Rho) (fs : List (List Addr)) (g : List Addr) (d e : D) (v u : V) (fp fq : List Addr) (Qo : D → Prop) (Q : VK), Wd L C.Γ F H σ ρ fs (own kb fq ++ (own ka fp ++ g)) → Rep F H ta d v fp → Rep F H tb e u fq → (∀ i, ka = some i → ∀ a ∈ fp, a ∈ fsAt fs i) → f d e Qo →
    (∀ d' v' F' H' fp', Step [] F H ρ fs g F' H' ρ fs → Wd L C.Γ F' H' σ ρ fs (own k fp' ++ g) → Rep F' H' t d' v' fp' → (∀ i, k = some i → ∀ a ∈ fp', a ∈ fsAt fs i) → Qo d' → Q v' H') → r v u H Q

theorem red1 {f : D → (D → Prop) → Prop} {r : V → Hp → VK → Prop} (ho : Op1 C ta ka t k f r) : tD C (w1 f wa) t k Ta σ H Q → tD C wa ta ka Ta σ H fun v H1 => r v H1 Q := by
  rintro ⟨L, F, ρ, fs, g, Qd, Xd, wd, h, xo, q⟩
  refine ⟨L, F, ρ, fs, g, _, Xd, wd, h, xo, fun d v ρ1 F1 H1 fs1 fp s1 wd1 r1 b1 h1 => ?_⟩
  refine ho L F1 H1 σ ρ1 fs1 g d v fp _ Q wd1 r1 b1 h1 fun d' v' F' H' fp' s' wd' r' b' h' => ?_
  exact q d' v' ρ1 F' H' fs1 fp' ((s1.trans s').wide (by simp)) wd' r' b' h'
theorem red2 {f : D → D → (D → Prop) → Prop} {r : R2} (ho : Op2 C ta tb ka kb t k f r) (hk : ∀ i, ka = some i → i ∉ Tb) :
    tD C (w2 f wa wb) t k (Ta ++ Tb) σ H Q → tD C wa ta ka Ta σ H fun v H1 => tD C wb tb kb Tb σ H1 fun u H2 => r v u H2 Q := by
  rintro ⟨L, F, ρ, fs, g, Qd, Xd, wd, h, xo, q⟩
  refine ⟨L, F, ρ, fs, g, _, Xd, wd, h, xo.sub (fun i hi => List.mem_append_left _ hi), fun d v ρ1 F1 H1 fs1 fp s1 wd1 r1 b1 h1 => ?_⟩
  refine ⟨L, F1, ρ1, fs1, own ka fp ++ g, _, Xd, wd1, h1, xo.next s1 (fun a ha => List.mem_append_right _ ha) (fun w => w.drop), fun e u ρ2 F2 H2 fs2 fq s2 wd2 r2 b2 h2 => ?_⟩
  obtain ⟨r1', b1'⟩ := keep_op s2 hk b1 r1
  have s12 := s1.trans (s2.sub fun a ha => List.mem_append_right _ ha)
  refine ho L F2 H2 σ ρ2 fs2 g d e v u fp fq _ Q wd2 r1' r2 b1' h2 fun d' v' F' H' fp' s' wd' r' b' h' => ?_
  exact q d' v' ρ2 F' H' fs2 fp' ((s12.trans s').wide (by simp)) wd' r' b' h'
end

/-! ### names and constants -/
section
variable {X : Cx} {C : Cf} {pos : Pos}
theorem Wd.drop_own {L : List Addr} {Γ : List Ty} {F H : Hp} {σ : L2.St} {ρ : Rho} {fs : List (List Addr)} {g fp : List Addr} {k : Option Nat} (w : Wd L Γ F H σ ρ fs (own k fp ++ g)) : Wd L Γ F H σ ρ fs g := w.drop
/-- a scalar's value -/
theorem red_c {d : D} {v : V} (hv : ∀ F, At F d v) {σ : L2.St} {H : Hp} {Q : VK} (h : tD C (wC d) .z none [] σ H Q) : Q v H := by
  obtain ⟨L, F, ρ, fs, g, Qd, Xd, wd, h, xo, q⟩ := h
  exact q d v ρ F H fs [] Step.rfl wd ⟨hv F, rfl⟩ (fun i e => by cases e) h
theorem at_int {F : Hp} {i : Int} : At F (.int i) (.int i) := by unfold At; rfl
theorem at_str {F : Hp} {i : Str} : At F (.str i) (.str i) := by unfold At; rfl
theorem at_bl {F : Hp} {i : Bool} : At F (.bl i) (.bl i) := by unfold At; rfl
theorem at_non {F : Hp} : At F .non .non := by unfold At; rfl
theorem de_int {i : Int} {j} : PE X (.Constant (.int i) j pos) (tD C (wC (.int i)) .z none []) := PE.imp pe_int fun _ _ _ h => red_c (fun _ => at_int) h
theorem de_bl {b : Bool} {j} : PE X (.Constant (.bool b) j pos) (tD C (wC (.bl b)) .z none []) := PE.imp pe_bl fun _ _ _ h => red_c (fun _ => at_bl) h
theorem de_non {j} : PE X (.Constant .none j pos) (tD C (wC .non) .z none []) := PE.imp pe_non fun _ _ _ h => red_c (fun _ => at_non) h
theorem de_str {x : Str} {j} : PE X (.Constant (.str x) j pos) (tD C (wC (.str x)) .z none []) := PE.imp pe_str fun _ _ _ h => red_c (fun _ => at_str) h
/-- a module's constant -/
theorem de_gint {x : Str} {i : Int} (hm : ∃ t, X.mg x = some (.int i t)) (hg : Gl X x := by rfl) (hd : (x == ("__debug__" : Str)) = false := by decide) : PE X (.Name x pos) (tD C (wC (.int i)) .z none []) := by
  obtain ⟨t, e⟩ := hm
  exact PE.imp (pe_glob (v := .int i) hg e ⟨t, rfl⟩ hd) fun _ _ _ h => red_c (fun _ => at_int) h
theorem de_gstr {x z : Str} (hm : ∃ t, X.mg x = some (.str z t)) (hg : Gl X x := by rfl) (hd : (x == ("__debug__" : Str)) = false := by decide) : PE X (.Name x pos) (tD C (wC (.str z)) .z none []) := by
  obtain ⟨t, e⟩ := hm
  exact PE.imp (pe_glob (v := .str z) hg e ⟨t, rfl⟩ hd) fun _ _ _ h => red_c (fun _ => at_str) h
/-- a slot that is frozen -/
theorem de_v (i : Nat) {x : Str} (ht : C.Γ[i]? = some .z := by rfl) (hN : X.N[i]? = some x := by rfl) (hv : Vis X.env.scope x := by first | exact .inl rfl | exact .inr (.inl rfl) | exact .inr (.inr rfl)) (hd : (x == ("__debug__" : Str)) = false := by decide) (hcd : (x == ("__classdict__" : Str)) = false := by decide) :
    PE X (.Name x pos) (tD C (wV i) .z none []) := by
  refine PE.imp (pe_var (i := i) hN hv hd hcd) fun σ H Q h => ?_
  obtain ⟨L, F, ρ, fs, g, Qd, Xd, wd, h, xo, q⟩ := h
  unfold wV at h
  split at h
  · rename_i d e
    obtain ⟨v, ev, r⟩ := wd.at ht (slot_some e)
    exact ⟨v, ev, q d v ρ F H fs [] Step.rfl wd ⟨r.1, rfl⟩ (fun i e => by cases e) h⟩
  · exact h.elim
/-- a slot that owns: borrowed -/
theorem de_b (i : Nat) {t : Ty} {x : Str} (ht : C.Γ[i]? = some t := by rfl) (hN : X.N[i]? = some x := by rfl) (hv : Vis X.env.scope x := by first | exact .inl rfl | exact .inr (.inl rfl) | exact .inr (.inr rfl)) (hd : (x == ("__debug__" : Str)) = false := by decide) (hcd : (x == ("__classdict__" : Str)) = false := by decide) :
    PE X (.Name x pos) (tD C (wV i) t (some i) []) := by
  refine PE.imp (pe_var (i := i) hN hv hd hcd) fun σ H Q h => ?_
  obtain ⟨L, F, ρ, fs, g, Qd, Xd, wd, h, xo, q⟩ := h
  unfold wV at h
  split at h
  · rename_i d e
    obtain ⟨v, ev, r⟩ := wd.at ht (slot_some e)
    exact ⟨v, ev, q d v ρ F H fs _ Step.rfl wd r (fun j e a ha => by cases e; exact ha) h⟩
  · exact h.elim
/-- a slot's value handed on: the slot is empty behind it -/
theorem de_m (i : Nat) {t : Ty} {x : Str} (ht : C.Γ[i]? = some t := by rfl) (hN : X.N[i]? = some x := by rfl) (hv : Vis X.env.scope x := by first | exact .inl rfl | exact .inr (.inl rfl) | exact .inr (.inr rfl)) (hd : (x == ("__debug__" : Str)) = false := by decide) (hcd : (x == ("__classdict__" : Str)) = false := by decide) :
    PE X (.Name x pos) (tD C (wM i) t none [i]) := by
  refine PE.imp (pe_var (i := i) hN hv hd hcd) fun σ H Q h => ?_
  obtain ⟨L, F, ρ, fs, g, Qd, Xd, wd, h, xo, q⟩ := h
  unfold wM at h
  split at h
  · rename_i d e
    obtain ⟨v, ev, r⟩ := wd.at ht (slot_some e)
    refine ⟨v, ev, q d v _ F H _ _ ?_ (by rw [put_eq]; exact wd.take (List.getElem?_eq_some_iff.mp ht).1) r (fun j e => by cases e) h⟩
    refine ⟨Gro.rfl, fun _ _ => rfl, fun j hj => ?_⟩
    have hji : j ≠ i := fun e => hj (by simp [e])
    exact ⟨fsAt_set_ne hji, by rw [put_eq, List.getElem?_set_ne (Ne.symm hji)], fun _ _ => rfl⟩
  · exact h.elim
end

/-! ### operations on scalars -/
section
variable {X : Cx} {C : Cf} {pos : Pos} {a b : Expr} {wa wb : DE} {ta tb : Ty} {ka kb : Option Nat} {Ta Tb : List Nat}
/-- a result that is a scalar -/
theorem Op2.scal {f : D → D → (D → Prop) → Prop} {r : R2} (h : ∀ (L : List Addr) (F H : Hp) (d e : D) (v u : V) (fp fq : List Addr) (Qo : D → Prop) (Q : VK), Gro F F → (∀ a u, F a = some u → Ro L H a u) → Rep F H ta d v fp → Rep F H tb e u fq → f d e Qo → (∀ d' v', (∀ F, At F d' v') → Qo d' → Q v' H) → r v u H Q) :
    Op2 C ta tb ka kb .z none f r := fun L F H σ ρ fs g d e v u fp fq Qo Q wd ra rb _ hf k => h L F H d e v u fp fq Qo Q Gro.rfl wd.le ra rb hf fun d' v' hat ho => k d' v' F H [] Step.rfl wd.drop_own.drop_own ⟨hat F, rfl⟩ (fun i e => by cases e) ho
theorem Op1.scal {f : D → (D → Prop) → Prop} {r : V → Hp → VK → Prop} (h : ∀ (L : List Addr) (F H : Hp) (d : D) (v : V) (fp : List Addr) (Qo : D → Prop) (Q : VK), (∀ a u, F a = some u → Ro L H a u) → Rep F H ta d v fp → f d Qo → (∀ d' v', (∀ F, At F d' v') → Qo d' → Q v' H) → r v H Q) :
    Op1 C ta ka .z none f r := fun L F H σ ρ fs g d v fp Qo Q wd ra _ hf k => h L F H d v fp Qo Q wd.le ra hf fun d' v' hat ho => k d' v' F H [] Step.rfl wd.drop_own ⟨hat F, rfl⟩ (fun i e => by cases e) ho
theorem d2_op {op : Operator} {f : D → D → (D → Prop) → Prop} {r : R2} {t : Ty} {k : Option Nat} (ho : OpR X (binaryOp op) r) (hs : Op2 C ta tb ka kb t k f r) (ha : PE X a (tD C wa ta ka Ta)) (hb : PE X b (tD C wb tb kb Tb)) (hk : ∀ i, ka = some i → i ∉ Tb := by simp) :
    PE X (.BinOp a op b pos) (tD C (w2 f wa wb) t k (Ta ++ Tb)) := PE.imp (pe_op ho ha hb) fun _ _ _ h => red2 hs hk h
theorem d2_cmp {op : CmpOp} {f : D → D → (D → Prop) → Prop} {r : R2} {t : Ty} {k : Option Nat} (ho : OpR X (compareOp op) r) (hs : Op2 C ta tb ka kb t k f r) (ha : PE X a (tD C wa ta ka Ta)) (hb : PE X b (tD C wb tb kb Tb)) (hm : behindInMarks op b = false := by rfl) (hk : ∀ i, ka = some i → i ∉ Tb := by simp) :
    PE X (.Compare a [op] [b] pos) (tD C (w2 f wa wb) t k (Ta ++ Tb)) := PE.imp (pe_cmpR ho ha hb hm) fun _ _ _ h => red2 hs hk h
end
end Vo

set_option maxHeartbeats 4000000
/-! Values with owners, 3: operations. -/
namespace Vo
open PySem PySem.Spec PyProof.Rows L2

/-! ### data, for == and in -/
mutual
def toP : D → PyData
  | .non => .none
  | .bl b => .bool b
  | .int i => .int i
  | .str x => .str x
  | .tup ds => .tuple (toPs ds)
  | .lst ds => .list (toPs ds)
  | .dic _ _ _ => .dict []
  | .obj _ _ _ => .dict []
  | .pot _ _ _ _ => .dict []
  | .scr _ _ _ => .dict []
def toPs : List D → List PyData
  | [] => []
  | d :: ds => toP d :: toPs ds
end
/-- may be compared as data -/
def shp (d : D) : Bool := SeqAt.shaped (toP d)
def eqv (d e : D) : Bool := PyData.eqv (toP d) (toP e)

/-- what is to be read through a reference -/
def Und (L : List Addr) (F H : Hp) : Prop := ∀ a u, F a = some u → Ro L H a u
mutual
theorem At.dp {K : PySem.W.Frag} {L : List Addr} {F H : Hp} (le : Und L F H) : ∀ {d : D} {v : V}, At F d v → PyData.canLay0 (toP d) = true → Dp K H v (toP d)
  | .non, _, h, _ => by unfold At at h; subst h; exact .non
  | .bl b, _, h, _ => by unfold At at h; subst h; exact .bl b
  | .int i, _, h, _ => by unfold At at h; subst h; exact .int i
  | .str x, _, h, _ => by unfold At at h; subst h; exact .str x
  | .tup ds, _, h, k => by
    unfold At at h
    obtain ⟨p, vs, rfl, e, l⟩ := h
    unfold toP
    exact .tup (.inl (le _ _ e).rd) (AtL.dp le l (by simpa [toP, PyData.canLay0] using k))
  | .lst ds, _, h, k => by
    unfold At at h
    obtain ⟨p, vs, rfl, e, l⟩ := h
    unfold toP
    exact .lst (.inl (le _ _ e).rd) (AtL.dp le l (by simpa [toP, PyData.canLay0] using k))
  | .dic _ _ _, _, h, _ => by unfold At at h; exact h.elim
  | .obj _ _ _, _, h, _ => by unfold At at h; exact h.elim
  | .pot _ _ _ _, _, h, _ => by unfold At at h; exact h.elim
  | .scr _ _ _, _, _, k => by simp [toP, PyData.canLay0] at k
theorem AtL.dp {K : PySem.W.Frag} {L : List Addr} {F H : Hp} (le : Und L F H) : ∀ {ds : List D} {vs : List V}, AtL F ds vs → PyData.canLayAll0 (toPs ds) = true → DpAll K H vs (toPs ds)
  | [], _, h, _ => by unfold AtL at h; subst h; unfold toPs; exact .nil
  | _ :: _, _, h, k => by
    unfold AtL at h
    obtain ⟨v, r, rfl, a, b⟩ := h
    simp only [toPs, PyData.canLayAll0, Bool.and_eq_true] at k
    unfold toPs
    exact .cons (At.dp le a k.1) (AtL.dp le b k.2)
end
theorem RepL.dp {K : PySem.W.Frag} {R : D → V → List Addr → Prop} {H : Hp} (ih : ∀ d v f, R d v f → PyData.canLay0 (toP d) = true → Dp K H v (toP d)) : ∀ {ds : List D} {vs : List V} {fs : List (List Addr)}, RepL R ds vs fs → PyData.canLayAll0 (toPs ds) = true → DpAll K H vs (toPs ds)
  | [], _, _, h, _ => by obtain ⟨rfl, _⟩ := h; unfold toPs; exact .nil
  | _ :: _, _, _, h, k => by
    unfold RepL at h
    obtain ⟨v, r, f, q, rfl, rfl, a, b⟩ := h
    simp only [toPs, PyData.canLayAll0, Bool.and_eq_true] at k
    unfold toPs
    exact .cons (ih _ _ _ a k.1) (RepL.dp ih b k.2)
theorem Rep.dp {K : PySem.W.Frag} {L : List Addr} {F H : Hp} (le : Und L F H) : ∀ {t : Ty} {d : D} {v : V} {fp : List Addr}, Rep F H t d v fp → PyData.canLay0 (toP d) = true → Dp K H v (toP d)
  | .z, _, _, _, h, k => h.1.dp le k
  | .ls t, _, _, _, h, k => by
    obtain ⟨ds, p, vs, fs, rfl, rfl, hp, l, rfl⟩ := h
    unfold toP
    exact .lst (.inl (.inl hp)) (RepL.dp (fun d v f r => Rep.dp le r) l (by simpa [toP, PyData.canLay0] using k))
  | .pot, _, _, _, h, k => by
    obtain ⟨ns, a, b, c, p, q, rfl, rfl, hp, hq, rfl⟩ := h
    simp [toP, PyData.canLay0] at k
theorem shp_lay {d : D} (h : shp d = true) : PyData.canLay0 (toP d) = true := SeqAt.canLay_of_shaped h

/-! ### the plain operations -/
def pyAdd (d e : D) (Q : D → Prop) : Prop := match d, e with
  | .int i, .int j => Q (.int (i + j))
  | .str x, .str y => x.length + y.length ≤ sizeLine ∧ Q (.str (x ++ y))
  | _, _ => False
def pySub (d e : D) (Q : D → Prop) : Prop := match d, e with
  | .int i, .int j => Q (.int (i - j))
  | _, _ => False
def pyMul (d e : D) (Q : D → Prop) : Prop := match d, e with
  | .int i, .int j => CMul i j ∧ Q (.int (i * j))
  | _, _ => False
def pyMod (d e : D) (Q : D → Prop) : Prop := match d, e with
  | .int i, .int j => 0 < j ∧ Q (.int (i % j))
  | _, _ => False
def pyDiv (d e : D) (Q : D → Prop) : Prop := match d, e with
  | .int i, .int j => CDiv i j ∧ Q (.int (i / j))
  | _, _ => False
/-- == : scalars of one kind, None, else data -/
def pyEq (d e : D) (Q : D → Prop) : Prop := match d, e with
  | .int i, .int j => Q (.bl (decide (i = j)))
  | .str x, .str y => Q (.bl (decide (x = y)))
  | .bl x, .bl y => Q (.bl (decide (x = y)))
  | .non, .non => Q (.bl true)
  | _, _ => shp d = true ∧ shp e = true ∧ Q (.bl (eqv d e))
def pyNe (d e : D) (Q : D → Prop) : Prop := pyEq d e fun r => match r with
  | .bl b => Q (.bl (!b))
  | _ => False
def pyLt (d e : D) (Q : D → Prop) : Prop := match d, e with
  | .int i, .int j => Q (.bl (decide (i < j)))
  | .str x, .str y => Q (.bl (decide (x.cps.toList < y.cps.toList)))
  | _, _ => False
def pyLe (d e : D) (Q : D → Prop) : Prop := match d, e with
  | .int i, .int j => Q (.bl (decide (i ≤ j)))
  | .str x, .str y => Q (.bl (decide (x.cps.toList ≤ y.cps.toList)))
  | _, _ => False
def pyIn (d e : D) (Q : D → Prop) : Prop := match d, e with
  | .str ⟨⟨[c]⟩⟩, .str z => Q (.bl (decide (c ∈ z.cps.toList)))
  | d, .lst ds => shp d = true ∧ shp (.lst ds) = true ∧ Q (.bl (ds.any fun z => eqv z d))
  | _, _ => False
def pyNot (f : D → D → (D → Prop) → Prop) (d e : D) (Q : D → Prop) : Prop := f d e fun r => match r with
  | .bl b => Q (.bl (!b))
  | _ => False
def pyIsN (d : D) (e : D) (Q : D → Prop) : Prop := match d, e with
  | .non, .non => Q (.bl true)
  | _, .non => Q (.bl false)
  | _, _ => False
def pyCat (d e : D) (Q : D → Prop) : Prop := match d, e with
  | .lst a, .lst b => a.length + b.length ≤ sizeLine ∧ Q (.lst (a ++ b))
  | _, _ => False

section
variable {X : Cx} {C : Cf} {ta tb : Ty} {ka kb : Option Nat}
theorem Rep.scal_int {F H : Hp} {i : Int} {v : V} {t : Ty} {fp : List Addr} (h : Rep F H t (.int i) v fp) : v = .int i := by
  cases t with
  | z => have := h.1; unfold At at this; exact this
  | ls t => obtain ⟨_, _, _, _, e, _⟩ := h; cases e
  | pot => obtain ⟨_, _, _, _, _, _, e, _⟩ := h; cases e
theorem Rep.scal_str {F H : Hp} {i : Str} {v : V} {t : Ty} {fp : List Addr} (h : Rep F H t (.str i) v fp) : v = .str i := by
  cases t with
  | z => have := h.1; unfold At at this; exact this
  | ls t => obtain ⟨_, _, _, _, e, _⟩ := h; cases e
  | pot => obtain ⟨_, _, _, _, _, _, e, _⟩ := h; cases e
theorem Rep.scal_bl {F H : Hp} {i : Bool} {v : V} {t : Ty} {fp : List Addr} (h : Rep F H t (.bl i) v fp) : v = .bl i := by
  cases t with
  | z => have := h.1; unfold At at this; exact this
  | ls t => obtain ⟨_, _, _, _, e, _⟩ := h; cases e
  | pot => obtain ⟨_, _, _, _, _, _, e, _⟩ := h; cases e
theorem Rep.scal_non {F H : Hp} {v : V} {t : Ty} {fp : List Addr} (h : Rep F H t .non v fp) : v = .non := by
  cases t with
  | z => have := h.1; unfold At at this; exact this
  | ls t => obtain ⟨_, _, _, _, e, _⟩ := h; cases e
  | pot => obtain ⟨_, _, _, _, _, _, e, _⟩ := h; cases e
/-- a list that is read, whoever owns it -/
theorem Rep.list {L : List Addr} {F H : Hp} (le : Und L F H) {ds : List D} {v : V} {t : Ty} {fp : List Addr} (h : Rep F H t (.lst ds) v fp) : ∃ p vs, v = .ref p ∧ H p = some (.lst vs) ∧ vs.length = ds.length := by
  cases t with
  | z =>
    have := h.1
    unfold At at this
    obtain ⟨p, vs, e, k, l⟩ := this
    exact ⟨p, vs, e, (le _ _ k).is, l.len⟩
  | ls t =>
    obtain ⟨ds', p, vs, fs, e, e2, hp, l, _⟩ := h
    cases e
    refine ⟨p, vs, e2, hp, ?_⟩
    have : ∀ {ds : List D} {vs : List V} {fs : List (List Addr)}, RepL (Rep F H t) ds vs fs → vs.length = ds.length := by
      intro ds
      induction ds with
      | nil => intro vs fs h; obtain ⟨rfl, _⟩ := h; rfl
      | cons d ds ih => intro vs fs h; obtain ⟨_, _, _, _, rfl, rfl, _, b⟩ := h; simp [ih b]
    exact this l
  | pot => obtain ⟨_, _, _, _, _, _, e, _⟩ := h; cases e
/-- a list of frozen items that is read -/
def Ty.flat : Ty → Bool
  | .z => true
  | .ls .z => true
  | _ => false
theorem Rep.flat {L : List Addr} {F H : Hp} (le : Und L F H) {ds : List D} {v : V} {t : Ty} {fp : List Addr} (ht : t.flat = true) (h : Rep F H t (.lst ds) v fp) : ∃ p vs, v = .ref p ∧ H p = some (.lst vs) ∧ AtL F ds vs := by
  cases t with
  | z =>
    have := h.1
    unfold At at this
    obtain ⟨p, vs, e, k, l⟩ := this
    exact ⟨p, vs, e, (le _ _ k).is, l⟩
  | ls t =>
    cases t with
    | z =>
      obtain ⟨ds', p, vs, e, e2, hp, l, _⟩ := h.lsz_inv
      cases e
      exact ⟨p, vs, e2, hp, l⟩
    | ls _ => cases ht
    | pot => cases ht
  | pot => cases ht

theorem o_add : OpR X (binaryOp .Add) (fun x y H Q => rI0 (fun i j => .int (i + j)) x y H Q ∨ ∃ i j, x = .str i ∧ y = .str j ∧ i.length + j.length ≤ sizeLine ∧ Q (.str (i ++ j)) H) := op_add.or op_add_str
theorem s_add : Op2 C ta tb ka kb .z none pyAdd (fun x y H Q => rI0 (fun i j => .int (i + j)) x y H Q ∨ ∃ i j, x = .str i ∧ y = .str j ∧ i.length + j.length ≤ sizeLine ∧ Q (.str (i ++ j)) H) := Op2.scal fun L F H d e v u fp fq Qo Q _ le ra rb hf k => by
  unfold pyAdd at hf
  split at hf
  · cases ra.scal_int; cases rb.scal_int
    exact .inl ⟨_, _, rfl, rfl, k _ _ (fun _ => at_int) hf⟩
  · cases ra.scal_str; cases rb.scal_str
    exact .inr ⟨_, _, rfl, rfl, hf.1, k _ _ (fun _ => at_str) hf.2⟩
  · exact hf.elim
theorem s_sub : Op2 C ta tb ka kb .z none pySub (rI0 fun i j => .int (i - j)) := Op2.scal fun L F H d e v u fp fq Qo Q _ le ra rb hf k => by
  unfold pySub at hf
  split at hf
  · cases ra.scal_int; cases rb.scal_int
    exact ⟨_, _, rfl, rfl, k _ _ (fun _ => at_int) hf⟩
  · exact hf.elim
theorem s_mul : Op2 C ta tb ka kb .z none pyMul (rI CMul fun i j => .int (i * j)) := Op2.scal fun L F H d e v u fp fq Qo Q _ le ra rb hf k => by
  unfold pyMul at hf
  split at hf
  · cases ra.scal_int; cases rb.scal_int
    exact ⟨_, _, rfl, rfl, hf.1, k _ _ (fun _ => at_int) hf.2⟩
  · exact hf.elim
theorem s_mod : Op2 C ta tb ka kb .z none pyMod (rI (fun _ j => 0 < j) fun i j => .int (i % j)) := Op2.scal fun L F H d e v u fp fq Qo Q _ le ra rb hf k => by
  unfold pyMod at hf
  split at hf
  · cases ra.scal_int; cases rb.scal_int
    exact ⟨_, _, rfl, rfl, hf.1, k _ _ (fun _ => at_int) hf.2⟩
  · exact hf.elim
theorem s_div : Op2 C ta tb ka kb .z none pyDiv (rI CDiv fun i j => .int (i / j)) := Op2.scal fun L F H d e v u fp fq Qo Q _ le ra rb hf k => by
  unfold pyDiv at hf
  split at hf
  · cases ra.scal_int; cases rb.scal_int
    exact ⟨_, _, rfl, rfl, hf.1, k _ _ (fun _ => at_int) hf.2⟩
  · exact hf.elim
theorem o_lt : OpR X (compareOp .Lt) (fun x y H Q => rI0 (fun i j => .bl (decide (i < j))) x y H Q ∨ ∃ i j, x = .str i ∧ y = .str j ∧ Q (.bl (decide (i.cps.toList < j.cps.toList))) H) := op_lt.or op_lt_str
theorem s_lt : Op2 C ta tb ka kb .z none pyLt (fun x y H Q => rI0 (fun i j => .bl (decide (i < j))) x y H Q ∨ ∃ i j, x = .str i ∧ y = .str j ∧ Q (.bl (decide (i.cps.toList < j.cps.toList))) H) := Op2.scal fun L F H d e v u fp fq Qo Q _ le ra rb hf k => by
  unfold pyLt at hf
  split at hf
  · cases ra.scal_int; cases rb.scal_int
    exact .inl ⟨_, _, rfl, rfl, k _ _ (fun _ => at_bl) hf⟩
  · cases ra.scal_str; cases rb.scal_str
    exact .inr ⟨_, _, rfl, rfl, k _ _ (fun _ => at_bl) hf⟩
  · exact hf.elim
/-- ints alone -/
def pyGt (d e : D) (Q : D → Prop) : Prop := match d, e with
  | .int i, .int j => Q (.bl (decide (j < i)))
  | _, _ => False
def pyGe (d e : D) (Q : D → Prop) : Prop := match d, e with
  | .int i, .int j => Q (.bl (decide (j ≤ i)))
  | _, _ => False
theorem s_gt : Op2 C ta tb ka kb .z none pyGt (rI0 fun i j => .bl (decide (j < i))) := Op2.scal fun L F H d e v u fp fq Qo Q _ le ra rb hf k => by
  unfold pyGt at hf
  split at hf
  · cases ra.scal_int; cases rb.scal_int
    exact ⟨_, _, rfl, rfl, k _ _ (fun _ => at_bl) hf⟩
  · exact hf.elim
theorem s_ge : Op2 C ta tb ka kb .z none pyGe (rI0 fun i j => .bl (decide (j ≤ i))) := Op2.scal fun L F H d e v u fp fq Qo Q _ le ra rb hf k => by
  unfold pyGe at hf
  split at hf
  · cases ra.scal_int; cases rb.scal_int
    exact ⟨_, _, rfl, rfl, k _ _ (fun _ => at_bl) hf⟩
  · exact hf.elim
abbrev rEqA (K : PySem.W.Frag) : R2 := fun x y H Q => rEq x y H Q ∨ rEqD K x y H Q
abbrev rNeA (K : PySem.W.Frag) : R2 := fun x y H Q => rNe x y H Q ∨ rNeD K x y H Q
theorem o_eq (hu : X.A.units + 64 < cLine) : OpR X (compareOp .Eq) (rEqA X.K) := op_eq.or (op_eqD hu)
theorem o_ne (hu : X.A.units + 64 < cLine) : OpR X (compareOp .NotEq) (rNeA X.K) := op_ne.or (op_neD hu)
theorem dec_vint {i j : Int} : decide (V.int i = V.int j) = decide (i = j) := by simp
theorem dec_vstr {i j : Str} : decide (V.str i = V.str j) = decide (i = j) := by simp
theorem dec_vbl {i j : Bool} : decide (V.bl i = V.bl j) = decide (i = j) := by simp
theorem s_eq {K : PySem.W.Frag} : Op2 C ta tb ka kb .z none pyEq (rEqA K) := Op2.scal fun L F H d e v u fp fq Qo Q _ le ra rb hf k => by
  unfold pyEq at hf
  split at hf
  · cases ra.scal_int; cases rb.scal_int
    exact .inl ⟨rfl, by rw [dec_vint]; exact k _ _ (fun _ => at_bl) hf⟩
  · cases ra.scal_str; cases rb.scal_str
    exact .inl ⟨rfl, by rw [dec_vstr]; exact k _ _ (fun _ => at_bl) hf⟩
  · cases ra.scal_bl; cases rb.scal_bl
    exact .inl ⟨rfl, by rw [dec_vbl]; exact k _ _ (fun _ => at_bl) hf⟩
  · cases ra.scal_non; cases rb.scal_non
    exact .inl ⟨rfl, k _ _ (fun _ => at_bl) hf⟩
  · exact .inr ⟨_, _, ra.dp le (shp_lay hf.1), rb.dp le (shp_lay hf.2.1), hf.1, hf.2.1, k _ _ (fun _ => at_bl) hf.2.2⟩
theorem s_ne {K : PySem.W.Frag} : Op2 C ta tb ka kb .z none pyNe (rNeA K) := Op2.scal fun L F H d e v u fp fq Qo Q _ le ra rb hf k => by
  unfold pyNe pyEq at hf
  split at hf
  · cases ra.scal_int; cases rb.scal_int
    exact .inl ⟨rfl, by rw [dec_vint]; exact k _ _ (fun _ => at_bl) hf⟩
  · cases ra.scal_str; cases rb.scal_str
    exact .inl ⟨rfl, by rw [dec_vstr]; exact k _ _ (fun _ => at_bl) hf⟩
  · cases ra.scal_bl; cases rb.scal_bl
    exact .inl ⟨rfl, by rw [dec_vbl]; exact k _ _ (fun _ => at_bl) hf⟩
  · cases ra.scal_non; cases rb.scal_non
    exact .inl ⟨rfl, k _ _ (fun _ => at_bl) hf⟩
  · exact .inr ⟨_, _, ra.dp le (shp_lay hf.1), rb.dp le (shp_lay hf.2.1), hf.1, hf.2.1, k _ _ (fun _ => at_bl) hf.2.2⟩
end
end Vo

set_option maxHeartbeats 4000000
/-! Values with owners, 3b: more operations. -/
namespace Vo
open PySem PySem.Spec PyProof.Rows L2

/-- <= of ints, of texts -/
def pyLE (d e : D) (Q : D → Prop) : Prop := match d, e with
  | .int i, .int j => Q (.bl (decide (i ≤ j)))
  | .str x, .str y => Q (.bl (!decide (y.cps.toList < x.cps.toList)))
  | _, _ => False
abbrev rLeA : R2 := fun x y H Q => rI0 (fun i j => .bl (decide (i ≤ j))) x y H Q ∨ ∃ i j, x = .str i ∧ y = .str j ∧ Q (.bl (!decide (j.cps.toList < i.cps.toList))) H
/-- in a text (one sign), in a list -/
def one? (x : Str) : Option Nat := match x.cps.toList with
  | [c] => some c
  | _ => none
theorem one_eq {x : Str} {c : Nat} (h : one? x = some c) : x = ⟨#[c]⟩ := by
  unfold one? at h
  split at h
  · rename_i c' e
    cases h
    cases x with
    | mk a =>
      congr 1
      exact Array.toList_inj.mp e
  · cases h
def pyIN (d e : D) (Q : D → Prop) : Prop := match e with
  | .str z => match d with
    | .str x => match one? x with
      | some c => Q (.bl (decide (c ∈ z.cps.toList)))
      | none => False
    | _ => False
  | .lst ds => shp d = true ∧ shp (.lst ds) = true ∧ Q (.bl (ds.any fun z => eqv z d))
  | _ => False
def pyNIN (d e : D) (Q : D → Prop) : Prop := pyIN d e fun r => match r with
  | .bl b => Q (.bl (!b))
  | _ => False
def pyIsNone (d e : D) (Q : D → Prop) : Prop := match e with
  | .non => match d with
    | .non => Q (.bl true)
    | _ => Q (.bl false)
  | _ => False
def pyNotNone (d e : D) (Q : D → Prop) : Prop := pyIsNone d e fun r => match r with
  | .bl b => Q (.bl (!b))
  | _ => False
def pyNeg (d : D) (Q : D → Prop) : Prop := match d with
  | .int i => Q (.int (-i))
  | _ => False
def anyP (d : D) : List D → Bool := fun ds => ds.any fun z => eqv z d
theorem toPs_any (d : D) : ∀ ds : List D, (toPs ds).any (fun z => PyData.eqv z (toP d)) = ds.any fun z => eqv z d
  | [] => rfl
  | e :: ds => by
    unfold toPs
    rw [List.any_cons, List.any_cons, toPs_any d ds]
    rfl
section
variable {X : Cx} {C : Cf} {ta tb : Ty} {ka kb : Option Nat} {K : PySem.W.Frag}
theorem o_le : OpR X (compareOp .LtE) rLeA := op_le.or op_le_str
theorem s_le : Op2 C ta tb ka kb .z none pyLE rLeA := Op2.scal fun L F H d e v u fp fq Qo Q _ le ra rb hf k => by
  unfold pyLE at hf
  split at hf
  · cases ra.scal_int; cases rb.scal_int
    exact .inl ⟨_, _, rfl, rfl, k _ _ (fun _ => at_bl) hf⟩
  · cases ra.scal_str; cases rb.scal_str
    exact .inr ⟨_, _, rfl, rfl, k _ _ (fun _ => at_bl) hf⟩
  · exact hf.elim
abbrev rInA (K : PySem.W.Frag) : R2 := fun x y H Q => (∃ (c : Nat) (z : Str), x = .str ⟨#[c]⟩ ∧ y = .str z ∧ Q (.bl (decide (c ∈ z.cps.toList))) H) ∨ rInD K x y H Q
abbrev rNInA (K : PySem.W.Frag) : R2 := fun x y H Q => (∃ (c : Nat) (z : Str), x = .str ⟨#[c]⟩ ∧ y = .str z ∧ Q (.bl (!decide (c ∈ z.cps.toList))) H) ∨ rNotInD K x y H Q
theorem o_in (hu : X.A.units + 65 < cLine) : OpR X (compareOp .In) (rInA X.K) := op_in_sign.or (op_inD hu)
theorem o_nin (hu : X.A.units + 65 < cLine) : OpR X (compareOp .NotIn) (rNInA X.K) := op_notIn_sign.or (op_notInD hu)
theorem s_in : Op2 C ta tb ka kb .z none pyIN (rInA K) := Op2.scal fun L F H d e v u fp fq Qo Q _ le ra rb hf k => by
  unfold pyIN at hf
  split at hf
  · split at hf
    · split at hf
      · rename_i c hc
        have := one_eq hc
        subst this
        exact .inl ⟨c, _, ra.scal_str, rb.scal_str, k _ _ (fun _ => at_bl) hf⟩
      · exact hf.elim
    · exact hf.elim
  · rename_i ds
    refine .inr ⟨_, toPs ds, ra.dp le (shp_lay hf.1), ?_, hf.1, ?_, ?_⟩
    · have := rb.dp (K := K) le (shp_lay hf.2.1)
      unfold toP at this
      exact this
    · have := hf.2.1
      unfold shp toP at this
      exact this
    · rw [toPs_any]
      exact k _ _ (fun _ => at_bl) hf.2.2
  · exact hf.elim
theorem s_nin : Op2 C ta tb ka kb .z none pyNIN (rNInA K) := Op2.scal fun L F H d e v u fp fq Qo Q _ le ra rb hf k => by
  unfold pyNIN pyIN at hf
  split at hf
  · split at hf
    · split at hf
      · rename_i c hc
        have := one_eq hc
        subst this
        exact .inl ⟨c, _, ra.scal_str, rb.scal_str, k _ _ (fun _ => at_bl) hf⟩
      · exact hf.elim
    · exact hf.elim
  · rename_i ds
    refine .inr ⟨_, toPs ds, ra.dp le (shp_lay hf.1), ?_, hf.1, ?_, ?_⟩
    · have := rb.dp (K := K) le (shp_lay hf.2.1)
      unfold toP at this
      exact this
    · have := hf.2.1
      unfold shp toP at this
      exact this
    · rw [toPs_any]
      exact k _ _ (fun _ => at_bl) hf.2.2
  · exact hf.elim
theorem Rep.non_iff {F H : Hp} {t : Ty} {d : D} {v : V} {fp : List Addr} (r : Rep F H t d v fp) : v = .non ↔ d = .non := by
  constructor
  · intro e
    subst e
    cases t with
    | z =>
      have a := r.1
      cases d <;> unfold At at a <;> first | rfl | (obtain ⟨_, _, e, _⟩ := a; cases e) | (obtain ⟨e, _⟩ := a; cases e) | exact a.elim | cases a
    | ls t => obtain ⟨_, _, _, _, _, e, _⟩ := r; cases e
    | pot => obtain ⟨_, _, _, _, _, _, _, e, _⟩ := r; cases e
  · intro e
    subst e
    exact r.scal_non
theorem s_isN : Op2 C ta tb ka kb .z none pyIsNone (fun x y H Q => y = .non ∧ Q (.bl (decide (x = .non))) H) := Op2.scal fun L F H d e v u fp fq Qo Q _ le ra rb hf k => by
  unfold pyIsNone at hf
  split at hf
  · refine ⟨rb.scal_non, ?_⟩
    split at hf
    · have := ra.scal_non
      subst this
      exact k _ _ (fun _ => at_bl) hf
    · rename_i hd
      have : decide (v = V.non) = false := decide_eq_false fun e => hd (ra.non_iff.mp e)
      rw [this]
      exact k _ _ (fun _ => at_bl) hf
  · exact hf.elim
theorem s_notN : Op2 C ta tb ka kb .z none pyNotNone (fun x y H Q => y = .non ∧ Q (.bl (!decide (x = .non))) H) := Op2.scal fun L F H d e v u fp fq Qo Q _ le ra rb hf k => by
  unfold pyNotNone pyIsNone at hf
  split at hf
  · refine ⟨rb.scal_non, ?_⟩
    split at hf
    · have := ra.scal_non
      subst this
      exact k _ _ (fun _ => at_bl) hf
    · rename_i hd
      have : decide (v = V.non) = false := decide_eq_false fun e => hd (ra.non_iff.mp e)
      rw [this]
      exact k _ _ (fun _ => at_bl) hf
  · exact hf.elim
theorem s_neg : Op1 C ta ka .z none pyNeg (rU fun i => .int (-i)) := Op1.scal fun L F H d v fp Qo Q le ra hf k => by
  unfold pyNeg at hf
  split at hf
  · cases ra.scal_int
    exact ⟨_, rfl, k _ _ (fun _ => at_int) hf⟩
  · exact hf.elim
theorem d1_un {op : UnaryOp} {f : D → (D → Prop) → Prop} {r : V → Hp → VK → Prop} {t : Ty} {k : Option Nat} {a : Expr} {wa : DE} {Ta : List Nat} {pos : Pos} (ho : UnR X (unaryOp op) r) (hs : Op1 C ta ka t k f r) (ha : PE X a (tD C wa ta ka Ta)) :
    PE X (.UnaryOp op a pos) (tD C (w1 f wa) t k Ta) := PE.imp (pe_un ho ha) fun _ _ _ h => red1 hs h
end
end Vo

set_option maxHeartbeats 4000000
/-! Values with owners, 4: tests, and, or, statements. -/
namespace Vo
open PySem PySem.Spec PyProof.Rows L2

section
variable {X : Cx} {C : Cf} {pos : Pos} {a b c : Expr} {wa wb wc : DE} {va vb vc : DB} {ta tb tc t : Ty} {ka kb kc k : Option Nat} {Ta Tb Tc T : List Nat} {σ : L2.St} {H : Hp}

/-! ### tests -/
theorem redIs {Q : Bool → Hp → Prop} : tB C (wIs wa) Ta σ H Q → tD C wa ta ka Ta σ H fun x H1 => ∃ c, x = .bl c ∧ Q c H1 := by
  rintro ⟨L, F, ρ, fs, g, Qd, Xd, wd, h, xo, q⟩
  refine ⟨L, F, ρ, fs, g, _, Xd, wd, h, xo, fun d v ρ1 F1 H1 fs1 fp s1 wd1 r1 b1 h1 => ?_⟩
  split at h1
  · exact ⟨_, r1.scal_bl, q _ ρ1 F1 H1 fs1 s1 wd1.drop_own h1⟩
  · exact h1.elim
/-- an expression that gives a truth, as a test -/
theorem db_val (ha : PE X a (tD C wa ta ka Ta)) (he : ∀ whole, isTrue a X.env whole = (do let v ← whole; standAt a.pos; holding [v] (truthy v)) := by intro _; rfl) : PT X a (tB C (wIs wa) Ta) :=
  PT.imp (pt_val ha he) fun _ _ _ h => redIs h
/-- a comparison as a test -/
theorem db_cmp {op : CmpOp} {f : D → D → (D → Prop) → Prop} {r : R2} {t : Ty} {k : Option Nat} (ho : OpR X (compareOp op) r) (hs : Op2 C ta tb ka kb t k f r) (ha : PE X a (tD C wa ta ka Ta)) (hb : PE X b (tD C wb tb kb Tb)) (hm : behindInMarks op b = false := by rfl) (hk : ∀ i, ka = some i → i ∉ Tb := by simp) :
    PT X (.Compare a [op] [b] pos) (tB C (wIs (w2 f wa wb)) (Ta ++ Tb)) := PT.imp (pt_cmpR ho ha hb hm) fun _ _ _ h => red2 hs hk (redIs h)
/-- a test first, then what hangs on it -/
theorem redIf {Qn : Bool → L2.St → Hp → Prop} {w : XD → Rho → Prop} {va : DB} {Z : Cf → XD → Prop} : True := trivial
theorem db_not (ha : PT X a (tB C va Ta)) : PT X (.UnaryOp .Not a pos) (tB C (wNotB va) Ta) := PT.imp (pt_not ha) fun σ H Q h => by
  obtain ⟨L, F, ρ, fs, g, Qd, Xd, wd, h, xo, q⟩ := h
  exact ⟨L, F, ρ, fs, g, _, Xd, wd, h, xo, fun b ρ1 F1 H1 fs1 s1 wd1 h1 => q _ ρ1 F1 H1 fs1 s1 wd1 h1⟩
theorem redAndB {Q : Bool → Hp → Prop} : tB C (wAndB va vb) (Ta ++ Tb) σ H Q → tB C va Ta σ H fun c H1 => if c = true then tB C vb Tb σ H1 Q else Q false H1 := by
  rintro ⟨L, F, ρ, fs, g, Qd, Xd, wd, h, xo, q⟩
  refine ⟨L, F, ρ, fs, g, _, Xd, wd, h, xo.sub (fun i hi => List.mem_append_left _ hi), fun b ρ1 F1 H1 fs1 s1 wd1 h1 => ?_⟩
  cases b with
  | true =>
    rw [if_pos rfl]
    exact ⟨L, F1, ρ1, fs1, g, Qd, Xd, wd1, h1, xo.next s1 (fun _ h => h) (fun w => w), fun b ρ2 F2 H2 fs2 s2 wd2 h2 => q b ρ2 F2 H2 fs2 (s1.trans s2) wd2 h2⟩
  | false => exact q false ρ1 F1 H1 fs1 (s1.wide fun i hi => List.mem_append_left _ hi) wd1 h1
theorem redOrB {Q : Bool → Hp → Prop} : tB C (wOrB va vb) (Ta ++ Tb) σ H Q → tB C va Ta σ H fun c H1 => if c = true then Q true H1 else tB C vb Tb σ H1 Q := by
  rintro ⟨L, F, ρ, fs, g, Qd, Xd, wd, h, xo, q⟩
  refine ⟨L, F, ρ, fs, g, _, Xd, wd, h, xo.sub (fun i hi => List.mem_append_left _ hi), fun b ρ1 F1 H1 fs1 s1 wd1 h1 => ?_⟩
  cases b with
  | false => exact ⟨L, F1, ρ1, fs1, g, Qd, Xd, wd1, h1, xo.next s1 (fun _ h => h) (fun w => w), fun b ρ2 F2 H2 fs2 s2 wd2 h2 => q b ρ2 F2 H2 fs2 (s1.trans s2) wd2 h2⟩
  | true => exact q true ρ1 F1 H1 fs1 (s1.wide fun i hi => List.mem_append_left _ hi) wd1 h1
theorem db_and1 (ha : PT X a (tB C va Ta)) : PW X (.BoolOp .And [a] pos) (tB C va Ta) := pw_and1 ha
theorem db_or1 (ha : PT X a (tB C va Ta)) : PW X (.BoolOp .Or [a] pos) (tB C va Ta) := pw_or1 ha
theorem db_and {r : List Expr} (ha : PT X a (tB C va Ta)) (hb : PW X (.BoolOp .And (b :: r) pos) (tB C vb Tb)) : PW X (.BoolOp .And (a :: b :: r) pos) (tB C (wAndB va vb) (Ta ++ Tb)) := PW.imp (pw_and ha hb) fun _ _ _ h => redAndB h
theorem db_or {r : List Expr} (ha : PT X a (tB C va Ta)) (hb : PW X (.BoolOp .Or (b :: r) pos) (tB C vb Tb)) : PW X (.BoolOp .Or (a :: b :: r) pos) (tB C (wOrB va vb) (Ta ++ Tb)) := PW.imp (pw_or ha hb) fun _ _ _ h => redOrB h

/-! ### and, or, not, if as values -/
theorem redAnd {Q : VK} : tD C (wAnd wa wb) .z none (Ta ++ Tb) σ H Q → tD C wa ta ka Ta σ H fun x H1 => ∃ c, x = .bl c ∧ if c = true then tD C wb .z none Tb σ H1 Q else Q (.bl false) H1 := by
  rintro ⟨L, F, ρ, fs, g, Qd, Xd, wd, h, xo, q⟩
  refine ⟨L, F, ρ, fs, g, _, Xd, wd, h, xo.sub (fun i hi => List.mem_append_left _ hi), fun d v ρ1 F1 H1 fs1 fp s1 wd1 r1 b1 h1 => ?_⟩
  split at h1
  · rename_i b
    refine ⟨b, r1.scal_bl, ite2 (fun e => ?_) (fun e => ?_)⟩
    · rw [if_pos e] at h1
      exact ⟨L, F1, ρ1, fs1, g, Qd, Xd, wd1.drop_own, h1, xo.next s1 (fun _ h => h) (fun w => w), fun d v ρ2 F2 H2 fs2 fp s2 wd2 r2 b2 h2 => q d v ρ2 F2 H2 fs2 fp (s1.trans s2) wd2 r2 b2 h2⟩
    · rw [if_neg e] at h1
      exact q (.bl false) _ ρ1 F1 H1 fs1 [] (s1.wide fun i hi => List.mem_append_left _ hi) wd1.drop_own ⟨at_bl, rfl⟩ (fun i e => by cases e) h1
  · exact h1.elim
theorem redOr {Q : VK} : tD C (wOr wa wb) .z none (Ta ++ Tb) σ H Q → tD C wa ta ka Ta σ H fun x H1 => ∃ c, x = .bl c ∧ if c = true then Q (.bl true) H1 else tD C wb .z none Tb σ H1 Q := by
  rintro ⟨L, F, ρ, fs, g, Qd, Xd, wd, h, xo, q⟩
  refine ⟨L, F, ρ, fs, g, _, Xd, wd, h, xo.sub (fun i hi => List.mem_append_left _ hi), fun d v ρ1 F1 H1 fs1 fp s1 wd1 r1 b1 h1 => ?_⟩
  split at h1
  · rename_i b
    refine ⟨b, r1.scal_bl, ite2 (fun e => ?_) (fun e => ?_)⟩
    · rw [if_pos e] at h1
      exact q (.bl true) _ ρ1 F1 H1 fs1 [] (s1.wide fun i hi => List.mem_append_left _ hi) wd1.drop_own ⟨at_bl, rfl⟩ (fun i e => by cases e) h1
    · rw [if_neg e] at h1
      exact ⟨L, F1, ρ1, fs1, g, Qd, Xd, wd1.drop_own, h1, xo.next s1 (fun _ h => h) (fun w => w), fun d v ρ2 F2 H2 fs2 fp s2 wd2 r2 b2 h2 => q d v ρ2 F2 H2 fs2 fp (s1.trans s2) wd2 r2 b2 h2⟩
  · exact h1.elim
theorem de_one {op} (ha : PE X a (tD C wa t k Ta)) : PE X (.BoolOp op [a] pos) (tD C wa t k Ta) := pe_one ha
theorem de_and {r : List Expr} (ha : PE X a (tD C wa ta ka Ta)) (hb : PE X (.BoolOp .And (b :: r) pos) (tD C wb .z none Tb)) : PE X (.BoolOp .And (a :: b :: r) pos) (tD C (wAnd wa wb) .z none (Ta ++ Tb)) := PE.imp (pe_and ha hb) fun _ _ _ h => redAnd h
theorem de_or {r : List Expr} (ha : PE X a (tD C wa ta ka Ta)) (hb : PE X (.BoolOp .Or (b :: r) pos) (tD C wb .z none Tb)) : PE X (.BoolOp .Or (a :: b :: r) pos) (tD C (wOr wa wb) .z none (Ta ++ Tb)) := PE.imp (pe_or ha hb) fun _ _ _ h => redOr h
theorem de_not (ha : PE X a (tD C wa ta ka Ta)) : PE X (.UnaryOp .Not a pos) (tD C (wNot wa) .z none Ta) := PE.imp (pe_not ha) fun σ H Q h => by
  obtain ⟨L, F, ρ, fs, g, Qd, Xd, wd, h, xo, q⟩ := h
  refine ⟨L, F, ρ, fs, g, _, Xd, wd, h, xo, fun d v ρ1 F1 H1 fs1 fp s1 wd1 r1 b1 h1 => ?_⟩
  split at h1
  · exact ⟨_, r1.scal_bl, q _ _ ρ1 F1 H1 fs1 [] s1 wd1.drop_own ⟨at_bl, rfl⟩ (fun i e => by cases e) h1⟩
  · exact h1.elim
theorem de_if (hc : PT X c (tB C vc Tc)) (ha : PE X a (tD C wa t k Ta)) (hb : PE X b (tD C wb t k Tb)) : PE X (.IfExp c a b pos) (tD C (wIf vc wa wb) t k (Tc ++ (Ta ++ Tb))) := PE.imp (pe_ifExp hc ha hb) fun σ H Q h => by
  obtain ⟨L, F, ρ, fs, g, Qd, Xd, wd, h, xo, q⟩ := h
  refine ⟨L, F, ρ, fs, g, _, Xd, wd, h, xo.sub (fun i hi => List.mem_append_left _ hi), fun b ρ1 F1 H1 fs1 s1 wd1 h1 => ?_⟩
  have xo1 := xo.next s1 (fun _ h => h) (fun w => w)
  cases b with
  | true =>
    exact ⟨L, F1, ρ1, fs1, g, Qd, Xd, wd1, h1, xo1.sub (fun i hi => List.mem_append_left _ hi), fun d v ρ2 F2 H2 fs2 fp s2 wd2 r2 b2 h2 => q d v ρ2 F2 H2 fs2 fp (s1.trans (s2.wide fun i hi => List.mem_append_left _ hi)) wd2 r2 b2 h2⟩
  | false => exact ⟨L, F1, ρ1, fs1, g, Qd, Xd, wd1, h1, xo1.sub (fun i hi => List.mem_append_right _ hi), fun d v ρ2 F2 H2 fs2 fp s2 wd2 r2 b2 h2 => q d v ρ2 F2 H2 fs2 fp (s1.trans (s2.wide fun i hi => List.mem_append_right _ hi)) wd2 r2 b2 h2⟩
/-- a < b < c -/
def wCh (f f' : D → D → (D → Prop) → Prop) (wa wb wc : DE) : DE := fun X ρ Q => wa X ρ fun a ρ1 => wb X ρ1 fun b ρ2 => f a b fun r => match r with
  | .bl x => if x = true then wc X ρ2 fun c ρ3 => f' b c fun d => Q d ρ3 else Q (.bl false) ρ2
  | _ => False
theorem redCh {f f' : D → D → (D → Prop) → Prop} {r r' : R2} (h1 : Op2 C ta .z ka none .z none f r) (h2 : Op2 C .z tc none kc .z none f' r') (hk : ∀ i, ka = some i → i ∉ Tb) {Q : VK} :
    tD C (wCh f f' wa wb wc) .z none (Ta ++ (Tb ++ Tc)) σ H Q → tChain r r' (tD C wa ta ka Ta) (tD C wb .z none Tb) (tD C wc tc kc Tc) σ H Q := by
  rintro ⟨L, F, ρ, fs, g, Qd, Xd, wd, h, xo, q⟩
  refine ⟨L, F, ρ, fs, g, _, Xd, wd, h, xo.sub (fun i hi => List.mem_append_left _ hi), fun d v ρ1 F1 H1 fs1 fp s1 wd1 r1 b1 q1 => ?_⟩
  have xo1 := xo.next s1 (fun a ha => List.mem_append_right (own ka fp) ha) (fun w => w.drop)
  refine ⟨L, F1, ρ1, fs1, own ka fp ++ g, _, Xd, wd1, q1, xo1.sub (fun i hi => List.mem_append_left _ hi), fun e u ρ2 F2 H2 fs2 fq s2 wd2 r2 b2 q2 => ?_⟩
  obtain ⟨r1', b1'⟩ := keep_op s2 hk b1 r1
  have fq0 : fq = [] := r2.2
  have s12 := s1.trans (s2.sub fun a ha => List.mem_append_right _ ha)
  refine h1 L F2 H2 σ ρ2 fs2 g d e v u fp fq _ _ wd2 r1' r2 b1' q2 fun d' v' F3 H3 fp' s3 wd3 r3 _ q3 => ?_
  have s123 := s12.trans s3
  split at q3
  · rename_i x
    cases x with
    | true =>
      rw [if_pos rfl] at q3
      refine ⟨true, r3.scal_bl, ?_⟩
      rw [if_pos rfl]
      have r2' : Rep F3 H3 .z e u [] := ⟨r2.1.mono s3.gro, rfl⟩
      refine ⟨L, F3, ρ2, fs2, g, _, Xd, wd3.drop_own, q3, fun x' ρ' F' H' fs' cls dd st wd => xo x' ρ' F' H' fs' cls dd ((s123.trans st).wide (by simp)) wd, fun c w ρ4 F4 H4 fs4 fr s4 wd4 r4 b4 q4 => ?_⟩
      refine h2 L F4 H4 σ ρ4 fs4 g e c u w [] fr _ _ wd4 ⟨r2'.1.mono s4.gro, rfl⟩ r4 (fun i e => by cases e) q4 fun d5 v5 F5 H5 fp5 s5 wd5 r5 b5 q5 => ?_
      exact q d5 v5 ρ4 F5 H5 fs4 fp5 (((s123.trans s4).trans s5).wide (by simp)) wd5 r5 b5 q5
    | false =>
      rw [if_neg (by decide)] at q3
      refine ⟨false, r3.scal_bl, ?_⟩
      exact q _ _ ρ2 F3 H3 fs2 [] (s123.wide (by simp; intro i h; rcases h with h | h <;> simp [h])) wd3.drop_own ⟨at_bl, rfl⟩ (fun i e => by cases e) q3
  · exact q3.elim
theorem de_ch {op op' : CmpOp} {f f' : D → D → (D → Prop) → Prop} {r r' : R2} (o1 : OpR X (compareOp op) r) (h1 : Op2 C ta .z ka none .z none f r) (o2 : OpR X (compareOp op') r') (h2 : Op2 C .z tc none kc .z none f' r') (ha : PE X a (tD C wa ta ka Ta)) (hb : PE X b (tD C wb .z none Tb)) (hc : PE X c (tD C wc tc kc Tc))
    (hm : lastMarks [op, op'] [b, c] = false := by with_unfolding_all rfl) (hk : ∀ i, ka = some i → i ∉ Tb := by simp) : PE X (.Compare a [op, op'] [b, c] pos) (tD C (wCh f f' wa wb wc) .z none (Ta ++ (Tb ++ Tc))) :=
  PE.imp (pe_chain o1 o2 ha hb hc hm) fun _ _ _ h => redCh h1 h2 hk h
theorem db_ch {op op' : CmpOp} {f f' : D → D → (D → Prop) → Prop} {r r' : R2} (o1 : OpR X (compareOp op) r) (h1 : Op2 C ta .z ka none .z none f r) (o2 : OpR X (compareOp op') r') (h2 : Op2 C .z tc none kc .z none f' r') (ha : PE X a (tD C wa ta ka Ta)) (hb : PE X b (tD C wb .z none Tb)) (hc : PE X c (tD C wc tc kc Tc))
    (hm : lastMarks [op, op'] [b, c] = false := by with_unfolding_all rfl) (hk : ∀ i, ka = some i → i ∉ Tb := by simp) : PT X (.Compare a [op, op'] [b, c] pos) (tB C (wIs (wCh f f' wa wb wc)) (Ta ++ (Tb ++ Tc))) :=
  PT.imp (pt_chain o1 o2 ha hb hc hm) fun _ _ _ h => redCh h1 h2 hk (redIs h)
end

/-! ### statements -/
/-- from a state of a body to a later one; Fx: the slots that keep their value's place -/
structure SSt (Fx : List Nat) (F H : Hp) (σ : L2.St) (g : List Addr) (F' H' : Hp) (σ' : L2.St) : Prop where
  gro : Gro F F'
  fr : ∀ a ∈ g, H' a = H a
  fx : ∀ i ∈ Fx, σ'[i]? = σ[i]?
theorem SSt.rfl {Fx : List Nat} {F H : Hp} {σ : L2.St} {g : List Addr} : SSt Fx F H σ g F H σ := ⟨Gro.rfl, fun _ _ => Eq.refl _, fun _ _ => Eq.refl _⟩
theorem SSt.trans {Fx : List Nat} {F H F1 H1 F2 H2 : Hp} {σ σ1 σ2 : L2.St} {g : List Addr} (a : SSt Fx F H σ g F1 H1 σ1) (b : SSt Fx F1 H1 σ1 g F2 H2 σ2) : SSt Fx F H σ g F2 H2 σ2 :=
  ⟨a.gro.trans b.gro, fun x h => (b.fr x h).trans (a.fr x h), fun i h => (b.fx i h).trans (a.fx i h)⟩
theorem SSt.of {T Fx : List Nat} {F H F1 H1 : Hp} {σ : L2.St} {ρ ρ1 : Rho} {fs fs1 : List (List Addr)} {g : List Addr} (a : Step T F H ρ fs g F1 H1 ρ1 fs1) : SSt Fx F H σ g F1 H1 σ := ⟨a.gro, a.fr, fun _ _ => Eq.refl _⟩

/-- a statement's reading; tr: what is returned; Fx: slots that are not assigned -/
def tS (C : Cf) (tr : Ty) (Fx : List Nat) (ws : DS) : TS := fun D σ H =>
  ∃ L F ρ fs g P Xd, Wd L C.Γ F H σ ρ fs g ∧ ws Xd P ρ ∧
    (∀ ρ' σ' F' H' fs', SSt Fx F H σ g F' H' σ' → Wd L C.Γ F' H' σ' ρ' fs' g → (P.nx ρ' → D.nx σ' H') ∧ (P.bk ρ' → D.bk σ' H') ∧ (P.ct ρ' → D.ct σ' H')) ∧
    (∀ d v ρ' σ' F' H' fs' fp, SSt Fx F H σ g F' H' σ' → Wd L C.Γ F' H' σ' ρ' fs' (fp ++ g) → Rep F' H' tr d v fp → P.rt d ρ' → D.rt v H') ∧
    (∀ x ρ' σ' F' H' fs' cls dd, SSt Fx F H σ g F' H' σ' → Wd L C.Γ F' H' σ' ρ' fs' g → XR C.CA F' H' x cls dd → Xd x ρ' → C.W cls dd σ' H')
/-- the rest, behind a step -/
theorem tS_next {L : List Addr} {C : Cf} {tr : Ty} {Fx : List Nat} {ws : DS} {D : Ends} {σ σ1 : L2.St} {H F F1 H1 : Hp} {g : List Addr} {P : DEnds} {Xd : XD} {ρ1 : Rho} {fs1 : List (List Addr)}
    (n : ∀ ρ' σ' F' H' fs', SSt Fx F H σ g F' H' σ' → Wd L C.Γ F' H' σ' ρ' fs' g → (P.nx ρ' → D.nx σ' H') ∧ (P.bk ρ' → D.bk σ' H') ∧ (P.ct ρ' → D.ct σ' H'))
    (r : ∀ d v ρ' σ' F' H' fs' fp, SSt Fx F H σ g F' H' σ' → Wd L C.Γ F' H' σ' ρ' fs' (fp ++ g) → Rep F' H' tr d v fp → P.rt d ρ' → D.rt v H')
    (x : ∀ x ρ' σ' F' H' fs' cls dd, SSt Fx F H σ g F' H' σ' → Wd L C.Γ F' H' σ' ρ' fs' g → XR C.CA F' H' x cls dd → Xd x ρ' → C.W cls dd σ' H')
    (s : SSt Fx F H σ g F1 H1 σ1) (wd : Wd L C.Γ F1 H1 σ1 ρ1 fs1 g) (h : ws Xd P ρ1) : tS C tr Fx ws D σ1 H1 :=
  ⟨L, F1, ρ1, fs1, g, P, Xd, wd, h, fun ρ' σ' F' H' fs' st => n ρ' σ' F' H' fs' (s.trans st), fun d v ρ' σ' F' H' fs' fp st => r d v ρ' σ' F' H' fs' fp (s.trans st), fun e ρ' σ' F' H' fs' cls dd st => x e ρ' σ' F' H' fs' cls dd (s.trans st)⟩

/-- what an own value may be taken for -/
inductive Coe : Ty → Option Nat → Ty → Prop
  | same {t : Ty} : Coe t none t
  | fz {t : Ty} (h : t.fz = true) : Coe t none .z
theorem Coe.use {t t' : Ty} {k : Option Nat} {L : List Addr} {Γ : List Ty} {F H : Hp} {σ : L2.St} {ρ : Rho} {fs : List (List Addr)} {g fp : List Addr} {d : D} {v : V} (c : Coe t k t') (w : Wd L Γ F H σ ρ fs (own k fp ++ g)) (r : Rep F H t d v fp) :
    ∃ F' fp', Wd L Γ F' H σ ρ fs (fp' ++ g) ∧ Rep F' H t' d v fp' ∧ Step [] F H ρ fs g F' H ρ fs := by
  cases c with
  | same => exact ⟨F, fp, w, r, Step.rfl⟩
  | fz h => exact ⟨_, [], w.freeze, ⟨r.freeze w.gro_freeze h fun a ha => over_in ha, rfl⟩, w.stepF⟩

def sNext : DS := fun _ P ρ => P.nx ρ
def sSeq (s u : DS) : DS := fun X P ρ => s X { P with nx := u X P } ρ
def sBreak : DS := fun _ P ρ => P.bk ρ
def sCont : DS := fun _ P ρ => P.ct ρ
def sExpr (w : DE) : DS := fun X P ρ => w X ρ fun _ ρ1 => P.nx ρ1
def sRet (w : DE) : DS := fun X P ρ => w X ρ P.rt
def sRetN : DS := fun _ P ρ => P.rt .non ρ
def sIf (c : DB) (s u : DS) : DS := fun X P ρ => c X ρ fun b ρ1 => if b = true then s X P ρ1 else u X P ρ1
def sSet (i : Nat) (w : DE) : DS := fun X P ρ => w X ρ fun d ρ1 => P.nx (put ρ1 i (some d))

section
variable {X : Cx} {C : Cf} {pos : Pos} {e c : Expr} {w : DE} {vc : DB} {t tr : Ty} {k : Option Nat} {T Tc Fx : List Nat} {st : Stmt} {rest a b : List Stmt} {s u : DS}
theorem ds_nil : PSs X [] (tS C tr Fx sNext) := PSs.imp pss_nil fun D σ H h => by
  obtain ⟨L, F, ρ, fs, g, P, Xd, wd, h, n, _⟩ := h
  exact (n ρ σ F H fs SSt.rfl wd).1 h
theorem ds_cons (h1 : PS X st (tS C tr Fx s)) (h2 : PSs X rest (tS C tr Fx u)) : PSs X (st :: rest) (tS C tr Fx (sSeq s u)) := PSs.imp (pss_cons h1 h2) fun D σ H h => by
  obtain ⟨L, F, ρ, fs, g, P, Xd, wd, h, n, r, x⟩ := h
  exact ⟨L, F, ρ, fs, g, _, Xd, wd, h, fun ρ' σ' F' H' fs' st wd' => ⟨fun q => tS_next n r x st wd' q, (n ρ' σ' F' H' fs' st wd').2⟩, r, x⟩
theorem ds_one (h1 : PS X st (tS C tr Fx s)) : PSs X [st] (tS C tr Fx s) := pss_one h1
theorem ds_pass : PS X (.Pass pos) (tS C tr Fx sNext) := PS.imp ps_pass fun D σ H h => by
  obtain ⟨L, F, ρ, fs, g, P, Xd, wd, h, n, _⟩ := h
  exact (n ρ σ F H fs SSt.rfl wd).1 h
theorem ds_break : PS X (.Break pos) (tS C tr Fx sBreak) := PS.imp ps_break fun D σ H h => by
  obtain ⟨L, F, ρ, fs, g, P, Xd, wd, h, n, _⟩ := h
  exact (n ρ σ F H fs SSt.rfl wd).2.1 h
theorem ds_cont : PS X (.Continue pos) (tS C tr Fx sCont) := PS.imp ps_continue fun D σ H h => by
  obtain ⟨L, F, ρ, fs, g, P, Xd, wd, h, n, _⟩ := h
  exact (n ρ σ F H fs SSt.rfl wd).2.2 h
/-- an error of an expression in a statement -/
theorem XOk.of {Xd : XD} {L : List Addr} {F H : Hp} {σ : L2.St} {ρ : Rho} {fs : List (List Addr)} {g : List Addr} (x : ∀ x ρ' σ' F' H' fs' cls dd, SSt Fx F H σ g F' H' σ' → Wd L C.Γ F' H' σ' ρ' fs' g → XR C.CA F' H' x cls dd → Xd x ρ' → C.W cls dd σ' H') : XOk C T Xd L F H σ ρ fs g :=
  fun e ρ' F' H' fs' cls dd st wd xr hx => x e ρ' σ F' H' fs' cls dd (SSt.of st) wd xr hx
theorem ds_expr (he : PE X e (tD C w t k T)) (hs : swapsWith e none pos.line X.env = pure false := by rfl) : PS X (.Expr e pos) (tS C tr Fx (sExpr w)) := PS.imp (ps_expr he hs) fun D σ H h => by
  obtain ⟨L, F, ρ, fs, g, P, Xd, wd, h, n, r, x⟩ := h
  exact ⟨L, F, ρ, fs, g, _, Xd, wd, h, XOk.of x, fun d v ρ1 F1 H1 fs1 fp s1 wd1 r1 b1 h1 => (n ρ1 σ F1 H1 fs1 (SSt.of s1) wd1.drop_own).1 h1⟩
theorem ds_ret (hc : Coe t k tr) (he : PE X e (tD C w t k T)) : PS X (.Return (some e) pos) (tS C tr Fx (sRet w)) := PS.imp (ps_ret he) fun D σ H h => by
  obtain ⟨L, F, ρ, fs, g, P, Xd, wd, h, n, r, x⟩ := h
  refine ⟨L, F, ρ, fs, g, _, Xd, wd, h, XOk.of x, fun d v ρ1 F1 H1 fs1 fp s1 wd1 r1 b1 h1 => ?_⟩
  obtain ⟨F2, fp2, wd2, r2, s2⟩ := hc.use wd1 r1
  exact r d v ρ1 σ F2 H1 fs1 fp2 ((SSt.of s1).trans (SSt.of s2)) wd2 r2 h1
theorem ds_retN : PS X (.Return none pos) (tS C .z Fx sRetN) := PS.imp ps_retN fun D σ H h => by
  obtain ⟨L, F, ρ, fs, g, P, Xd, wd, h, n, r, x⟩ := h
  exact r .non .non ρ σ F H fs [] SSt.rfl wd ⟨at_non, rfl⟩ h
theorem ds_if (hc : PT X c (tB C vc Tc)) (ha : PSs X a (tS C tr Fx s)) (hb : PSs X b (tS C tr Fx u)) : PS X (.If c a b pos) (tS C tr Fx (sIf vc s u)) := PS.imp (ps_if hc ha hb) fun D σ H h => by
  obtain ⟨L, F, ρ, fs, g, P, Xd, wd, h, n, r, x⟩ := h
  refine ⟨L, F, ρ, fs, g, _, Xd, wd, h, XOk.of x, fun b ρ1 F1 H1 fs1 s1 wd1 h1 => ?_⟩
  cases b with
  | true => exact tS_next n r x (SSt.of s1) wd1 h1
  | false => exact tS_next n r x (SSt.of s1) wd1 h1
theorem ds_set (i : Nat) {y : Str} {pos' : Pos} {t' : Ty} (hc : Coe t k t') (hN : X.N.Nodup) (he : PE X e (tD C w t k T)) (ht : C.Γ[i]? = some t' := by rfl) (hi : X.N[i]? = some y := by rfl) (hx : Loc X.env.scope y := by first | exact .inl rfl | exact .inr rfl) (hfx : i ∉ Fx := by simp)
    (hs : swapsWith e (some (.Name y pos')) pos.line X.env = pure false := by rfl) (hf : X.fn y = true ∨ X.env.scope.names.lookup y = some .local := by first | exact .inl rfl | exact .inr rfl | assumption) :
    PS X (.Assign [.Name y pos'] e pos) (tS C tr Fx (sSet i w)) := PS.imp (ps_set hN hi hx he hs hf) fun D σ H h => by
  obtain ⟨L, F, ρ, fs, g, P, Xd, wd, h, n, r, x⟩ := h
  refine ⟨L, F, ρ, fs, g, _, Xd, wd, h, XOk.of x, fun d v ρ1 F1 H1 fs1 fp s1 wd1 r1 b1 h1 => ?_⟩
  obtain ⟨F2, fp2, wd2, r2, s2⟩ := hc.use wd1 r1
  refine (n (put ρ1 i (some d)) (σ.set i (some v)) F2 H1 (fs1.set i fp2) ?_ (by rw [put_eq]; exact wd2.put ht r2)).1 h1
  refine ((SSt.of s1).trans (SSt.of s2)).trans ⟨Gro.rfl, fun _ _ => rfl, fun j hj => ?_⟩
  refine List.getElem?_set_ne fun e => hfx ?_
  rw [e]; exact hj
end
end Vo

set_option maxHeartbeats 4000000
/-! Values with owners, 5: defs and their calls. -/
namespace Vo
open PySem PySem.Spec PyProof.Rows L2

/-! ### counting -/
theorem nodup_count {l : List Addr} : l.Nodup ↔ ∀ a, l.count a ≤ 1 := by
  induction l with
  | nil => simp
  | cons x l ih =>
    rw [List.nodup_cons, ih]
    constructor
    · rintro ⟨h1, h2⟩ a
      rw [List.count_cons]
      by_cases e : x = a
      · subst e
        rw [List.count_eq_zero.mpr h1]
        simp
      · have : (x == a) = false := by simpa using e
        rw [this]
        simpa using h2 a
    · intro h
      refine ⟨fun m => ?_, fun a => ?_⟩
      · have h1 := h x
        rw [List.count_cons_self] at h1
        have h2 := List.count_pos_iff.mpr m
        omega
      · have h1 := h a
        rw [List.count_cons] at h1
        omega
def cn (fs : List (List Addr)) (a : Addr) : Nat := fs.flatten.count a
theorem cn_set : ∀ {fs : List (List Addr)} {i : Nat} {f : List Addr} (a : Addr), i < fs.length → cn (fs.set i f) a + (fsAt fs i).count a = cn fs a + f.count a
  | [], _, _, _, h => by simp at h
  | x :: r, 0, f, a, _ => by simp [cn, fsAt]; omega
  | x :: r, i + 1, f, a, h => by
    have ih := cn_set (fs := r) (i := i) (f := f) a (by simpa using h)
    simp only [cn, fsAt, List.set_cons_succ, List.flatten_cons, List.count_append, List.getD_cons_succ] at ih ⊢
    omega
theorem cn_pos {fs : List (List Addr)} {a : Addr} : a ∈ fs.flatten ↔ 0 < cn fs a := List.count_pos_iff.symm
theorem cn_at {fs : List (List Addr)} (i : Nat) (a : Addr) : (fsAt fs i).count a ≤ cn fs a := by
  by_cases h : i < fs.length
  · have := cn_set (fs := fs) (i := i) (f := []) a h
    simp at this
    omega
  · unfold fsAt
    rw [List.getD_eq_getElem?_getD, List.getElem?_eq_none (by omega)]
    simp

/-! ### a def -/
/-- a promise over plain values: the arguments, what follows (the answer, the parameters that may be changed), what follows an error -/
abbrev DSp := List D → (D → Rho → Prop) → XD → Prop
def spD (CA : CAd) (ms : List Ty) (tr : Ty) (Φ : DSp) : Sp := fun vs H Q E => ∃ L F ds fps g Qd Xd, Wd L ms F H (vs.map some) (ds.map some) fps g ∧ Φ ds Qd Xd ∧
  (∀ d v os F' H' fps' fp, Gro F F' → (∀ a ∈ g, H' a = H a) → Wd L ms F' H' (vs.map some) os fps' (fp ++ g) → Rep F' H' tr d v fp → Qd d os → Q v H') ∧
  (∀ x os F' H' fps' cls dd, Gro F F' → (∀ a ∈ g, H' a = H a) → Wd L ms F' H' (vs.map some) os fps' g → XR CA F' H' x cls dd → Xd x os → E cls dd H')
/-- what a body hands back of its parameters -/
def outs : List Ty → Rho → Rho
  | [], _ => []
  | _ :: ts, [] => none :: outs ts []
  | t :: ts, o :: r => (match t with | .z => none | _ => o) :: outs ts r
theorem outs_len : ∀ (ms : List Ty) (ρ : Rho), (outs ms ρ).length = ms.length
  | [], _ => rfl
  | _ :: ts, [] => by simp [outs, outs_len ts]
  | _ :: ts, _ :: r => by simp [outs, outs_len ts]
theorem outs_get : ∀ {ms : List Ty} {ρ : Rho} {i : Nat} {d : D}, (outs ms ρ)[i]? = some (some d) → ρ[i]? = some (some d) ∧ ms[i]? ≠ some .z
  | [], _, _, _, h => by simp [outs] at h
  | _ :: ts, [], 0, _, h => by simp [outs] at h
  | _ :: ts, [], i + 1, _, h => by
    simp only [outs, List.getElem?_cons_succ] at h
    have := outs_get h
    simp at this
  | t :: ts, o :: r, 0, d, h => by
    simp only [outs, List.getElem?_cons_zero, Option.some.injEq] at h
    cases t with
    | z => cases h
    | ls t => subst h; simp
    | pot => subst h; simp
  | t :: ts, o :: r, i + 1, d, h => by
    simp only [outs, List.getElem?_cons_succ] at h ⊢
    exact outs_get h

section
variable {L : List Addr} {ms ls : List Ty} {F H : Hp} {vs : List V} {ds : List D} {fps fs : List (List Addr)} {g : List Addr} {N : List Str} {σ : L2.St} {ρ : Rho}
theorem Wd.begin_ (w : Wd L ms F H (vs.map some) (ds.map some) fps g) (hN : N.length = (ms ++ ls).length) :
    Wd L (ms ++ ls) F H (L2.start N vs) (ds.map some ++ List.replicate ls.length none) (fps ++ List.replicate ls.length []) g := by
  have lv : vs.length = ms.length := by have := w.ls; simpa using this
  have ld : ds.length = ms.length := by have := w.lr; simpa using this
  have e0 : ((fps ++ List.replicate ls.length ([] : List Addr))).flatten = fps.flatten := by
    rw [List.flatten_append]
    have : (List.replicate ls.length ([] : List Addr)).flatten = [] := by
      induction ls.length with
      | zero => rfl
      | succ n ih => simp
    rw [this, List.append_nil]
  refine ⟨by simp [w.lf], by simp [ld], ?_, w.le, by rw [e0]; exact w.nd, by rw [e0]; exact w.out, fun i t d ht hd => ?_⟩
  · unfold L2.start
    simp only [List.length_append, List.length_map, List.length_replicate]
    rw [hN, lv]
    simp
  · have hi : i < ms.length := by
      by_cases h : i < ms.length
      · exact h
      · rw [List.getElem?_append_right (by simp [ld]; omega)] at hd
        rw [List.getElem?_replicate] at hd
        split at hd
        · cases hd
        · cases hd
    rw [List.getElem?_append_left hi] at ht
    rw [List.getElem?_append_left (by simp [ld]; exact hi)] at hd
    obtain ⟨v, e, r⟩ := w.sl i t d ht hd
    refine ⟨v, ?_, ?_⟩
    · unfold L2.start
      rw [List.getElem?_append_left (by simp [lv]; exact hi)]
      exact e
    · have : fsAt (fps ++ List.replicate ls.length []) i = fsAt fps i := by
        unfold fsAt
        rw [List.getD_eq_getElem?_getD, List.getD_eq_getElem?_getD, List.getElem?_append_left (by rw [w.lf]; exact hi)]
      rw [this]
      exact r
theorem Wd.stop (w : Wd L (ms ++ ls) F H σ ρ fs g) (lv : vs.length = ms.length) {Fx : List Nat} (hx : ∀ i ∈ Fx, σ[i]? = (L2.start N vs)[i]?) (hF : ∀ j t, ms[j]? = some t → t ≠ .z → j ∈ Fx) :
    Wd L ms F H (vs.map some) (outs ms ρ) (fs.take ms.length) g := by
  have lf : ms.length ≤ fs.length := by have := w.lf; simp at this; omega
  have sub : ∀ a, cn (fs.take ms.length) a ≤ cn fs a := fun a => by
    have e : fs.flatten = (fs.take ms.length).flatten ++ (fs.drop ms.length).flatten := by rw [← List.flatten_append, List.take_append_drop]
    unfold cn
    rw [e, List.count_append]
    omega
  refine ⟨by simp; omega, outs_len _ _, by simp [lv], w.le, ?_, fun a ha => w.out a ?_, fun i t d ht hd => ?_⟩
  · rw [nodup_count]
    intro a
    have h := nodup_count.mp w.nd a
    have := sub a
    unfold cn at this
    rw [List.count_append] at h ⊢
    omega
  · rcases List.mem_append.mp ha with m | m
    · refine List.mem_append_left _ (cn_pos.mpr ?_)
      have := sub a
      have := cn_pos.mp m
      omega
    · exact List.mem_append_right _ m
  · obtain ⟨hd', nz⟩ := outs_get hd
    have hi : i < ms.length := (List.getElem?_eq_some_iff.mp ht).1
    have tz : t ≠ .z := fun e => nz (by rw [ht, e])
    obtain ⟨v, e, r⟩ := w.sl i t d (by rw [List.getElem?_append_left hi]; exact ht) hd'
    refine ⟨v, ?_, ?_⟩
    · rw [hx i (hF i t ht tz)] at e
      unfold L2.start at e
      rw [List.getElem?_append_left (by simp [lv]; exact hi)] at e
      exact e
    · have : fsAt (fs.take ms.length) i = fsAt fs i := by
        unfold fsAt
        rw [List.getD_eq_getElem?_getD, List.getD_eq_getElem?_getD, List.getElem?_take_of_lt hi]
      rw [this]
      exact r
end

/-- THE RULE for a def: its body's reading, and the promise over plain values -/
theorem fn_okD {P : Program} {w : World} {K : PySem.W.Frag} {mg : Str → Option Value} {base : Heap} {x qual : Str} {params : Arguments} {body : List Stmt} {scope : Scope} {f : Addr} {fd : FuncData} {N ps : List Str} {k : Nat} {CA : CAd} {ms ls : List Ty} {tr : Ty} {Fx : List Nat} {ws : DS} {Φ : DSp}
    (F : FunD K x qual params body scope [] [] f fd) (S : FnScope N ps scope) (hN : N.length = (ms ++ ls).length) (hps : ms.length = ps.length) (hF : ∀ j t, ms[j]? = some t → t ≠ .z → j ∈ Fx)
    (hb : ∀ (cdv : Value) (A : Around) (outer : List Env) (s : Shared) (H : Hp) (E : XK), Room k (A.deeper (envOfC qual scope s.heap.objs.size f cdv)) →
      PSs (cxOf (L2.CX P w) P w K mg base N qual scope f cdv A outer s H E) body (tS ⟨ms ++ ls, CA, fun cls d _ H' => E cls d H'⟩ tr Fx ws))
    (hw : ∀ ds Qd Xd, Φ ds Qd Xd → ws (fun x ρ => Xd x (outs ms ρ)) { nx := fun ρ => tr = .z ∧ Qd .non (outs ms ρ), rt := fun d ρ => Qd d (outs ms ρ) } (ds.map some ++ List.replicate ls.length none)) :
    FnOk P w K mg base (L2.CX P w) (k + 1) f fd ps (spD CA ms tr Φ) := by
  refine F.ok S (fun vs H Q E h => ?_) (fun cdv A outer s H vs Q E hr h => ⟨_, hb cdv A outer s H E hr, ?_⟩)
  · obtain ⟨L, F, ds, fps, g, Qd, Xd, wd, _⟩ := h
    have := wd.ls
    simp at this
    omega
  · obtain ⟨L, F, ds, fps, g, Qd, Xd, wd, h, q, x⟩ := h
    have lv : vs.length = ms.length := by have := wd.ls; simpa using this
    refine ⟨L, F, _, _, g, _, _, wd.begin_ hN, hw ds Qd Xd h, fun ρ' σ' F' H' fs' st wd' => ⟨?_, fun z => z.elim, fun z => z.elim⟩, fun d v ρ' σ' F' H' fs' fp st wd' r hd => ?_, fun e ρ' σ' F' H' fs' cls dd st wd' xr hx => ?_⟩
    · rintro ⟨ez, hd⟩
      refine q .non .non (outs ms ρ') F' H' _ [] st.gro st.fr (wd'.stop lv st.fx hF) ?_ hd
      rw [ez]
      exact ⟨at_non, rfl⟩
    · exact q d v (outs ms ρ') F' H' _ fp st.gro st.fr (wd'.stop lv st.fx hF) r hd
    · exact x e (outs ms ρ') F' H' _ cls dd st.gro st.fr (wd'.stop lv st.fx hF) xr hx

/-! ### arguments -/
/-- an argument: a value, or a slot that the callee may change -/
inductive AK where
  | e (t : Ty) (k : Option Nat)
  | inn (i : Nat)
def RepA (F H : Hp) (σ : L2.St) (fs : List (List Addr)) : List AK → List D → List V → List (List Addr) → Prop
  | [], ds, vs, fps => ds = [] ∧ vs = [] ∧ fps = []
  | .e t k :: as, ds, vs, fps => ∃ d v fp ds' vs' fps', ds = d :: ds' ∧ vs = v :: vs' ∧ fps = fp :: fps' ∧ Rep F H t d v fp ∧ (∀ i, k = some i → ∀ a ∈ fp, a ∈ fsAt fs i) ∧ RepA F H σ fs as ds' vs' fps'
  | .inn i :: as, ds, vs, fps => ∃ v ds' vs' fps', ds = .non :: ds' ∧ vs = v :: vs' ∧ fps = [] :: fps' ∧ σ[i]? = some (some v) ∧ RepA F H σ fs as ds' vs' fps'
/-- what the temporaries among the arguments own -/
def ownA : List AK → List (List Addr) → List Addr
  | .e _ k :: as, fp :: fps => own k fp ++ ownA as fps
  | .inn _ :: as, _ :: fps => ownA as fps
  | _, _ => []
def tA (C : Cf) (wl : DL) (as : List AK) (T : List Nat) : TA := fun σ H Q =>
  ∃ L F ρ fs g Qd Xd, Wd L C.Γ F H σ ρ fs g ∧ wl Xd ρ Qd ∧ XOk C T Xd L F H σ ρ fs g ∧
    ∀ ds vs ρ' F' H' fs' fps, Step T F H ρ fs g F' H' ρ' fs' → Wd L C.Γ F' H' σ ρ' fs' (ownA as fps ++ g) → RepA F' H' σ fs' as ds vs fps → Qd ds ρ' → Q vs H'
def wNil : DL := fun _ ρ Q => Q [] ρ
def wInn (i : Nat) (wl : DL) : DL := fun X ρ Q => match slot ρ i with
  | some _ => wl X ρ fun ds ρ2 => Q (.non :: ds) ρ2
  | none => False
def wCons (wa : DE) (wl : DL) : DL := fun X ρ Q => wa X ρ fun d ρ1 => wl X ρ1 fun ds ρ2 => Q (d :: ds) ρ2
section
variable {X : Cx} {C : Cf} {e : Expr} {es : List Expr} {wa : DE} {wl : DL} {as : List AK} {t : Ty} {k : Option Nat} {Ta T : List Nat}
theorem da_nil : PA X [] (tA C wNil [] []) := PA.imp pa_nil fun σ H Q h => by
  obtain ⟨L, F, ρ, fs, g, Qd, Xd, wd, h, xo, q⟩ := h
  exact q [] [] ρ F H fs [] Step.rfl wd ⟨rfl, rfl, rfl⟩ h
theorem da_cons (ha : PE X e (tD C wa t k Ta)) (hr : PA X es (tA C wl as T)) (hk : ∀ i, k = some i → i ∉ T := by simp) (hs : starEach (e :: es) X.env = (false, eval e X.env) :: starEach es X.env := by rfl) :
    PA X (e :: es) (tA C (wCons wa wl) (.e t k :: as) (Ta ++ T)) := PA.imp (pa_cons ha hr hs) fun σ H Q h => by
  obtain ⟨L, F, ρ, fs, g, Qd, Xd, wd, h, xo, q⟩ := h
  refine ⟨L, F, ρ, fs, g, _, Xd, wd, h, xo.sub (fun i hi => List.mem_append_left _ hi), fun d v ρ1 F1 H1 fs1 fp s1 wd1 r1 b1 h1 => ?_⟩
  refine ⟨L, F1, ρ1, fs1, own k fp ++ g, _, Xd, wd1, h1, xo.next s1 (fun a ha => List.mem_append_right _ ha) (fun w => w.drop), fun ds vs ρ2 F2 H2 fs2 fps s2 wd2 r2 h2 => ?_⟩
  obtain ⟨r1', b1'⟩ := keep_op s2 hk b1 r1
  refine q (d :: ds) (v :: vs) ρ2 F2 H2 fs2 (fp :: fps) (s1.trans (s2.sub fun a ha => List.mem_append_right _ ha)) ?_ ⟨d, v, fp, ds, vs, fps, rfl, rfl, rfl, r1', b1', r2⟩ h2
  refine wd2.perm ?_
  show (ownA as fps ++ (own k fp ++ g)).Perm ((own k fp ++ ownA as fps) ++ g)
  rw [← List.append_assoc]
  exact List.Perm.append_right _ List.perm_append_comm
theorem da_inn (i : Nat) {t : Ty} {x : Str} {pos : Pos} (hr : PA X es (tA C wl as T)) (ht : C.Γ[i]? = some t := by rfl) (hN : X.N[i]? = some x := by rfl) (hv : Vis X.env.scope x := by first | exact .inl rfl | exact .inr (.inl rfl) | exact .inr (.inr rfl)) (hd : (x == ("__debug__" : Str)) = false := by decide) (hcd : (x == ("__classdict__" : Str)) = false := by decide) :
    PA X (.Name x pos :: es) (tA C (wInn i wl) (.inn i :: as) T) := PA.imp (pa_cons (pe_var (i := i) hN hv hd hcd) hr (by rfl)) fun σ H Q h => by
  obtain ⟨L, F, ρ, fs, g, Qd, Xd, wd, h, xo, q⟩ := h
  unfold wInn at h
  split at h
  · rename_i d e
    obtain ⟨v, ev, r⟩ := wd.at ht (slot_some e)
    refine ⟨v, ev, L, F, ρ, fs, g, _, Xd, wd, h, xo, fun ds vs ρ2 F2 H2 fs2 fps s2 wd2 r2 h2 => ?_⟩
    exact q (.non :: ds) (v :: vs) ρ2 F2 H2 fs2 ([] :: fps) s2 wd2 ⟨v, ds, vs, fps, rfl, rfl, rfl, ev, r2⟩ h2
  · exact h.elim
end
end Vo

set_option maxHeartbeats 4000000
/-! Values with owners, 6: the call of a def. -/
namespace Vo
open PySem PySem.Spec PyProof.Rows L2

/-! ### values without lists -/
mutual
def pureD : D → Bool
  | .non => true
  | .bl _ => true
  | .int _ => true
  | .str _ => true
  | .tup ds => pureDs ds
  | _ => false
def pureDs : List D → Bool
  | [] => true
  | d :: ds => pureD d && pureDs ds
end
def clean : Ty → D → Bool
  | .z, d => pureD d
  | .ls t, .lst ds => ds.all (clean t)
  | .ls _, _ => false
  | .pot, _ => true
mutual
theorem At.unfz {F F' : Hp} (k : ∀ p vs, F p = some (.tup vs) → F' p = some (.tup vs)) : ∀ {d : D} {v : V}, pureD d = true → At F d v → At F' d v
  | .non, _, _, h => h
  | .bl _, _, _, h => h
  | .int _, _, _, h => h
  | .str _, _, _, h => h
  | .tup _, _, c, h => by
    unfold At at h ⊢
    obtain ⟨p, vs, e, q, l⟩ := h
    exact ⟨p, vs, e, k _ _ q, AtL.unfz k (by simpa [pureD] using c) l⟩
  | .lst _, _, c, _ => by simp [pureD] at c
  | .dic _ _ _, _, c, _ => by simp [pureD] at c
  | .obj _ _ _, _, c, _ => by simp [pureD] at c
  | .pot _ _ _ _, _, c, _ => by simp [pureD] at c
  | .scr _ _ _, _, c, _ => by simp [pureD] at c
theorem AtL.unfz {F F' : Hp} (k : ∀ p vs, F p = some (.tup vs) → F' p = some (.tup vs)) : ∀ {ds : List D} {vs : List V}, pureDs ds = true → AtL F ds vs → AtL F' ds vs
  | [], _, _, h => h
  | _ :: _, _, c, h => by
    unfold AtL at h ⊢
    obtain ⟨v, r, e, a, b⟩ := h
    simp only [pureDs, Bool.and_eq_true] at c
    exact ⟨v, r, e, At.unfz k c.1 a, AtL.unfz k c.2 b⟩
end
theorem Rep.unfz {F F' H : Hp} (k : ∀ p vs, F p = some (.tup vs) → F' p = some (.tup vs)) : ∀ {t : Ty} {d : D} {v : V} {fp : List Addr}, clean t d = true → Rep F H t d v fp → Rep F' H t d v fp
  | .z, _, _, _, c, h => ⟨h.1.unfz k c, h.2⟩
  | .ls t, _, _, _, c, h => by
    obtain ⟨ds, p, vs, fs, rfl, rfl, hp, l, rfl⟩ := h
    refine ⟨ds, p, vs, fs, rfl, rfl, hp, ?_, rfl⟩
    have c' : ∀ d ∈ ds, clean t d = true := by simpa [clean] using c
    have all : ∀ {ds : List D} {vs : List V} {fs : List (List Addr)}, (∀ d ∈ ds, clean t d = true) → RepL (Rep F H t) ds vs fs → RepL (Rep F' H t) ds vs fs := by
      intro ds
      induction ds with
      | nil => intro vs fs _ h; exact h
      | cons d ds ih =>
        intro vs fs c h
        obtain ⟨v, r, f, q, e1, e2, a, b⟩ := h
        exact ⟨v, r, f, q, e1, e2, Rep.unfz k (c d List.mem_cons_self) a, ih (fun d hd => c d (List.mem_cons_of_mem _ hd)) b⟩
    exact all c' l
  | .pot, _, _, _, _, h => h
/-- an owned value's nodes are no tuples -/
theorem Rep.node {F H : Hp} : ∀ {t : Ty} {d : D} {v : V} {fp : List Addr}, Rep F H t d v fp → ∀ a ∈ fp, ∃ u, H a = some u ∧ isD u = false ∧ ∀ vs, u ≠ .tup vs
  | .z, _, _, _, h, a, m => by rw [h.2] at m; cases m
  | .ls t, _, _, _, h, a, m => by
    obtain ⟨ds, p, vs, fs, rfl, rfl, hp, l, rfl⟩ := h
    rcases List.mem_cons.mp m with rfl | m
    · exact ⟨_, hp, rfl, fun _ e => by cases e⟩
    · have all : ∀ {ds : List D} {vs : List V} {fs : List (List Addr)}, RepL (Rep F H t) ds vs fs → ∀ f ∈ fs, ∀ a ∈ f, ∃ u, H a = some u ∧ isD u = false ∧ ∀ vs, u ≠ .tup vs := by
        intro ds
        induction ds with
        | nil => intro vs fs h f hf; obtain ⟨_, rfl⟩ := h; cases hf
        | cons d ds ih =>
          intro vs fs h f hf a ha
          obtain ⟨v, r, f', q, rfl, rfl, x, b⟩ := h
          rcases List.mem_cons.mp hf with rfl | hf
          · exact Rep.node x a ha
          · exact ih b f hf a ha
      obtain ⟨f, hf, ha⟩ := List.mem_flatten.mp m
      exact all l f hf a ha
  | .pot, _, _, _, h, a, m => by
    obtain ⟨ns, x, b, c, p, q, rfl, rfl, hp, hq, rfl⟩ := h
    simp only [List.mem_cons, List.not_mem_nil, or_false] at m
    rcases m with rfl | rfl
    · exact ⟨_, hp, rfl, fun _ e => by cases e⟩
    · exact ⟨_, hq, rfl, fun _ e => by cases e⟩

/-! ### what the callee takes and gives back -/
def inns : List AK → List Nat
  | [] => []
  | .e _ _ :: as => inns as
  | .inn i :: as => i :: inns as
def insF (fs : List (List Addr)) : List AK → List (List Addr)
  | [] => []
  | .e _ _ :: as => [] :: insF fs as
  | .inn i :: as => fsAt fs i :: insF fs as
def clr (fs : List (List Addr)) : List AK → List (List Addr)
  | [] => fs
  | .e _ _ :: as => clr fs as
  | .inn i :: as => (clr fs as).set i []
def bck (fs : List (List Addr)) : List AK → List (List Addr) → List (List Addr)
  | .e _ _ :: as, _ :: fps => bck fs as fps
  | .inn i :: as, f :: fps => (bck fs as fps).set i f
  | _, _ => fs
def bckR : List AK → Rho → Rho → Rho
  | .e _ _ :: as, _ :: os, ρ => bckR as os ρ
  | .inn i :: as, o :: os, ρ => put (bckR as os ρ) i o
  | _, _, ρ => ρ
def fillD : List AK → List D → Rho → Option (List D)
  | [], _, _ => some []
  | .e _ _ :: as, d :: ds, ρ => (fillD as ds ρ).map (d :: ·)
  | .inn i :: as, _ :: ds, ρ => match slot ρ i with
    | some d => (fillD as ds ρ).map (d :: ·)
    | none => none
  | _ :: _, [], _ => none
/-- what is lent for the time of the call -/
def lent : List AK → List (List Addr) → List Addr
  | .e _ (some _) :: as, fp :: fps => fp ++ lent as fps
  | .e _ none :: as, _ :: fps => lent as fps
  | .inn _ :: as, _ :: fps => lent as fps
  | _, _ => []
def lends : List AK → List Nat
  | [] => []
  | .e _ (some i) :: as => i :: lends as
  | .e _ none :: as => lends as
  | .inn _ :: as => lends as
def fits (Γ : List Ty) : List AK → List Ty → Bool
  | [], [] => true
  | .e t _ :: as, m :: ms => t.fz && (match m with | .z => true | _ => false) && fits Γ as ms
  | .inn i :: as, m :: ms => (match Γ[i]? with | some t => decide (t = m) && (match m with | .z => false | _ => true) | none => false) && fits Γ as ms
  | _, _ => false
theorem clr_len (fs : List (List Addr)) : ∀ as, (clr fs as).length = fs.length
  | [] => rfl
  | .e _ _ :: as => clr_len fs as
  | .inn i :: as => by unfold clr; rw [List.length_set]; exact clr_len fs as
theorem bck_len (fs : List (List Addr)) : ∀ as fps, (bck fs as fps).length = fs.length
  | [], _ => by unfold bck; rfl
  | .e _ _ :: as, _ :: fps => by unfold bck; exact bck_len fs as fps
  | .inn i :: as, f :: fps => by unfold bck; rw [List.length_set]; exact bck_len fs as fps
  | .e _ _ :: _, [] => by unfold bck; rfl
  | .inn _ :: _, [] => by unfold bck; rfl
theorem bckR_len : ∀ (as : List AK) (os ρ : Rho), (bckR as os ρ).length = ρ.length
  | [], _, _ => by unfold bckR; rfl
  | .e _ _ :: as, _ :: os, ρ => by unfold bckR; exact bckR_len as os ρ
  | .inn i :: as, o :: os, ρ => by unfold bckR; rw [put_eq, List.length_set]; exact bckR_len as os ρ
  | .e _ _ :: _, [], _ => by unfold bckR; rfl
  | .inn _ :: _, [], _ => by unfold bckR; rfl
theorem clr_out (fs : List (List Addr)) : ∀ {as : List AK} {i : Nat}, i ∉ inns as → fsAt (clr fs as) i = fsAt fs i
  | [], _, _ => rfl
  | .e _ _ :: as, i, h => clr_out fs (as := as) h
  | .inn j :: as, i, h => by
    unfold clr
    rw [fsAt_set_ne fun e => h (by simp [inns, e])]
    exact clr_out fs fun m => h (List.mem_cons_of_mem _ m)
theorem bck_out (fs : List (List Addr)) : ∀ {as : List AK} {fps : List (List Addr)} {i : Nat}, i ∉ inns as → fsAt (bck fs as fps) i = fsAt fs i
  | [], _, _, _ => by unfold bck; rfl
  | .e _ _ :: as, _ :: fps, i, h => by unfold bck; exact bck_out fs (as := as) h
  | .inn j :: as, f :: fps, i, h => by
    unfold bck
    rw [fsAt_set_ne fun e => h (by simp [inns, e])]
    exact bck_out fs fun m => h (List.mem_cons_of_mem _ m)
  | .e _ _ :: _, [], _, _ => by unfold bck; rfl
  | .inn _ :: _, [], _, _ => by unfold bck; rfl
theorem bckR_out : ∀ {as : List AK} {os ρ : Rho} {i : Nat}, i ∉ inns as → (bckR as os ρ)[i]? = ρ[i]?
  | [], _, _, _, _ => by unfold bckR; rfl
  | .e _ _ :: as, _ :: os, ρ, i, h => by unfold bckR; exact bckR_out (as := as) h
  | .inn j :: as, o :: os, ρ, i, h => by
    unfold bckR
    rw [put_eq, List.getElem?_set_ne fun e => h (by simp [inns, e])]
    exact bckR_out fun m => h (List.mem_cons_of_mem _ m)
  | .e _ _ :: _, [], _, _, _ => by unfold bckR; rfl
  | .inn _ :: _, [], _, _, _ => by unfold bckR; rfl
theorem cn_ins {fs : List (List Addr)} (a : Addr) : ∀ {as : List AK}, (inns as).Nodup → (∀ i ∈ inns as, i < fs.length) → cn (insF fs as) a + cn (clr fs as) a = cn fs a
  | [], _, _ => by simp [insF, clr, cn]
  | .e _ _ :: as, hn, hb => by
    have := cn_ins (fs := fs) a (as := as) hn hb
    simpa [insF, clr, cn] using this
  | .inn i :: as, hn, hb => by
    have hn' := (List.nodup_cons.mp hn)
    have ih := cn_ins (fs := fs) a (as := as) hn'.2 fun j hj => hb j (List.mem_cons_of_mem _ hj)
    have hs := cn_set (fs := clr fs as) (i := i) (f := []) a (by rw [clr_len]; exact hb i List.mem_cons_self)
    rw [clr_out fs hn'.1] at hs
    simp only [insF, clr]
    have e : cn (fsAt fs i :: insF fs as) a = (fsAt fs i).count a + cn (insF fs as) a := by simp [cn]
    rw [e]
    simp at hs
    omega
theorem cn_bck {fs : List (List Addr)} (a : Addr) : ∀ {as : List AK} {fps : List (List Addr)}, (∀ i ∈ inns as, i < fs.length) → cn (bck fs as fps) a ≤ cn fs a + cn fps a
  | [], _, _ => by unfold bck; omega
  | .e _ _ :: as, f :: fps, hb => by
    unfold bck
    have := cn_bck (fs := fs) a (as := as) (fps := fps) hb
    have e : cn (f :: fps) a = f.count a + cn fps a := by simp [cn]
    omega
  | .inn i :: as, f :: fps, hb => by
    unfold bck
    have ih := cn_bck (fs := fs) a (as := as) (fps := fps) fun j hj => hb j (List.mem_cons_of_mem _ hj)
    have hs := cn_set (fs := bck fs as fps) (i := i) (f := f) a (by rw [bck_len]; exact hb i List.mem_cons_self)
    have e : cn (f :: fps) a = f.count a + cn fps a := by simp [cn]
    omega
  | .e _ _ :: _, [], _ => by unfold bck; simp [cn]
  | .inn _ :: _, [], _ => by unfold bck; simp [cn]
theorem cn_two {fs : List (List Addr)} {i j : Nat} (a : Addr) (h : i ≠ j) : (fsAt fs i).count a + (fsAt fs j).count a ≤ cn fs a := by
  by_cases hi : i < fs.length
  · have h1 := cn_set (fs := fs) (i := i) (f := []) a hi
    have h2 := cn_at (fs := fs.set i []) j a
    rw [fsAt_set_ne (Ne.symm h)] at h2
    simp at h1
    omega
  · have : fsAt fs i = [] := by
      unfold fsAt
      rw [List.getD_eq_getElem?_getD, List.getElem?_eq_none (by omega)]
      rfl
    rw [this]
    have := cn_at (fs := fs) j a
    simp
    omega

section
variable {Γ : List Ty} {L : List Addr} {F H : Hp} {σ : L2.St} {fs : List (List Addr)} {ρ : Rho}
theorem lent_mem : ∀ {as : List AK} {ds : List D} {vs : List V} {fps : List (List Addr)} {a : Addr}, RepA F H σ fs as ds vs fps → a ∈ lent as fps → ∃ i ∈ lends as, a ∈ fsAt fs i
  | [], _, _, fps, a, _, m => by unfold lent at m; cases m
  | .e t none :: as, _, _, _, a, h, m => by
    obtain ⟨d, v, fp, ds', vs', fps', rfl, rfl, rfl, r, b, q⟩ := h
    unfold lent at m
    exact lent_mem (as := as) q m
  | .e t (some i) :: as, _, _, _, a, h, m => by
    obtain ⟨d, v, fp, ds', vs', fps', rfl, rfl, rfl, r, b, q⟩ := h
    unfold lent at m
    rcases List.mem_append.mp m with m | m
    · exact ⟨i, List.mem_cons_self, b i rfl a m⟩
    · obtain ⟨j, hj, q'⟩ := lent_mem (as := as) q m
      exact ⟨j, List.mem_cons_of_mem _ hj, q'⟩
  | .inn i :: as, _, _, _, a, h, m => by
    obtain ⟨v, ds', vs', fps', rfl, rfl, rfl, e, q⟩ := h
    unfold lent at m
    exact lent_mem (as := as) q m
theorem lent_node : ∀ {as : List AK} {ds : List D} {vs : List V} {fps : List (List Addr)} {a : Addr}, RepA F H σ fs as ds vs fps → a ∈ lent as fps → ∃ u, H a = some u ∧ isD u = false ∧ ∀ vs, u ≠ .tup vs
  | [], _, _, fps, a, _, m => by unfold lent at m; cases m
  | .e t none :: as, _, _, _, a, h, m => by
    obtain ⟨d, v, fp, ds', vs', fps', rfl, rfl, rfl, r, b, q⟩ := h
    unfold lent at m
    exact lent_node (as := as) q m
  | .e t (some i) :: as, _, _, _, a, h, m => by
    obtain ⟨d, v, fp, ds', vs', fps', rfl, rfl, rfl, r, b, q⟩ := h
    unfold lent at m
    rcases List.mem_append.mp m with m | m
    · exact r.node a m
    · exact lent_node (as := as) q m
  | .inn i :: as, _, _, _, a, h, m => by
    obtain ⟨v, ds', vs', fps', rfl, rfl, rfl, e, q⟩ := h
    unfold lent at m
    exact lent_node (as := as) q m
theorem lent_nil : ∀ {as : List AK} {fps : List (List Addr)}, lends as = [] → lent as fps = []
  | [], _, _ => by unfold lent; rfl
  | .e t none :: as, [], _ => by unfold lent; rfl
  | .e t none :: as, _ :: fps, h => by unfold lent; exact lent_nil (as := as) h
  | .e t (some i) :: as, _, h => by simp [lends] at h
  | .inn i :: as, [], _ => by unfold lent; rfl
  | .inn i :: as, _ :: fps, h => by unfold lent; exact lent_nil (as := as) h
theorem fits_len : ∀ {as : List AK} {ms : List Ty}, fits Γ as ms = true → as.length = ms.length
  | [], [], _ => rfl
  | .e t k :: as, m :: ms, h => by
    simp only [fits, Bool.and_eq_true] at h
    simp [fits_len h.2]
  | .inn i :: as, m :: ms, h => by
    simp only [fits, Bool.and_eq_true] at h
    simp [fits_len h.2]
  | [], _ :: _, h => by simp [fits] at h
  | .e _ _ :: _, [], h => by simp [fits] at h
  | .inn _ :: _, [], h => by simp [fits] at h
theorem insF_len : ∀ {as : List AK}, (insF fs as).length = as.length
  | [] => rfl
  | .e _ _ :: as => by simp [insF, insF_len (as := as)]
  | .inn _ :: as => by simp [insF, insF_len (as := as)]
theorem RepA.lenV : ∀ {as : List AK} {ds : List D} {vs : List V} {fps : List (List Addr)}, RepA F H σ fs as ds vs fps → vs.length = as.length
  | [], _, _, _, h => by obtain ⟨_, rfl, _⟩ := h; rfl
  | .e t k :: as, _, _, _, h => by
    obtain ⟨d, v, fp, ds', vs', fps', rfl, rfl, rfl, r, b, q⟩ := h
    simp [RepA.lenV q]
  | .inn i :: as, _, _, _, h => by
    obtain ⟨v, ds', vs', fps', rfl, rfl, rfl, e, q⟩ := h
    simp [RepA.lenV q]
theorem fill_len : ∀ {as : List AK} {ds ds' : List D}, fillD as ds ρ = some ds' → ds'.length = as.length
  | [], _, _, h => by simp [fillD] at h; subst h; rfl
  | .e t k :: as, [], _, h => by simp [fillD] at h
  | .e t k :: as, d :: ds, _, h => by
    simp only [fillD, Option.map_eq_some_iff] at h
    obtain ⟨x, hx, rfl⟩ := h
    simp [fill_len hx]
  | .inn i :: as, [], _, h => by simp [fillD] at h
  | .inn i :: as, d :: ds, _, h => by
    simp only [fillD] at h
    split at h
    · simp only [Option.map_eq_some_iff] at h
      obtain ⟨x, hx, rfl⟩ := h
      simp [fill_len hx]
    · cases h
/-- what the callee finds at its parameters -/
theorem callee_sl {J : Hp} (gr : Gro F J) (slot_ok : ∀ i t d, Γ[i]? = some t → ρ[i]? = some (some d) → ∃ v, σ[i]? = some (some v) ∧ Rep F H t d v (fsAt fs i)) :
    ∀ {as : List AK} {ms : List Ty} {ds ds' : List D} {vs : List V} {fps : List (List Addr)}, fits Γ as ms = true → RepA F H σ fs as ds vs fps → fillD as ds ρ = some ds' → (∀ a ∈ ownA as fps, J a = H a) → (∀ a ∈ lent as fps, J a = H a) →
      ∀ (j : Nat) (m : Ty) (d : D), ms[j]? = some m → ds'[j]? = some d → ∃ v, vs[j]? = some v ∧ Rep J H m d v (fsAt (insF fs as) j)
  | [], ms, _, _, _, _, hf, _, hd, _, _, j, m, d, _, hj => by
    simp [fillD] at hd
    subst hd
    simp at hj
  | .e t k :: as, [], _, _, _, _, hf, _, _, _, _, _, _, _, _, _ => by simp [fits] at hf
  | .e t k :: as, m0 :: ms, _, _, _, _, hf, h, hd, hA, hB, j, m, d, hm, hj => by
    obtain ⟨d0, v0, fp, ds', vs', fps', rfl, rfl, rfl, r, b, q⟩ := h
    simp only [fits, Bool.and_eq_true] at hf
    obtain ⟨⟨hz, hmz⟩, hf'⟩ := hf
    simp only [fillD, Option.map_eq_some_iff] at hd
    obtain ⟨x, hx, rfl⟩ := hd
    have hA' : ∀ a ∈ ownA as fps', J a = H a := fun a ha => hA a (by unfold ownA; exact List.mem_append_right _ ha)
    have hB' : ∀ a ∈ lent as fps', J a = H a := fun a ha => hB a (by
      cases k with
      | none => unfold lent; exact ha
      | some i => unfold lent; exact List.mem_append_right _ ha)
    have hfp : ∀ a ∈ fp, J a = H a := fun a ha => by
      cases k with
      | none => exact hA a (by unfold ownA own; exact List.mem_append_left _ ha)
      | some i => exact hB a (by unfold lent; exact List.mem_append_left _ ha)
    cases j with
    | zero =>
      simp only [List.getElem?_cons_zero, Option.some.injEq] at hm hj
      subst hm hj
      refine ⟨v0, rfl, ?_⟩
      cases m0 with
      | z => exact ⟨r.freeze gr hz hfp, rfl⟩
      | ls _ => cases hmz
      | pot => cases hmz
    | succ j =>
      simp only [List.getElem?_cons_succ] at hm hj ⊢
      obtain ⟨v, e, r'⟩ := callee_sl gr slot_ok hf' q hx hA' hB' j m d hm hj
      exact ⟨v, e, r'⟩
  | .inn i :: as, [], _, _, _, _, hf, _, _, _, _, _, _, _, _, _ => by simp [fits] at hf
  | .inn i :: as, m0 :: ms, _, _, _, _, hf, h, hd, hA, hB, j, m, d, hm, hj => by
    obtain ⟨v0, ds', vs', fps', rfl, rfl, rfl, ev, q⟩ := h
    simp only [fits, Bool.and_eq_true] at hf
    obtain ⟨hi, hf'⟩ := hf
    simp only [fillD] at hd
    split at hd
    · rename_i d0 e0
      simp only [Option.map_eq_some_iff] at hd
      obtain ⟨x, hx, rfl⟩ := hd
      have hA' : ∀ a ∈ ownA as fps', J a = H a := fun a ha => hA a (by unfold ownA; exact ha)
      have hB' : ∀ a ∈ lent as fps', J a = H a := fun a ha => hB a (by unfold lent; exact ha)
      cases j with
      | zero =>
        simp only [List.getElem?_cons_zero, Option.some.injEq] at hm hj
        subst hm hj
        split at hi
        · rename_i t ht
          simp only [Bool.and_eq_true, decide_eq_true_eq] at hi
          obtain ⟨v, e, r⟩ := slot_ok i t d0 ht (slot_some e0)
          rw [ev] at e
          cases e
          refine ⟨v0, rfl, ?_⟩
          rw [← hi.1]
          exact r.frame gr fun _ _ => rfl
        · cases hi
      | succ j =>
        simp only [List.getElem?_cons_succ] at hm hj ⊢
        obtain ⟨v, e, r'⟩ := callee_sl gr slot_ok hf' q hx hA' hB' j m d hm hj
        exact ⟨v, e, r'⟩
    · cases hd
/-- what the caller finds again at its slots -/
theorem caller_sl {J H3 : Hp} : ∀ {as : List AK} {ms : List Ty} {ds : List D} {vs : List V} {fps fpsC : List (List Addr)} {os : Rho} {fs0 : List (List Addr)}, fits Γ as ms = true → (inns as).Nodup → RepA F H σ fs as ds vs fps → os.length = ms.length → fpsC.length = ms.length → (∀ i ∈ inns as, i < fs0.length ∧ i < ρ.length) →
      (∀ (j : Nat) (m : Ty) (d : D), ms[j]? = some m → os[j]? = some (some d) → ∃ v, vs[j]? = some v ∧ Rep J H3 m d v (fsAt fpsC j)) →
      ∀ (i : Nat) (t : Ty) (d : D), i ∈ inns as → Γ[i]? = some t → (bckR as os ρ)[i]? = some (some d) → ∃ v, σ[i]? = some (some v) ∧ Rep J H3 t d v (fsAt (bck fs0 as fpsC) i)
  | [], _, _, _, _, _, _, _, _, _, _, _, _, _, _, i, _, _, hi, _, _ => by cases hi
  | .e t k :: as, [], _, _, _, _, _, _, hf, _, _, _, _, _, _, _, _, _, _, _, _ => by simp [fits] at hf
  | .inn _ :: as, [], _, _, _, _, _, _, hf, _, _, _, _, _, _, _, _, _, _, _, _ => by simp [fits] at hf
  | .e t0 k :: as, m0 :: ms, _, _, _, [], _, _, _, _, _, _, hl, _, _, _, _, _, _, _, _ => by simp at hl
  | .inn _ :: as, m0 :: ms, _, _, _, [], _, _, _, _, _, _, hl, _, _, _, _, _, _, _, _ => by simp at hl
  | .e t0 k :: as, m0 :: ms, _, _, _, _ :: _, [], _, _, _, _, hl, _, _, _, _, _, _, _, _, _ => by simp at hl
  | .inn _ :: as, m0 :: ms, _, _, _, _ :: _, [], _, _, _, _, hl, _, _, _, _, _, _, _, _, _ => by simp at hl
  | .e t0 k :: as, m0 :: ms, _, _, _, f :: fpsC, o :: os, fs0, hf, hn, h, hl, hl2, hb, hc, i, t, d, hi, ht, hd => by
    obtain ⟨d0, v0, fp, ds', vs', fps', rfl, rfl, rfl, r, b, q⟩ := h
    simp only [fits, Bool.and_eq_true] at hf
    unfold bckR at hd
    unfold bck
    exact caller_sl (as := as) hf.2 hn q (by simpa using hl) (by simpa using hl2) hb (fun j m d hm ho => by
      obtain ⟨v, e, r⟩ := hc (j + 1) m d (by simpa using hm) (by simpa using ho)
      exact ⟨v, by simpa using e, r⟩) i t d hi ht hd
  | .inn i0 :: as, m0 :: ms, _, _, _, f :: fpsC, o :: os, fs0, hf, hn, h, hl, hl2, hb, hc, i, t, d, hi, ht, hd => by
    obtain ⟨v0, ds', vs', fps', rfl, rfl, rfl, ev, q⟩ := h
    simp only [fits, Bool.and_eq_true] at hf
    obtain ⟨hi0, hf'⟩ := hf
    have hn' := List.nodup_cons.mp hn
    have hbi := hb i0 List.mem_cons_self
    unfold bckR at hd
    unfold bck
    rw [put_eq] at hd
    by_cases e : i = i0
    · subst e
      rw [List.getElem?_set_self (by rw [bckR_len]; exact hbi.2)] at hd
      rw [fsAt_set (by rw [bck_len]; exact hbi.1)]
      cases hd
      split at hi0
      · rename_i t' ht'
        simp only [Bool.and_eq_true, decide_eq_true_eq] at hi0
        rw [ht] at ht'
        cases ht'
        obtain ⟨v, e, r⟩ := hc 0 m0 d rfl rfl
        simp only [List.getElem?_cons_zero, Option.some.injEq] at e
        subst e
        refine ⟨v0, ev, ?_⟩
        rw [hi0.1]
        exact r
      · cases hi0
    · rw [List.getElem?_set_ne (Ne.symm e)] at hd
      rw [fsAt_set_ne e]
      have hi' : i ∈ inns as := by
        rcases List.mem_cons.mp hi with h | h
        · exact absurd h e
        · exact h
      exact caller_sl (as := as) hf' hn'.2 q (by simpa using hl) (by simpa using hl2) (fun j hj => hb j (List.mem_cons_of_mem _ hj)) (fun j m d hm ho => by
        obtain ⟨v, e, r⟩ := hc (j + 1) m d (by simpa using hm) (by simpa using ho)
        exact ⟨v, by simpa using e, r⟩) i t d hi' ht hd
end
end Vo

set_option maxHeartbeats 4000000
/-! Values with owners, 7: the call's reading. -/
namespace Vo
open PySem PySem.Spec PyProof.Rows L2

def cleanO : List Ty → Rho → Bool
  | .z :: ms, _ :: os => cleanO ms os
  | m :: ms, some d :: os => clean m d && cleanO ms os
  | _ :: ms, none :: os => cleanO ms os
  | _, _ => true
theorem cleanO_get : ∀ {ms : List Ty} {os : Rho} {j : Nat} {m : Ty} {d : D}, cleanO ms os = true → ms[j]? = some m → m ≠ .z → os[j]? = some (some d) → clean m d = true
  | [], _, _, _, _, _, h, _, _ => by simp at h
  | _ :: _, [], _, _, _, _, _, _, h => by simp at h
  | m0 :: ms, o :: os, 0, m, d, h, hm, hz, hd => by
    simp at hm hd
    subst hm hd
    cases m0 with
    | z => exact absurd rfl hz
    | ls t => simp only [cleanO, Bool.and_eq_true] at h; exact h.1
    | pot => simp only [cleanO, Bool.and_eq_true] at h; exact h.1
  | m0 :: ms, o :: os, j + 1, m, d, h, hm, hz, hd => by
    have h' : cleanO ms os = true := by
      cases m0 with
      | z => exact h
      | ls t =>
        cases o with
        | none => exact h
        | some d => simp only [cleanO, Bool.and_eq_true] at h; exact h.2
      | pot =>
        cases o with
        | none => exact h
        | some d => simp only [cleanO, Bool.and_eq_true] at h; exact h.2
    exact cleanO_get h' (by simpa using hm) hz (by simpa using hd)

/-- what a call hands on: nothing more is asked where nothing was lent -/
def okR (as : List AK) (ms : List Ty) (tr : Ty) (d : D) (os : Rho) (k : Prop) : Prop := match lends as with
  | [] => k
  | _ => clean tr d = true ∧ cleanO ms os = true ∧ k
def okX (as : List AK) (ms : List Ty) (x : Exn) (os : Rho) (k : Prop) : Prop := match lends as with
  | [] => k
  | _ => pureDs x.vs = true ∧ cleanO ms os = true ∧ k
theorem okR_use {as : List AK} {ms : List Ty} {tr : Ty} {d : D} {os : Rho} {k : Prop} (h : okR as ms tr d os k) : k ∧ (lends as = [] ∨ (clean tr d = true ∧ cleanO ms os = true)) := by
  unfold okR at h
  split at h
  · rename_i e; exact ⟨h, .inl e⟩
  · exact ⟨h.2.2, .inr ⟨h.1, h.2.1⟩⟩
theorem okX_use {as : List AK} {ms : List Ty} {x : Exn} {os : Rho} {k : Prop} (h : okX as ms x os k) : k ∧ (lends as = [] ∨ (pureDs x.vs = true ∧ cleanO ms os = true)) := by
  unfold okX at h
  split at h
  · rename_i e; exact ⟨h, .inl e⟩
  · exact ⟨h.2.2, .inr ⟨h.1, h.2.1⟩⟩
/-- a promise asked, shut so that a goal shows it by its name -/
structure Is (Φ : DSp) (ds : List D) (Q : D → Rho → Prop) (X : XD) : Prop where
  h : Φ ds Q X
structure WCall (Φ : DSp) (as : List AK) (ms : List Ty) (tr : Ty) (wl : DL) (X : XD) (ρ : Rho) (Q : D → Rho → Prop) : Prop where
  h : wl X ρ fun ds ρ1 => match fillD as ds ρ1 with
    | some ds' => Is Φ ds' (fun d os => okR as ms tr d os (Q d (bckR as os ρ1))) (fun x os => okX as ms x os (X x (bckR as os ρ1)))
    | none => False
def wCall (Φ : DSp) (as : List AK) (ms : List Ty) (tr : Ty) (wl : DL) : DE := fun X ρ Q => WCall Φ as ms tr wl X ρ Q

section
variable {Γ : List Ty} {L : List Addr} {F H : Hp} {σ : L2.St} {fs : List (List Addr)} {ρ : Rho} {g : List Addr} {as : List AK} {ms : List Ty} {ds ds' : List D} {vs : List V} {fps : List (List Addr)}
/-- the heap that the callee finds frozen -/
abbrev cF (F H : Hp) (as : List AK) (fps : List (List Addr)) : Hp := over F H (ownA as fps ++ lent as fps)
theorem cF_in {F H : Hp} {as : List AK} {fps : List (List Addr)} {a : Addr} (m : a ∈ ownA as fps ++ lent as fps) : cF F H as fps a = H a := over_in m
theorem cF_out {F H : Hp} {as : List AK} {fps : List (List Addr)} {a : Addr} (m : a ∉ ownA as fps ++ lent as fps) : cF F H as fps a = F a := over_out m
abbrev cG (fs : List (List Addr)) (g : List Addr) (as : List AK) (fps : List (List Addr)) : List Addr := ((clr fs as).flatten ++ g).filter fun a => decide (a ∉ lent as fps)
theorem base_count (w : Wd L Γ F H σ ρ fs (ownA as fps ++ g)) (a : Addr) : cn fs a + (ownA as fps).count a + g.count a ≤ 1 := by
  have h := nodup_count.mp w.nd a
  rw [List.count_append, List.count_append] at h
  unfold cn
  omega
theorem lt_inns (hf : fits Γ as ms = true) (w : Wd L Γ F H σ ρ fs g) : ∀ i ∈ inns as, i < fs.length ∧ i < ρ.length := by
  have : ∀ {as : List AK} {ms : List Ty}, fits Γ as ms = true → ∀ i ∈ inns as, i < Γ.length := by
    intro as
    induction as with
    | nil => intro ms _ i h; cases h
    | cons x as ih =>
      intro ms h i hi
      cases ms with
      | nil => cases x <;> simp [fits] at h
      | cons m ms =>
        cases x with
        | e t k =>
          simp only [fits, Bool.and_eq_true] at h
          exact ih h.2 i hi
        | inn j =>
          simp only [fits, Bool.and_eq_true] at h
          rcases List.mem_cons.mp hi with e | hi
          · subst e
            have := h.1
            split at this
            · rename_i t ht; exact (List.getElem?_eq_some_iff.mp ht).1
            · cases this
          · exact ih h.2 i hi
  intro i hi
  rw [w.lf, w.lr]
  exact ⟨this hf i hi, this hf i hi⟩
theorem lent_in (w : Wd L Γ F H σ ρ fs (ownA as fps ++ g)) (r : RepA F H σ fs as ds vs fps) (dj : ∀ i ∈ lends as, i ∉ inns as) {a : Addr} (m : a ∈ lent as fps) : a ∈ (clr fs as).flatten := by
  obtain ⟨i, hi, q⟩ := lent_mem r m
  refine fsAt_mem (i := i) ?_
  rw [clr_out fs (dj i hi)]
  exact q
theorem gro_cF (w : Wd L Γ F H σ ρ fs (ownA as fps ++ g)) (r : RepA F H σ fs as ds vs fps) : Gro F (cF F H as fps) := Gro.over fun a ha => by
  rcases List.mem_append.mp ha with m | m
  · exact (w.out a (List.mem_append_right _ (List.mem_append_left _ m))).1
  · obtain ⟨i, _, q⟩ := lent_mem r m
    exact (w.out a (List.mem_append_left _ (fsAt_mem q))).1
/-- the callee's world -/
theorem callee_wd (w : Wd L Γ F H σ ρ fs (ownA as fps ++ g)) (r : RepA F H σ fs as ds vs fps) (hf : fits Γ as ms = true) (hn : (inns as).Nodup) (dj : ∀ i ∈ lends as, i ∉ inns as) (hd : fillD as ds ρ = some ds') :
    Wd L ms (cF F H as fps) H (vs.map some) (ds'.map some) (insF fs as) (cG fs g as fps) := by
  have hi := lt_inns hf w
  have ci := fun a => cn_ins (fs := fs) a hn fun i h => (hi i h).1
  have cb := fun a => base_count w a
  have gs : ∀ a, (cG fs g as fps).count a ≤ cn (clr fs as) a + g.count a := fun a => by
    have := (List.filter_sublist (l := (clr fs as).flatten ++ g) (p := fun a => decide (a ∉ lent as fps))).count_le a
    rw [List.count_append] at this
    exact this
  have lm := fits_len hf
  refine ⟨by rw [insF_len, lm], by rw [List.length_map, fill_len hd, lm], by rw [List.length_map, r.lenV, lm], fun a u e => ?_, ?_, fun a ha => ?_, fun j m d hm hj => ?_⟩
  · by_cases m : a ∈ ownA as fps ++ lent as fps
    · rw [cF_in m] at e; exact .inl e
    · rw [cF_out m] at e; exact w.le a u e
  · rw [nodup_count]
    intro a
    rw [List.count_append]
    have h1 := ci a
    have h2 := cb a
    have h3 := gs a
    unfold cn at *
    omega
  · have key : a ∉ ownA as fps ++ lent as fps ∧ (a ∈ fs.flatten ∨ a ∈ g) := by
      have h1 := ci a
      have h2 := cb a
      rcases List.mem_append.mp ha with m | m
      · have p := cn_pos.mp m
        refine ⟨fun x => ?_, .inl (cn_pos.mpr (by omega))⟩
        rcases List.mem_append.mp x with x | x
        · have := List.count_pos_iff.mpr x
          omega
        · have := cn_pos.mp (lent_in w r dj x)
          omega
      · obtain ⟨m, nb⟩ := List.mem_filter.mp m
        have nb' : a ∉ lent as fps := by simpa using nb
        rcases List.mem_append.mp m with m | m
        · have p := cn_pos.mp m
          refine ⟨fun x => ?_, .inl (cn_pos.mpr (by omega))⟩
          rcases List.mem_append.mp x with x | x
          · have := List.count_pos_iff.mpr x
            omega
          · exact nb' x
        · have p := List.count_pos_iff.mpr m
          refine ⟨fun x => ?_, .inr m⟩
          rcases List.mem_append.mp x with x | x
          · have := List.count_pos_iff.mpr x
            omega
          · exact nb' x
    rw [cF_out key.1]
    rcases key.2 with m | m
    · exact w.out a (List.mem_append_left _ m)
    · exact w.out a (List.mem_append_right _ (List.mem_append_right _ m))
  · have hj' : ds'[j]? = some d := by
      rw [List.getElem?_map] at hj
      cases e : ds'[j]? with
      | none => rw [e] at hj; simp at hj
      | some x => rw [e] at hj; simpa using hj
    obtain ⟨v, e, q⟩ := callee_sl (gro_cF w r) w.sl hf r hd (fun a ha => over_in (List.mem_append_left _ ha)) (fun a ha => over_in (List.mem_append_right _ ha)) j m d hm hj'
    exact ⟨v, by rw [List.getElem?_map, e]; rfl, q⟩
/-- what the caller's frozen part is behind the call: what was lent is its own again -/
abbrev bF (J : Hp) (as : List AK) (fps : List (List Addr)) : Hp := fun a => if a ∈ lent as fps then none else J a
/-- the caller's world behind the call -/
theorem caller_wd {J H3 : Hp} {os : Rho} {fpsC : List (List Addr)} {fp : List Addr} (w : Wd L Γ F H σ ρ fs (ownA as fps ++ g)) (r : RepA F H σ fs as ds vs fps) (hf : fits Γ as ms = true) (hn : (inns as).Nodup) (dj : ∀ i ∈ lends as, i ∉ inns as)
    (gr : Gro (cF F H as fps) J) (fr : ∀ a ∈ cG fs g as fps, H3 a = H a) (wc : Wd L ms J H3 (vs.map some) os fpsC (fp ++ cG fs g as fps)) (cl : lends as = [] ∨ cleanO ms os = true) :
    Wd L Γ (bF J as fps) H3 σ (bckR as os ρ) (bck (clr fs as) as fpsC) (fp ++ g) ∧ Step (inns as) F H ρ fs g (bF J as fps) H3 (bckR as os ρ) (bck (clr fs as) as fpsC) ∧
      (∀ t d v fq, (lends as = [] ∨ clean t d = true) → Rep J H3 t d v fq → Rep (bF J as fps) H3 t d v fq) ∧ (∀ p vs, J p = some (.tup vs) → bF J as fps p = some (.tup vs)) := by
  have hi := lt_inns hf w
  have ci := fun a => cn_ins (fs := fs) a hn fun i h => (hi i h).1
  have cb := fun a => base_count w a
  have jB : ∀ a ∈ lent as fps, ∃ u, H a = some u ∧ isD u = false ∧ (∀ vs, u ≠ .tup vs) ∧ J a = some u := fun a m => by
    obtain ⟨u, hu, dd, nt⟩ := lent_node r m
    refine ⟨u, hu, dd, nt, gr a u ?_⟩
    rw [cF_in (List.mem_append_right _ m)]
    exact hu
  have hB : ∀ a ∈ lent as fps, H3 a = H a := fun a m => by
    obtain ⟨u, hu, dd, _, ju⟩ := jB a m
    rw [hu]
    exact (wc.le a u ju).is dd
  have tup : ∀ p vs, J p = some (.tup vs) → bF J as fps p = some (.tup vs) := fun p vs e => by
    by_cases m : p ∈ lent as fps
    · obtain ⟨u, _, _, nt, ju⟩ := jB p m
      rw [ju] at e
      cases e
      exact absurd rfl (nt vs)
    · show (if p ∈ lent as fps then none else J p) = _
      rw [if_neg m]
      exact e
  have conv : ∀ t d v fq, (lends as = [] ∨ clean t d = true) → Rep J H3 t d v fq → Rep (bF J as fps) H3 t d v fq := fun t d v fq c q => by
    rcases c with c | c
    · have e : bF J as fps = J := by
        funext a
        show (if a ∈ lent as fps then none else J a) = J a
        rw [lent_nil c, if_neg (by simp)]
      rw [e]
      exact q
    · exact q.unfz tup c
  have groF : Gro F (bF J as fps) := fun a u e => by
    have nm : a ∉ lent as fps := fun m => by
      obtain ⟨i, _, q⟩ := lent_mem r m
      rw [(w.out a (List.mem_append_left _ (fsAt_mem q))).1] at e
      cases e
    show (if a ∈ lent as fps then none else J a) = _
    rw [if_neg nm]
    exact gr a u (gro_cF w r a u e)
  have cc : ∀ a, cn fpsC a + fp.count a + (cG fs g as fps).count a ≤ 1 := fun a => by
    have h := nodup_count.mp wc.nd a
    rw [List.count_append, List.count_append] at h
    unfold cn
    omega
  have z0 : ∀ a ∈ lent as fps, cn fpsC a = 0 ∧ fp.count a = 0 := fun a m => by
    obtain ⟨u, _, _, _, ju⟩ := jB a m
    refine ⟨?_, ?_⟩
    · refine Nat.eq_zero_of_not_pos fun p => ?_
      have := (wc.out a (List.mem_append_left _ (cn_pos.mpr p))).1
      rw [ju] at this
      cases this
    · refine Nat.eq_zero_of_not_pos fun p => ?_
      have := (wc.out a (List.mem_append_right _ (List.mem_append_left _ (List.count_pos_iff.mp p)))).1
      rw [ju] at this
      cases this
  have gN : ∀ a, a ∉ lent as fps → (cG fs g as fps).count a = cn (clr fs as) a + g.count a := fun a m => by
    show (((clr fs as).flatten ++ g).filter fun a => decide (a ∉ lent as fps)).count a = _
    rw [List.count_filter (by simpa using m), List.count_append]
    rfl
  have cbk := fun a => cn_bck (fs := clr fs as) a (as := as) (fps := fpsC) fun i h => by rw [clr_len]; exact (hi i h).1
  have gm : ∀ a ∈ g, a ∉ lent as fps := fun a ha m => by
    have h1 := cn_pos.mp (lent_in w r dj m)
    have h2 := List.count_pos_iff.mpr ha
    have h3 := ci a
    have h4 := cb a
    omega
  have inG : ∀ a, a ∉ lent as fps → (a ∈ (clr fs as).flatten ∨ a ∈ g) → a ∈ cG fs g as fps := fun a nm h => List.mem_filter.mpr ⟨by rcases h with h | h; exact List.mem_append_left _ h; exact List.mem_append_right _ h, by simpa using nm⟩
  have slot_keep : ∀ i, i ∉ inns as → ∀ a ∈ fsAt fs i, H3 a = H a := fun i hi a ha => by
    by_cases m : a ∈ lent as fps
    · exact hB a m
    · refine fr a (inG a m (.inl (fsAt_mem (i := i) ?_)))
      rw [clr_out fs hi]
      exact ha
  refine ⟨⟨by rw [bck_len, clr_len]; exact w.lf, by rw [bckR_len]; exact w.lr, w.ls, fun a u e => ?_, ?_, fun a ha => ?_, fun i t d ht hd => ?_⟩, ⟨groF, fun a ha => fr a (inG a (gm a ha) (.inr ha)), fun i hi => ⟨by rw [bck_out _ hi, clr_out _ hi], bckR_out hi, slot_keep i hi⟩⟩, conv, tup⟩
  · have nm : a ∉ lent as fps := fun m => by
      change (if a ∈ lent as fps then none else J a) = some u at e
      rw [if_pos m] at e
      cases e
    change (if a ∈ lent as fps then none else J a) = some u at e
    rw [if_neg nm] at e
    exact wc.le a u e
  · rw [nodup_count]
    intro a
    rw [List.count_append, List.count_append]
    have h1 := cbk a
    have h2 := cc a
    have h3 := ci a
    have h4 := cb a
    by_cases m : a ∈ lent as fps
    · obtain ⟨z1, z2⟩ := z0 a m
      unfold cn at *
      omega
    · have h5 := gN a m
      unfold cn at *
      omega
  · by_cases m : a ∈ lent as fps
    · obtain ⟨u, hu, _, _, _⟩ := jB a m
      refine ⟨if_pos m, ?_⟩
      rw [hB a m, hu]
      simp
    · have : a ∈ fpsC.flatten ++ (fp ++ cG fs g as fps) := by
        rcases List.mem_append.mp ha with q | q
        · have h1 := cbk a
          have p := cn_pos.mp q
          by_cases hc : 0 < cn fpsC a
          · exact List.mem_append_left _ (cn_pos.mpr hc)
          · exact List.mem_append_right _ (List.mem_append_right _ (inG a m (.inl (cn_pos.mpr (by omega)))))
        · rcases List.mem_append.mp q with q | q
          · exact List.mem_append_right _ (List.mem_append_left _ q)
          · exact List.mem_append_right _ (List.mem_append_right _ (inG a m (.inr q)))
      obtain ⟨n, h⟩ := wc.out a this
      refine ⟨?_, h⟩
      show (if a ∈ lent as fps then none else J a) = none
      rw [if_neg m]
      exact n
  · by_cases hin : i ∈ inns as
    · obtain ⟨v, e, q⟩ := caller_sl (J := J) (H3 := H3) (fs0 := clr fs as) (ρ := ρ) (os := os) (fpsC := fpsC) hf hn r wc.lr wc.lf (fun j hj => by rw [clr_len]; exact hi j hj) (fun j m d hm ho => by
        obtain ⟨v, e, q⟩ := wc.sl j m d hm ho
        refine ⟨v, ?_, q⟩
        rw [List.getElem?_map] at e
        cases x : vs[j]? with
        | none => rw [x] at e; simp at e
        | some y => rw [x] at e; simpa using e) i t d hin ht hd
      refine ⟨v, e, conv t d v _ ?_ q⟩
      rcases cl with cl | cl
      · exact .inl cl
      · right
        -- the slot's place among the parameters
        have : ∀ {as : List AK} {ms : List Ty} {os : Rho}, fits Γ as ms = true → (inns as).Nodup → os.length = ms.length → (∀ i ∈ inns as, i < ρ.length) → cleanO ms os = true → i ∈ inns as → (bckR as os ρ)[i]? = some (some d) → clean t d = true := by
          intro as
          induction as with
          | nil => intro ms os _ _ _ _ _ hi _; cases hi
          | cons x as ih =>
            intro ms os hf hn hl hb hc hin hd
            cases ms with
            | nil => cases x <;> simp [fits] at hf
            | cons m ms =>
              cases os with
              | nil => simp at hl
              | cons o os =>
                have hc' : cleanO ms os = true := by
                  cases m with
                  | z => exact hc
                  | ls t => cases o with
                    | none => exact hc
                    | some d => simp only [cleanO, Bool.and_eq_true] at hc; exact hc.2
                  | pot => cases o with
                    | none => exact hc
                    | some d => simp only [cleanO, Bool.and_eq_true] at hc; exact hc.2
                cases x with
                | e t0 k =>
                  simp only [fits, Bool.and_eq_true] at hf
                  unfold bckR at hd
                  exact ih hf.2 hn (by simpa using hl) hb hc' hin hd
                | inn i0 =>
                  simp only [fits, Bool.and_eq_true] at hf
                  obtain ⟨hi0, hf'⟩ := hf
                  have hn' := List.nodup_cons.mp hn
                  unfold bckR at hd
                  rw [put_eq] at hd
                  by_cases e : i = i0
                  · subst e
                    rw [List.getElem?_set_self (by rw [bckR_len]; exact hb i List.mem_cons_self)] at hd
                    cases hd
                    split at hi0
                    · rename_i t' ht'
                      simp only [Bool.and_eq_true, decide_eq_true_eq] at hi0
                      rw [ht] at ht'
                      cases ht'
                      refine cleanO_get (ms := m :: ms) (os := some d :: os) (j := 0) hc ?_ ?_ rfl
                      · simp [hi0.1]
                      · rw [hi0.1]
                        intro ez
                        rw [ez] at hi0
                        cases hi0.2
                    · cases hi0
                  · rw [List.getElem?_set_ne (Ne.symm e)] at hd
                    have hin' : i ∈ inns as := by
                      rcases List.mem_cons.mp hin with h | h
                      · exact absurd h e
                      · exact h
                    exact ih hf' hn'.2 (by simpa using hl) (fun j hj => hb j (List.mem_cons_of_mem _ hj)) hc' hin' hd
        exact this hf hn wc.lr (fun j hj => (hi j hj).2) cl hin hd
    · rw [bckR_out hin] at hd
      rw [bck_out _ hin, clr_out _ hin]
      obtain ⟨v, e, q⟩ := w.sl i t d ht hd
      exact ⟨v, e, q.frame groF (slot_keep i hin)⟩
end

section
variable {X : Cx} {C : Cf} {Φ : DSp} {as : List AK} {ms : List Ty} {tr : Ty} {wl : DL} {T : List Nat} {σ : L2.St} {H : Hp}
theorem redCall (hf : fits C.Γ as ms = true) (hn : (inns as).Nodup) (dj : ∀ i ∈ lends as, i ∉ inns as) {Q : VK} :
    tD C (wCall Φ as ms tr wl) tr none (T ++ inns as) σ H Q → tA C wl as T σ H fun vs H1 => spD C.CA ms tr Φ vs H1 Q (WE C.W σ) := by
  rintro ⟨L, F, ρ, fs, g, Qd, Xd, wd, ⟨h⟩, xo, q⟩
  refine ⟨L, F, ρ, fs, g, _, Xd, wd, h, xo.sub (fun i hi => List.mem_append_left _ hi), fun ds vs ρ1 F1 H1 fs1 fps s1 wd1 r1 h1 => ?_⟩
  split at h1
  · rename_i ds' hd
    refine ⟨L, _, ds', _, _, _, _, callee_wd wd1 r1 hf hn dj hd, h1.h, fun d v os F3 H3 fpsC fp gr fr wc rr ho => ?_, fun x os F3 H3 fpsC cls dd gr fr wc xr ho => ?_⟩
    · obtain ⟨ho, cl⟩ := okR_use ho
      obtain ⟨w3, s3, conv, _⟩ := caller_wd wd1 r1 hf hn dj gr fr wc (cl.imp id And.right)
      exact q d v _ _ H3 _ fp (s1.trans s3) w3 (conv tr d v fp (cl.imp id And.left) rr) (fun i e => by cases e) ho
    · obtain ⟨ho, cl⟩ := okX_use ho
      obtain ⟨w3, s3, conv, tup⟩ := caller_wd (fp := []) wd1 r1 hf hn dj gr fr wc (cl.imp id And.right)
      refine xo x _ _ H3 _ cls dd (s1.trans s3) w3 ?_ ho
      obtain ⟨e1, e2⟩ := xr
      refine ⟨e1, ?_⟩
      rcases e2 with e2 | ⟨p, us, e3, e4, e5⟩
      · exact .inl e2
      · refine .inr ⟨p, us, e3, e4, ?_⟩
        rcases cl with c | c
        · refine AtL.mono (fun a u e => ?_) e5
          show (if a ∈ lent as fps then none else F3 a) = some u
          rw [lent_nil c, if_neg (by simp)]
          exact e
        · exact AtL.unfz tup c.1 e5
  · exact h1.elim
/-- what stands of a def: it keeps its promise, and is called by its name -/
structure Cal (P : Program) (w : World) (K : PySem.W.Frag) (mg : Str → Option Value) (base : Heap) (k : Nat) (x : Str) (CA : CAd) (ms : List Ty) (tr : Ty) (Φ : DSp) : Prop where
  ex : ∃ (f : Addr) (fd : FuncData) (ps : List Str), FnOk P w K mg base (L2.CX P w) k f fd ps (spD CA ms tr Φ) ∧ mg x = some (.ref f) ∧ PySem.W.keepIn K (.ref f) = true ∧ Binds K fd ps []
theorem de_call {k j : Nat} {x : Str} {p pos : Pos} {e : Expr} {es : List Expr} (c : Cal X.prog X.w X.K X.mg X.base k x C.CA ms tr Φ) (hr : Room j X.A) (tk : Takes X C.W) (ha : PA X (e :: es) (tA C wl as T)) (hk : k ≤ j := by decide) (hg : Gl X x := by rfl)
    (hf : fits C.Γ as ms = true := by rfl) (hn : (inns as).Nodup := by decide) (dj : ∀ i ∈ lends as, i ∉ inns as := by decide)
    (hdb : (x == ("__debug__" : Str)) = false := by decide) (he : starEach (e :: es) X.env = (false, eval e X.env) :: starEach es X.env := by rfl) (hpl : (backTo pos (starEach es X.env)).any (·.1) = false := by rfl) :
    PE X (.Call (.Name x p) (e :: es) [] pos) (tD C (wCall Φ as ms tr wl) tr none (T ++ inns as)) := by
  obtain ⟨f, fd, ps, F, hm, hkp, hb⟩ := c.ex
  exact PE.imp (pe_callS F (hr.mono hk) hg hm hkp hb (passAt tk) ha hdb he hpl) fun σ H Q h => redCall hf hn dj h
end
end Vo

set_option maxHeartbeats 4000000
/-! Values with owners, 8: targets, loops. -/
namespace Vo
open PySem PySem.Spec PyProof.Rows L2

section
variable {L : List Addr} {Γ : List Ty} {F H : Hp} {σ : L2.St} {ρ : Rho} {fs : List (List Addr)} {fp fq g : List Addr}
theorem Wd.drop2 (w : Wd L Γ F H σ ρ fs (fp ++ (fq ++ g))) : Wd L Γ F H σ ρ fs (fp ++ g) := by
  refine Wd.drop (fp := fq) (w.perm ?_)
  rw [← List.append_assoc, ← List.append_assoc]
  exact List.Perm.append_right _ List.perm_append_comm
end

/-! ### targets -/
abbrev DG := D → Rho → (Rho → Prop) → Prop
abbrev DGs := List D → Rho → (Rho → Prop) → Prop
/-- ts: the slots that are assigned -/
def tG (C : Cf) (ts : List Nat) (wg : DG) : TG := fun x σ H Q => ∃ L F ρ fs g d Qg, Wd L C.Γ F H σ ρ fs g ∧ At F d x ∧ wg d ρ Qg ∧
  ∀ ρ' σ' F' H' fs', Step ts F H ρ fs g F' H' ρ' fs' → (∀ i, i ∉ ts → σ'[i]? = σ[i]?) → Wd L C.Γ F' H' σ' ρ' fs' g → Qg ρ' → Q σ' H'
def tGs (C : Cf) (ts : List Nat) (wg : DGs) : TGs := fun xs σ H Q => ∃ L F ρ fs g ds Qg, Wd L C.Γ F H σ ρ fs g ∧ AtL F ds xs ∧ wg ds ρ Qg ∧
  ∀ ρ' σ' F' H' fs', Step ts F H ρ fs g F' H' ρ' fs' → (∀ i, i ∉ ts → σ'[i]? = σ[i]?) → Wd L C.Γ F' H' σ' ρ' fs' g → Qg ρ' → Q σ' H'
theorem SSt.ofG {ts Fx : List Nat} {F H F' H' : Hp} {σ σ' : L2.St} {ρ ρ' : Rho} {fs fs' : List (List Addr)} {g : List Addr} (s : Step ts F H ρ fs g F' H' ρ' fs') (k : ∀ i, i ∉ ts → σ'[i]? = σ[i]?) (n : ∀ i ∈ Fx, i ∉ ts) : SSt Fx F H σ g F' H' σ' := ⟨s.gro, s.fr, fun i hi => k i (n i hi)⟩
def gN (i : Nat) : DG := fun d ρ Q => Q (put ρ i (some d))
def gsNil : DGs := fun ds ρ Q => match ds with
  | [] => Q ρ
  | _ => False
def gsCons (a : DG) (b : DGs) : DGs := fun ds ρ Q => match ds with
  | d :: ds => a d ρ fun ρ1 => b ds ρ1 Q
  | [] => False
def gT (n : Nat) (b : DGs) : DG := fun d ρ Q => match d with
  | .tup ds => ds.length = n ∧ b ds ρ Q
  | _ => False
section
variable {X : Cx} {C : Cf} {Fx : List Nat} {pos : Pos}
theorem PG.imp {e : Expr} {t u : TG} (h : PG X e t) (k : ∀ v σ H Q, u v σ H Q → t v σ H Q) : PG X e u := ⟨fun pins s σ H v u Q I r q => h.run pins s σ H v u Q I r (k v σ H Q q)⟩
theorem PGs.imp {e : List Expr} {t u : TGs} (h : PGs X e t) (k : ∀ v σ H Q, u v σ H Q → t v σ H Q) : PGs X e u := ⟨fun pins s σ H v u Q I r q => h.run pins s σ H v u Q I r (k v σ H Q q)⟩
theorem dg_name (i : Nat) {x : Str} (hN : X.N.Nodup) (ht : C.Γ[i]? = some .z := by rfl) (hi : X.N[i]? = some x := by rfl) (hx : Loc X.env.scope x := by first | exact .inl rfl | exact .inr rfl)
    (hf : X.fn x = true ∨ X.env.scope.names.lookup x = some .local := by first | exact .inl rfl | exact .inr rfl | assumption) : PG X (.Name x pos) (tG C [i] (gN i)) := PG.imp (pg_name hN hi hx hf) fun v σ H Q h => by
  obtain ⟨L, F, ρ, fs, g, d, Qg, wd, a, h, q⟩ := h
  have ne : ∀ j, j ∉ [i] → i ≠ j := fun j hj e => hj (by simp [e])
  refine q _ _ F H (fs.set i []) ⟨Gro.rfl, fun _ _ => rfl, fun j hj => ⟨fsAt_set_ne (Ne.symm (ne j hj)), by rw [put_eq]; exact List.getElem?_set_ne (ne j hj), fun _ _ => rfl⟩⟩ (fun j hj => List.getElem?_set_ne (ne j hj)) ?_ h
  rw [put_eq]
  exact Wd.put (fp := []) wd ht ⟨a, rfl⟩
theorem dgs_nil : PGs X [] (tGs C [] gsNil) := PGs.imp pgs_nil fun v σ H Q h => by
  obtain ⟨L, F, ρ, fs, g, ds, Qg, wd, a, h, q⟩ := h
  cases ds with
  | nil =>
    unfold AtL at a
    exact ⟨a, q ρ σ F H fs Step.rfl (fun _ _ => rfl) wd h⟩
  | cons d ds => exact h.elim
theorem dgs_cons {e : Expr} {es : List Expr} {a : DG} {b : DGs} {us : List Nat} (h1 : PG X e (tG C Fx a)) (h2 : PGs X es (tGs C us b))
    (hs : (assignEach (e :: es) X.env).map (·.2) = assign e X.env :: (assignEach es X.env).map (·.2) := by rfl) : PGs X (e :: es) (tGs C (Fx ++ us) (gsCons a b)) := PGs.imp (pgs_cons h1 h2 hs) fun v σ H Q h => by
  obtain ⟨L, F, ρ, fs, g, ds, Qg, wd, al, h, q⟩ := h
  cases ds with
  | nil => exact h.elim
  | cons d ds =>
    unfold AtL at al
    obtain ⟨x, r, rfl, a1, a2⟩ := al
    refine ⟨x, r, rfl, L, F, ρ, fs, g, d, _, wd, a1, h, fun ρ1 σ1 F1 H1 fs1 s1 k1 wd1 h1 => ?_⟩
    exact ⟨L, F1, ρ1, fs1, g, ds, _, wd1, a2.mono s1.gro, h1, fun ρ2 σ2 F2 H2 fs2 s2 k2 wd2 h2 => q ρ2 σ2 F2 H2 fs2 (s1.trans s2) (fun i hi => (k2 i fun m => hi (List.mem_append_right _ m)).trans (k1 i fun m => hi (List.mem_append_left _ m))) wd2 h2⟩
theorem dg_tup {es : List Expr} {k n : Nat} {b : DGs} (hc : X.calm = true) (h : PGs X es (tGs C Fx b)) (hn : (assignEach es X.env).length = n := by rfl) (hst : (assignEach es X.env).findIdx? (·.1) = none := by rfl) :
    PG X (.Tuple es k pos) (tG C Fx (gT n b)) := PG.imp (pg_tup hc h hn hst) fun v σ H Q h => by
  obtain ⟨L, F, ρ, fs, g, d, Qg, wd, a, h, q⟩ := h
  unfold gT at h
  split at h
  · unfold At at a
    obtain ⟨p, vs, rfl, e, l⟩ := a
    exact ⟨p, vs, rfl, .inl (wd.le p _ e).rd, by rw [l.len]; exact h.1, L, F, ρ, fs, g, _, _, wd, l, h.2, q⟩
  · exact h.elim
end
/-- target = a frozen value -/
def sAsg (wg : DG) (w : DE) : DS := fun X P ρ => w X ρ fun d ρ1 => wg d ρ1 P.nx
theorem ds_asg {X : Cx} {C : Cf} {Fx ts : List Nat} {pos : Pos} {tg e : Expr} {wg : DG} {w : DE} {t tr : Ty} {k : Option Nat} {T : List Nat} (hc : Coe t k .z) (he : PE X e (tD C w t k T)) (hg : PG X tg (tG C ts wg)) (hn : ∀ i ∈ Fx, i ∉ ts := by simp) (hs : swapsWithSole [tg] e pos.line X.env = pure false := by rfl) (hw : swappedStores [tg] e X.env = pure none := by rfl)
    (h1 : (assignEach [tg] X.env).map (·.2) = [assign tg X.env] := by rfl) : PS X (.Assign [tg] e pos) (tS C tr Fx (sAsg wg w)) := PS.imp (ps_asg he hg hs hw h1) fun D σ H h => by
  obtain ⟨L, F, ρ, fs, g, P, Xd, wd, h, n, r, x⟩ := h
  refine ⟨L, F, ρ, fs, g, _, Xd, wd, h, XOk.of x, fun d v ρ1 F1 H1 fs1 fp s1 wd1 r1 b1 h1 => ?_⟩
  obtain ⟨F2, fp2, wd2, r2, s2⟩ := hc.use wd1 r1
  have e2 : fp2 = [] := r2.2
  subst e2
  exact ⟨L, F2, ρ1, fs1, g, d, _, wd2, r2.1, h1, fun ρ' σ' F' H' fs' s' k' wd' q => (n ρ' σ' F' H' fs' (((SSt.of s1).trans (SSt.of s2)).trans (SSt.ofG s' k' hn)) wd').1 q⟩

/-! ### what is walked -/
/-- the iterator J gives the values ds one by one, whatever the body does outside of what it keeps -/
def Src (J : It) (ds : List D) (F H : Hp) (g : List Addr) : Prop := ∀ (L : List Addr) (Γ : List Ty) (F' H' : Hp) (σ : L2.St) (ρ : Rho) (fs : List (List Addr)) (g' : List Addr) (i : Nat), Gro F F' → (∀ a ∈ g, H' a = H a) → Wd L Γ F' H' σ ρ fs g' →
  (i = ds.length → J.stop i H') ∧ (i < ds.length → J.go i H') ∧ ∀ x H'', i < ds.length → J.yld i H' x H'' → ∃ d F'', ds[i]? = some d ∧ At F'' d x ∧ Wd L Γ F'' H'' σ ρ fs g' ∧ Step [] F' H' ρ fs g' F'' H'' ρ fs
abbrev DI := XD → Rho → (List D → Rho → Prop) → Prop
def tI (C : Cf) (wi : DI) (T : List Nat) : TI := fun σ H R => ∃ L F ρ fs g Qd Xd, Wd L C.Γ F H σ ρ fs g ∧ wi Xd ρ Qd ∧ XOk C T Xd L F H σ ρ fs g ∧
  ∀ J ds ρ' F' H' fs' fp, Step T F H ρ fs g F' H' ρ' fs' → Wd L C.Γ F' H' σ ρ' fs' (fp ++ g) → Src J ds F' H' (fp ++ g) → Qd ds ρ' → R J H'
theorem PI.imp {X : Cx} {tg e : Expr} {t u : TI} (h : PI X tg e t) (k : ∀ σ H Q, u σ H Q → t σ H Q) : PI X tg e u := ⟨fun pins s σ H Q I q => h.run pins s σ H Q I (k σ H Q q)⟩

/-! ### for -/
def forL (wg : DG) (s : DS) (X : XD) (P : DEnds) : List D → Rho → Prop
  | [], ρ => P.nx ρ
  | d :: ds, ρ => wg d ρ fun ρ1 => s X { P with nx := forL wg s X P ds, ct := forL wg s X P ds, bk := P.nx } ρ1
def sFor (wi : DI) (wg : DG) (s : DS) : DS := fun X P ρ => wi X ρ fun ds ρ1 => forL wg s X P ds ρ1
theorem ds_for {X : Cx} {C : Cf} {tr : Ty} {Fx : List Nat} {pos : Pos} {tg iter : Expr} {body : List Stmt} {wi : DI} {wg : DG} {s : DS} {T ts : List Nat} (hp : PassesOwn (model X.prog X.w) X.A X.env X.xe) (hc : X.calm = true) (hi : PI X tg iter (tI C wi T)) (hg : PG X tg (tG C ts wg)) (hb : PSs X body (tS C tr Fx s))
    (hn : ∀ i ∈ Fx, i ∉ ts := by simp) (hs : ∀ x, foldedSetIterable iter X.env x = pure x := by intro _; rfl) : PS X (.For tg iter body [] pos) (tS C tr Fx (sFor wi wg s)) := PS.imp (ps_for hp hc hi hg hb hs) fun D σ H h => by
  obtain ⟨L, F, ρ, fs, g, P, Xd, wd, h, n, r, x⟩ := h
  refine ⟨L, F, ρ, fs, g, _, Xd, wd, h, XOk.of x, fun J ds ρ1 F1 H1 fs1 fp s1 wd1 src h1 => ?_⟩
  have s1' : SSt Fx F H σ g F1 H1 σ := SSt.of s1
  let In : Nat → L2.St → Hp → Prop := fun i σ' H' => i ≤ ds.length ∧ ∃ F' ρ' fs', SSt Fx F1 H1 σ (fp ++ g) F' H' σ' ∧ Wd L C.Γ F' H' σ' ρ' fs' (fp ++ g) ∧ forL wg s Xd P (ds.drop i) ρ'
  have sub : ∀ {F' H' : Hp} {σ' : L2.St}, SSt Fx F1 H1 σ (fp ++ g) F' H' σ' → SSt Fx F H σ g F' H' σ' := fun st => s1'.trans ⟨st.gro, fun a ha => st.fr a (List.mem_append_right _ ha), st.fx⟩
  refine ⟨fun i m σ' H' => m = ds.length - i ∧ In i σ' H', ⟨ds.length, by simp, Nat.zero_le _, F1, ρ1, fs1, SSt.rfl, wd1, by simpa using h1⟩, ?_⟩
  rintro i m σ2 H2 ⟨rfl, hi, F2, ρ2, fs2, s2, wd2, h2⟩
  obtain ⟨hst, hgo, hy⟩ := src L C.Γ F2 H2 σ2 ρ2 fs2 (fp ++ g) i s2.gro s2.fr wd2
  by_cases hlt : i < ds.length
  · refine .inr ⟨hgo hlt, In (i + 1), fun σ' H' q => ⟨ds.length - (i + 1), by omega, rfl, q⟩, fun y H3 yy => ?_⟩
    obtain ⟨d, F3, ed, ad, wd3, s3⟩ := hy y H3 hlt yy
    have e : ds.drop i = d :: ds.drop (i + 1) := by
      rw [List.drop_eq_getElem_cons hlt]
      congr 1
      rw [List.getElem?_eq_getElem hlt] at ed
      exact Option.some.inj ed
    rw [e] at h2
    have s3' : SSt Fx F2 H2 σ2 (fp ++ g) F3 H3 σ2 := ⟨s3.gro, s3.fr, fun _ _ => rfl⟩
    refine ⟨L, F3, ρ2, fs2, fp ++ g, d, _, wd3, ad, h2, fun ρ4 σ4 F4 H4 fs4 s4 k4 wd4 h4 => ?_⟩
    have s14 := (s2.trans s3').trans (SSt.ofG (σ := σ2) (σ' := σ4) (Fx := Fx) s4 k4 hn)
    refine ⟨L, F4, ρ4, fs4, fp ++ g, _, Xd, wd4, h4, fun ρ' σ' F' H' fs' st wd' => ⟨fun q => ?_, fun q => ?_, fun q => ?_⟩, fun d v ρ' σ' F' H' fs' fq st wd' rr q => ?_, fun e ρ' σ' F' H' fs' cls dd st wd' xr q => ?_⟩
    · exact ⟨by omega, F', ρ', fs', s14.trans st, wd', q⟩
    · exact (n ρ' σ' F' H' fs' (sub (s14.trans st)) wd'.drop).1 q
    · exact ⟨by omega, F', ρ', fs', s14.trans st, wd', q⟩
    · exact r d v ρ' σ' F' H' fs' fq (sub (s14.trans st)) wd'.drop2 rr q
    · exact x e ρ' σ' F' H' fs' cls dd (sub (s14.trans st)) wd'.drop xr q
  · have e : i = ds.length := by omega
    subst e
    rw [List.drop_length] at h2
    exact .inl ⟨hst rfl, (n ρ2 σ2 F2 H2 fs2 (sub s2) wd2.drop).1 h2⟩

/-! ### while -/
def sWhile (c : DB) (s : DS) : DS := fun X P ρ => ∃ W : Nat → Rho → Prop, (∃ m, W m ρ) ∧ ∀ m ρ, W m ρ →
  c X ρ fun b ρ1 => if b = true then ∃ N : Rho → Prop, (∀ ρ', N ρ' → ∃ m', m' < m ∧ W m' ρ') ∧ s X { P with nx := N, ct := N, bk := P.nx } ρ1 else P.nx ρ1
theorem ds_while {X : Cx} {C : Cf} {tr : Ty} {Fx : List Nat} {pos : Pos} {c : Expr} {body : List Stmt} {vc : DB} {s : DS} {T : List Nat} (hp : PassesOwn (model X.prog X.w) X.A X.env X.xe) (hc : PT X c (tB C vc T)) (hb : PSs X body (tS C tr Fx s)) :
    PS X (.While c body [] pos) (tS C tr Fx (sWhile vc s)) := PS.imp (ps_while hp hc hb) fun D σ H h => by
  obtain ⟨L, F, ρ, fs, g, P, Xd, wd, ⟨W, ⟨m0, w0⟩, turn⟩, n, r, x⟩ := h
  let In : (Rho → Prop) → L2.St → Hp → Prop := fun N σ' H' => ∃ F' ρ' fs', SSt Fx F H σ g F' H' σ' ∧ Wd L C.Γ F' H' σ' ρ' fs' g ∧ N ρ'
  refine ⟨fun m σ' H' => In (W m) σ' H', ⟨m0, F, ρ, fs, SSt.rfl, wd, w0⟩, ?_⟩
  rintro m σ1 H1 ⟨F1, ρ1, fs1, s1, wd1, w1⟩
  refine ⟨L, F1, ρ1, fs1, g, _, Xd, wd1, turn m ρ1 w1, fun e ρ' F' H' fs' cls dd st wd' xr q => x e ρ' σ1 F' H' fs' cls dd (s1.trans (SSt.of st)) wd' xr q, fun b ρ2 F2 H2 fs2 s2 wd2 h2 => ?_⟩
  have s12 : SSt Fx F H σ g F2 H2 σ1 := s1.trans (SSt.of s2)
  cases b with
  | false => exact (n ρ2 σ1 F2 H2 fs2 s12 wd2).1 h2
  | true =>
    obtain ⟨N, hN, h2⟩ := h2
    refine ⟨In N, fun σ' H' ⟨F', ρ', fs', st, wd', q⟩ => ?_, ?_⟩
    · obtain ⟨m', hm, w'⟩ := hN ρ' q
      exact ⟨m', hm, F', ρ', fs', st, wd', w'⟩
    · refine ⟨L, F2, ρ2, fs2, g, _, Xd, wd2, h2, fun ρ' σ' F' H' fs' st wd' => ⟨fun q => ?_, fun q => ?_, fun q => ?_⟩, fun d v ρ' σ' F' H' fs' fq st wd' rr q => ?_, fun e ρ' σ' F' H' fs' cls dd st wd' xr q => ?_⟩
      · exact ⟨F', ρ', fs', s12.trans st, wd', q⟩
      · exact (n ρ' σ' F' H' fs' (s12.trans st) wd').1 q
      · exact ⟨F', ρ', fs', s12.trans st, wd', q⟩
      · exact r d v ρ' σ' F' H' fs' fq (s12.trans st) wd' rr q
      · exact x e ρ' σ' F' H' fs' cls dd (s12.trans st) wd' xr q

/-! ### the sources -/
def items (d : D) : Option (List D) := match d with
  | .lst ds => some ds
  | _ => none
/-- the values of a list -/
def iL (w : DE) : DI := fun X ρ Q => w X ρ fun d ρ1 => match d with
  | .lst ds => Q ds ρ1
  | _ => False
def iTp (w : DE) : DI := fun X ρ Q => w X ρ fun d ρ1 => match d with
  | .tup ds => Q ds ρ1
  | _ => False
def iSt (w : DE) : DI := fun X ρ Q => w X ρ fun d ρ1 => match d with
  | .str x => Q (x.cps.toList.map fun c => D.str ⟨#[c]⟩) ρ1
  | _ => False
def enumD (n : Nat) : List D → List D
  | [] => []
  | d :: ds => .tup [.int n, d] :: enumD (n + 1) ds
def iEn (w : DE) : DI := fun X ρ Q => w X ρ fun d ρ1 => match d with
  | .lst ds => Q (enumD 0 ds) ρ1
  | _ => False
def rngD (lo : Int) (n : Nat) : List D := (List.range n).map fun (k : Nat) => D.int (lo + k)
def iR1 (w : DE) : DI := fun X ρ Q => w X ρ fun d ρ1 => match d with
  | .int j => -(2 ^ 62) ≤ j ∧ j < 2 ^ 62 ∧ Q (rngD 0 j.toNat) ρ1
  | _ => False
def iR2 (wa wb : DE) : DI := fun X ρ Q => wa X ρ fun a ρ1 => wb X ρ1 fun b ρ2 => match a, b with
  | .int i, .int j => (-(2 ^ 62) ≤ i ∧ i < 2 ^ 62 ∧ -(2 ^ 62) ≤ j ∧ j < 2 ^ 62) ∧ Q (rngD i (j - i).toNat) ρ2
  | _, _ => False
theorem enumD_len : ∀ (n : Nat) (ds : List D), (enumD n ds).length = ds.length
  | _, [] => rfl
  | n, _ :: ds => by simp [enumD, enumD_len (n + 1) ds]
theorem enumD_get : ∀ (n : Nat) (ds : List D) (i : Nat), (enumD n ds)[i]? = (ds[i]?).map fun d => D.tup [.int (n + i : Nat), d]
  | _, [], _ => by simp [enumD]
  | n, d :: ds, 0 => by simp [enumD]
  | n, d :: ds, i + 1 => by
    simp only [enumD, List.getElem?_cons_succ]
    rw [enumD_get (n + 1) ds i]
    have : n + 1 + i = n + (i + 1) := by omega
    rw [this]
theorem SqL.the {K : PySem.W.Frag} {X : Cx} {H : Hp} {a : Addr} {xs : List V} (h : H a = some (.lst xs)) : SqL K H a xs := SqL.of h
/-- a list that stands still, frozen or kept -/
theorem Src.list {K : PySem.W.Frag} {F H : Hp} {g : List Addr} {p : Addr} {vs : List V} {ds : List D} (hp : F p = some (.lst vs) ∨ (p ∈ g ∧ H p = some (.lst vs))) (al : AtL F ds vs) : Src (Itl K p) ds F H g := fun L Γ F' H' σ ρ fs g' i gr fr wd => by
  have h1 : H' p = some (.lst vs) := by
    rcases hp with h | ⟨m, h⟩
    · exact (wd.le p _ (gr p _ h)).is
    · exact (fr p m).trans h
  have q : SqL K H' p vs := SqL.of h1
  refine ⟨fun e => ⟨vs, q, by rw [al.len]; omega⟩, fun hi => ⟨vs, vs[i]'(by rw [al.len]; exact hi), q, by simp⟩, fun x H'' hi y => ?_⟩
  obtain ⟨e, y⟩ := y
  subst e
  obtain ⟨d, ed, ad⟩ := al.getV (y vs q)
  exact ⟨d, F', ed, ad.mono gr, wd, Step.rfl⟩
theorem Src.tup {K : PySem.W.Frag} {F H : Hp} {g : List Addr} {p : Addr} {vs : List V} {ds : List D} (hp : F p = some (.tup vs)) (al : AtL F ds vs) : Src (Itt K p) ds F H g := fun L Γ F' H' σ ρ fs g' i gr fr wd => by
  have h1 : H' p = some (.tup vs) := (wd.le p _ (gr p _ hp)).is
  have q : SqT K H' p vs := SqT.of h1
  refine ⟨fun e => ⟨vs, q, by rw [al.len]; omega⟩, fun hi => ⟨vs, vs[i]'(by rw [al.len]; exact hi), q, by simp⟩, fun x H'' hi y => ?_⟩
  obtain ⟨e, y⟩ := y
  subst e
  obtain ⟨d, ed, ad⟩ := al.getV (y vs q)
  exact ⟨d, F', ed, ad.mono gr, wd, Step.rfl⟩
theorem Src.enum {K : PySem.W.Frag} {F H : Hp} {g : List Addr} {p : Addr} {vs : List V} {ds : List D} (hp : F p = some (.lst vs) ∨ (p ∈ g ∧ H p = some (.lst vs))) (al : AtL F ds vs) : Src (Ite K p) (enumD 0 ds) F H g := fun L Γ F' H' σ ρ fs g' i gr fr wd => by
  have h1 : H' p = some (.lst vs) := by
    rcases hp with h | ⟨m, h⟩
    · exact (wd.le p _ (gr p _ h)).is
    · exact (fr p m).trans h
  have q : SqL K H' p vs := SqL.of h1
  rw [enumD_len]
  refine ⟨fun e => ⟨vs, q, by rw [al.len]; omega⟩, fun hi => ⟨vs, vs[i]'(by rw [al.len]; exact hi), q, by simp⟩, fun x H'' hi y => ?_⟩
  obtain ⟨T, x', rfl, hT, rfl, y⟩ := y
  obtain ⟨d, ed, ad⟩ := al.getV (y vs q)
  refine ⟨.tup [.int (i : Nat), d], upd F' T (.tup [.int (i : Nat), x']), ?_, ?_, wd.allocZ hT _, wd.stepZ (T := []) hT _⟩
  · rw [enumD_get, ed]
    simp
  · unfold At
    exact ⟨T, _, rfl, upd_same, AtL.cons at_int (AtL.cons ((ad.mono gr).mono (Gro.upd (wd.fnone hT))) AtL.nil)⟩
theorem Src.str {F H : Hp} {g : List Addr} {x : Str} : Src (Its x) (x.cps.toList.map fun c => D.str ⟨#[c]⟩) F H g := fun L Γ F' H' σ ρ fs g' i gr fr wd => by
  simp only [List.length_map, Array.length_toList]
  refine ⟨fun e => by show x.cps.size ≤ i; omega, fun hi => hi, fun v H'' hi y => ?_⟩
  obtain ⟨rfl, c, ec, rfl⟩ := y
  refine ⟨.str ⟨#[c]⟩, F', ?_, at_str, wd, Step.rfl⟩
  rw [List.getElem?_map]
  simp [ec]
theorem Src.rng {F H : Hp} {g : List Addr} {lo : Int} {n : Nat} : Src (Itr lo n) (rngD lo n) F H g := fun L Γ F' H' σ ρ fs g' i gr fr wd => by
  have e : (rngD lo n).length = n := by simp [rngD]
  rw [e]
  refine ⟨fun e => by show n ≤ i; omega, fun hi => hi, fun v H'' hi y => ?_⟩
  obtain ⟨rfl, rfl⟩ := y
  refine ⟨.int (lo + i), F', ?_, at_int, wd, Step.rfl⟩
  simp [rngD, hi]

section
variable {X : Cx} {C : Cf} {tg e e2 : Expr} {wa wb : DE} {t t2 : Ty} {k k2 : Option Nat} {T T2 : List Nat} {p pos tpos : Pos}
/-- a list that is frozen, or a new one -/
theorem flat_src {ta : Ty} {F H : Hp} {v : V} {fp : List Addr} {ds : List D} (ht : ta.flat = true) (r : Rep F H ta (.lst ds) v fp) : ∃ q vs, v = .ref q ∧ (F q = some (.lst vs) ∨ (q ∈ fp ∧ H q = some (.lst vs))) ∧ AtL F ds vs := by
  cases ta with
  | z =>
    have a := r.1
    unfold At at a
    obtain ⟨q, vs, e, h, l⟩ := a
    exact ⟨q, vs, e, .inl h, l⟩
  | ls u =>
    cases u with
    | z =>
      obtain ⟨ds', q, vs, e, e2, hp, l, e3⟩ := r.lsz_inv
      cases e
      exact ⟨q, vs, e2, .inr ⟨by rw [e3]; exact List.mem_singleton.mpr rfl, hp⟩, l⟩
    | ls _ => cases ht
    | pot => cases ht
  | pot => cases ht
theorem di_list (he : PE X e (tD C wa t none T)) (ht : t.flat = true := by rfl) : PI X tg e (tI C (iL wa) T) := PI.imp (pi_list he) fun σ H R h => by
  obtain ⟨L, F, ρ, fs, g, Qd, Xd, wd, h, xo, q⟩ := h
  refine ⟨L, F, ρ, fs, g, _, Xd, wd, h, xo, fun d v ρ1 F1 H1 fs1 fp s1 wd1 r1 b1 h1 => ?_⟩
  split at h1
  · obtain ⟨a, vs, rfl, hp, al⟩ := flat_src ht r1
    have hq : SqL X.K H1 a vs := by
      rcases hp with h | ⟨_, h⟩
      · exact SqL.of (wd1.le a _ h).is
      · exact SqL.of h
    exact ⟨a, rfl, ⟨vs, hq⟩, q _ _ ρ1 F1 H1 fs1 fp s1 wd1 (Src.list (by rcases hp with h | ⟨m, h⟩; exact .inl h; exact .inr ⟨List.mem_append_left _ m, h⟩) al) h1⟩
  · exact h1.elim
theorem di_tup (he : PE X e (tD C wa .z none T)) : PI X tg e (tI C (iTp wa) T) := PI.imp (pi_tup he) fun σ H R h => by
  obtain ⟨L, F, ρ, fs, g, Qd, Xd, wd, h, xo, q⟩ := h
  refine ⟨L, F, ρ, fs, g, _, Xd, wd, h, xo, fun d v ρ1 F1 H1 fs1 fp s1 wd1 r1 b1 h1 => ?_⟩
  split at h1
  · have a := r1.1
    unfold At at a
    obtain ⟨b, vs, rfl, hp, al⟩ := a
    exact ⟨b, rfl, ⟨vs, SqT.of (wd1.le b _ hp).is⟩, q _ _ ρ1 F1 H1 fs1 [] s1 wd1.drop (Src.tup hp al) h1⟩
  · exact h1.elim
theorem di_str (he : PE X e (tD C wa .z none T)) : PI X tg e (tI C (iSt wa) T) := PI.imp (pi_str he) fun σ H R h => by
  obtain ⟨L, F, ρ, fs, g, Qd, Xd, wd, h, xo, q⟩ := h
  refine ⟨L, F, ρ, fs, g, _, Xd, wd, h, xo, fun d v ρ1 F1 H1 fs1 fp s1 wd1 r1 b1 h1 => ?_⟩
  split at h1
  · exact ⟨_, r1.scal_str, q _ _ ρ1 F1 H1 fs1 [] s1 wd1.drop Src.str h1⟩
  · exact h1.elim
theorem di_enum {elts : List Expr} {kk : Nat} (hm : X.mg "enumerate" = none) (he : PE X e (tD C wa t none T)) (ht : t.flat = true := by rfl) (hg : Gl X "enumerate" := by rfl) (hs : starEach [e] X.env = [(false, eval e X.env)] := by rfl) :
    PI X (.Tuple elts kk tpos) (.Call (.Name "enumerate" p) [e] [] pos) (tI C (iEn wa) T) := PI.imp (pi_enum hg hm (pa_cons he pa_nil hs) hs) fun σ H R h => by
  obtain ⟨L, F, ρ, fs, g, Qd, Xd, wd, h, xo, q⟩ := h
  refine ⟨L, F, ρ, fs, g, _, Xd, wd, h, xo, fun d v ρ1 F1 H1 fs1 fp s1 wd1 r1 b1 h1 => ?_⟩
  split at h1
  · obtain ⟨a, vs, rfl, hp, al⟩ := flat_src ht r1
    have hq : SqL X.K H1 a vs := by
      rcases hp with h | ⟨_, h⟩
      · exact SqL.of (wd1.le a _ h).is
      · exact SqL.of h
    exact ⟨a, vs, rfl, hq, q _ _ ρ1 F1 H1 fs1 fp s1 wd1 (Src.enum (by rcases hp with h | ⟨m, h⟩; exact .inl h; exact .inr ⟨List.mem_append_left _ m, h⟩) al) h1⟩
  · exact h1.elim
theorem di_range1 (hm : X.mg "range" = none) (he : PE X e (tD C wa t k T)) (hg : Gl X "range" := by rfl) (hs : starEach [e] X.env = [(false, eval e X.env)] := by rfl) : PI X tg (.Call (.Name "range" p) [e] [] pos) (tI C (iR1 wa) T) := PI.imp (pi_range1 hg hm (pa_cons he pa_nil hs) hs) fun σ H R h => by
  obtain ⟨L, F, ρ, fs, g, Qd, Xd, wd, h, xo, q⟩ := h
  refine ⟨L, F, ρ, fs, g, _, Xd, wd, h, xo, fun d v ρ1 F1 H1 fs1 fp s1 wd1 r1 b1 h1 => ?_⟩
  split at h1
  · cases r1.scal_int
    exact ⟨_, rfl, h1.1, h1.2.1, q _ _ ρ1 F1 H1 fs1 [] s1 wd1.drop_own Src.rng h1.2.2⟩
  · exact h1.elim
theorem di_range2 (hm : X.mg "range" = none) (ha : PE X e (tD C wa .z none T)) (hb : PE X e2 (tD C wb .z none T2)) (hg : Gl X "range" := by rfl) (hs : starEach [e, e2] X.env = [(false, eval e X.env), (false, eval e2 X.env)] := by rfl) (hs2 : starEach [e2] X.env = [(false, eval e2 X.env)] := by rfl) :
    PI X tg (.Call (.Name "range" p) [e, e2] [] pos) (tI C (iR2 wa wb) (T ++ T2)) := PI.imp (pi_range2 hg hm (pa_cons ha (pa_cons hb pa_nil hs2) (by rw [hs, hs2])) hs hs2) fun σ H R h => by
  obtain ⟨L, F, ρ, fs, g, Qd, Xd, wd, h, xo, q⟩ := h
  refine ⟨L, F, ρ, fs, g, _, Xd, wd, h, xo.sub (fun i hi => List.mem_append_left _ hi), fun d v ρ1 F1 H1 fs1 fp s1 wd1 r1 b1 h1 => ?_⟩
  refine ⟨L, F1, ρ1, fs1, g, _, Xd, wd1.drop_own, h1, xo.next s1 (fun _ h => h) (fun w => w), fun d2 v2 ρ2 F2 H2 fs2 fp2 s2 wd2 r2 b2 h2 => ?_⟩
  split at h2
  · cases r1.scal_int
    cases r2.scal_int
    exact ⟨_, _, rfl, h2.1, q _ _ ρ2 F2 H2 fs2 [] (s1.trans s2) wd2.drop_own Src.rng h2.2⟩
  · exact h2.elim
end
end Vo

set_option maxHeartbeats 4000000
/-! Values with owners, 9: comprehensions, displays. -/
namespace Vo
open PySem PySem.Spec PyProof.Rows L2

def wTrue : DB := fun _ ρ Q => Q true ρ
def wipeR (ρ : Rho) : List Nat → Rho
  | [] => ρ
  | v :: vs => put (wipeR ρ vs) v none
def restR (ρ0 ρ : Rho) : List Nat → Rho
  | [] => ρ
  | v :: vs => put (restR ρ0 ρ vs) v (slot ρ0 v)
def clrs (fs : List (List Addr)) : List Nat → List (List Addr)
  | [] => fs
  | v :: vs => (clrs fs vs).set v []
def noX : XD := fun _ _ => False
def compL (wg : DG) (wc : DB) (we : DE) (vs : List Nat) : List D → List D → Rho → (List D → Rho → Prop) → Prop
  | [], acc, ρ, Q => Q acc ρ
  | d :: ds, acc, ρ, Q => wg d ρ fun ρ2 => wc noX ρ2 fun b ρ3 => if b = true then we noX ρ3 fun y ρ4 => acc.length < sizeLine ∧ compL wg wc we vs ds (acc ++ [y]) (wipeR ρ4 vs) Q else compL wg wc we vs ds acc (wipeR ρ3 vs) Q
def wLc (wi : DI) (wg : DG) (wc : DB) (we : DE) (vs : List Nat) : DE := fun X ρ Q => wi X ρ fun ds ρ1 => compL wg wc we vs ds [] (wipeR ρ1 vs) fun acc ρ2 => Q (.lst acc) (restR ρ1 ρ2 vs)
/-- within a comprehension nothing is let out -/
abbrev Cf.nox (C : Cf) : Cf := { C with W := fun _ _ _ _ => False }

section
variable {L : List Addr} {Γ : List Ty} {F H : Hp} {σ : L2.St} {ρ ρ0 : Rho} {fs : List (List Addr)} {g : List Addr}
theorem wipeR_len (ρ : Rho) : ∀ vs, (wipeR ρ vs).length = ρ.length
  | [] => rfl
  | v :: vs => by unfold wipeR; rw [put_eq, List.length_set]; exact wipeR_len ρ vs
theorem restR_len (ρ0 ρ : Rho) : ∀ vs, (restR ρ0 ρ vs).length = ρ.length
  | [] => rfl
  | v :: vs => by unfold restR; rw [put_eq, List.length_set]; exact restR_len ρ0 ρ vs
theorem clrs_len (fs : List (List Addr)) : ∀ vs, (clrs fs vs).length = fs.length
  | [] => rfl
  | v :: vs => by unfold clrs; rw [List.length_set]; exact clrs_len fs vs
theorem clrs_out : ∀ {vs : List Nat} {i : Nat}, i ∉ vs → fsAt (clrs fs vs) i = fsAt fs i
  | [], _, _ => rfl
  | v :: vs, i, h => by
    unfold clrs
    rw [fsAt_set_ne fun e => h (by simp [e])]
    exact clrs_out fun m => h (List.mem_cons_of_mem _ m)
theorem clrs_in : ∀ {vs : List Nat} {i : Nat}, i ∈ vs → fsAt (clrs fs vs) i = []
  | v :: vs, i, h => by
    unfold clrs
    by_cases e : i = v
    · subst e
      by_cases hl : i < fs.length
      · exact fsAt_set (by rw [clrs_len]; exact hl)
      · unfold fsAt
        rw [List.getD_eq_getElem?_getD, List.getElem?_eq_none (by simp [clrs_len]; omega)]
        rfl
    · rw [fsAt_set_ne e]
      exact clrs_in ((List.mem_cons.mp h).resolve_left e)
theorem clrs_cn {fs : List (List Addr)} (a : Addr) : ∀ {vs : List Nat}, cn (clrs fs vs) a ≤ cn fs a
  | [] => Nat.le_refl _
  | v :: vs => by
    unfold clrs
    have ih : cn (clrs fs vs) a ≤ cn fs a := clrs_cn a
    by_cases hl : v < (clrs fs vs).length
    · have := cn_set (fs := clrs fs vs) (i := v) (f := []) a hl
      simp at this
      omega
    · have : (clrs fs vs).set v [] = clrs fs vs := List.set_eq_of_length_le (by omega)
      rw [this]
      exact ih
theorem wipe_out {vs : List Nat} {i : Nat} : i ∉ vs → (wipe σ vs)[i]? = σ[i]? := by
  induction vs with
  | nil => intro _; rfl
  | cons v vs ih =>
    intro h
    unfold wipe
    rw [List.getElem?_set_ne fun e => h (by simp [e])]
    exact ih fun m => h (List.mem_cons_of_mem _ m)
theorem wipe_in {vs : List Nat} {i : Nat} : i ∈ vs → i < σ.length → (wipe σ vs)[i]? = some none := by
  induction vs with
  | nil => intro h; cases h
  | cons v vs ih =>
    intro h hl
    unfold wipe
    by_cases e : v = i
    · subst e
      exact List.getElem?_set_self (by rw [wipe_length]; exact hl)
    · rw [List.getElem?_set_ne e]
      exact ih ((List.mem_cons.mp h).resolve_left (Ne.symm e)) hl
theorem wipeR_out : ∀ {vs : List Nat} {i : Nat}, i ∉ vs → (wipeR ρ vs)[i]? = ρ[i]?
  | [], _, _ => rfl
  | v :: vs, i, h => by
    unfold wipeR
    rw [put_eq, List.getElem?_set_ne fun e => h (by simp [e])]
    exact wipeR_out fun m => h (List.mem_cons_of_mem _ m)
theorem wipeR_in : ∀ {vs : List Nat} {i : Nat} {d : D}, i ∈ vs → (wipeR ρ vs)[i]? ≠ some (some d)
  | v :: vs, i, d, h => by
    unfold wipeR
    rw [put_eq]
    by_cases e : v = i
    · subst e
      intro q
      rw [List.getElem?_set] at q
      simp only [↓reduceIte] at q
      split at q <;> simp at q
    · rw [List.getElem?_set_ne e]
      exact wipeR_in ((List.mem_cons.mp h).resolve_left (Ne.symm e))
theorem restR_out : ∀ {vs : List Nat} {i : Nat}, i ∉ vs → (restR ρ0 ρ vs)[i]? = ρ[i]?
  | [], _, _ => rfl
  | v :: vs, i, h => by
    unfold restR
    rw [put_eq, List.getElem?_set_ne fun e => h (by simp [e])]
    exact restR_out fun m => h (List.mem_cons_of_mem _ m)
theorem restR_in : ∀ {vs : List Nat} {i : Nat} {d : D}, i ∈ vs → (restR ρ0 ρ vs)[i]? = some (some d) → ρ0[i]? = some (some d)
  | v :: vs, i, d, h, q => by
    unfold restR at q
    rw [put_eq] at q
    by_cases e : v = i
    · subst e
      rw [List.getElem?_set] at q
      simp only [↓reduceIte] at q
      split at q
      · exact slot_some (by simpa using q)
      · cases q
    · rw [List.getElem?_set_ne e] at q
      exact restR_in ((List.mem_cons.mp h).resolve_left (Ne.symm e)) q
theorem wipe_eq {σ2 : L2.St} {vs ts : List Nat} (hl : σ2.length = σ.length) (ht : ∀ i ∈ ts, i ∈ vs) (k : ∀ i, i ∉ ts → σ2[i]? = (wipe σ vs)[i]?) : wipe σ2 vs = wipe σ vs := by
  apply List.ext_getElem?
  intro i
  by_cases m : i ∈ vs
  · by_cases h : i < σ.length
    · rw [wipe_in m h, wipe_in m (by omega)]
    · rw [List.getElem?_eq_none (by rw [wipe_length]; omega), List.getElem?_eq_none (by rw [wipe_length]; omega)]
  · rw [wipe_out m, k i fun q => m (ht i q)]
theorem Wd.wipe (w : Wd L Γ F H σ ρ fs g) (vs : List Nat) : Wd L Γ F H (wipe σ vs) (wipeR ρ vs) fs g := by
  refine ⟨w.lf, by rw [wipeR_len]; exact w.lr, by rw [wipe_length]; exact w.ls, w.le, w.nd, w.out, fun i t d ht hd => ?_⟩
  by_cases m : i ∈ vs
  · exact absurd hd (wipeR_in m)
  · rw [wipeR_out m] at hd
    rw [wipe_out m]
    exact w.sl i t d ht hd
/-- the same slots once more, from the outer state -/
theorem Wd.rewipe {σ2 : L2.St} (w : Wd L Γ F H σ2 ρ fs g) {vs ts : List Nat} (ht : ∀ i ∈ ts, i ∈ vs) (k : ∀ i, i ∉ ts → σ2[i]? = (L2.wipe σ vs)[i]?) (hl : σ.length = Γ.length) : Wd L Γ F H (L2.wipe σ vs) (wipeR ρ vs) fs g := by
  refine ⟨w.lf, by rw [wipeR_len]; exact w.lr, by rw [wipe_length]; exact hl, w.le, w.nd, w.out, fun i t d ht' hd => ?_⟩
  by_cases m : i ∈ vs
  · exact absurd hd (wipeR_in m)
  · rw [wipeR_out m] at hd
    rw [← k i fun q => m (ht i q)]
    exact w.sl i t d ht' hd
theorem Wd.unwipe {vs : List Nat} (w : Wd L Γ F H (L2.wipe σ vs) ρ fs g) (hl : σ.length = Γ.length) (z : ∀ i ∈ vs, ∀ t d, Γ[i]? = some t → ρ0[i]? = some (some d) → t = .z ∧ ∃ v, σ[i]? = some (some v) ∧ At F d v) : Wd L Γ F H σ (restR ρ0 ρ vs) (clrs fs vs) g := by
  refine ⟨by rw [clrs_len]; exact w.lf, by rw [restR_len]; exact w.lr, hl, w.le, ?_, fun a ha => w.out a ?_, fun i t d ht hd => ?_⟩
  · rw [nodup_count]
    intro a
    have h := nodup_count.mp w.nd a
    have := clrs_cn (fs := fs) a (vs := vs)
    unfold cn at this
    rw [List.count_append] at h ⊢
    omega
  · rcases List.mem_append.mp ha with m | m
    · refine List.mem_append_left _ (cn_pos.mpr ?_)
      have := clrs_cn (fs := fs) a (vs := vs)
      have := cn_pos.mp m
      omega
    · exact List.mem_append_right _ m
  · by_cases m : i ∈ vs
    · obtain ⟨e, v, ev, a⟩ := z i m t d ht (restR_in m hd)
      subst e
      rw [clrs_in m]
      exact ⟨v, ev, a, rfl⟩
    · rw [restR_out m] at hd
      rw [clrs_out m, ← wipe_out m]
      exact w.sl i t d ht hd
/-- an object of the frame is changed -/
theorem Wd.writeG (w : Wd L Γ F H σ ρ fs g) {p : Addr} (m : p ∈ g) (o : HO) : Wd L Γ F (upd H p o) σ ρ fs g := by
  have fn : F p = none := (w.out p (List.mem_append_right _ m)).1
  have nf : p ∉ fs.flatten := fun h => (List.nodup_append.mp w.nd).2.2 p h p m rfl
  refine ⟨w.lf, w.lr, w.ls, fun a u e => ?_, w.nd, fun a ha => ?_, fun i t d ht hd => ?_⟩
  · have ha : a ≠ p := ne_of_none e fn
    rcases w.le a u e with q | ⟨hl, hd, o', q⟩
    · exact .inl (by rw [upd_ne ha]; exact q)
    · exact .inr ⟨hl, hd, o', by rw [upd_ne ha]; exact q⟩
  · obtain ⟨n, h⟩ := w.out a ha
    refine ⟨n, ?_⟩
    by_cases e : a = p
    · subst e; rw [upd_same]; simp
    · rw [upd_ne e]; exact h
  · obtain ⟨v, e, r⟩ := w.sl i t d ht hd
    exact ⟨v, e, r.frame Gro.rfl fun a ha => upd_ne fun e => nf (e ▸ fsAt_mem ha)⟩
theorem RepL.snoc {R : D → V → List Addr → Prop} {d : D} {v : V} {f : List Addr} (r : R d v f) : ∀ {ds : List D} {vs : List V} {fs : List (List Addr)}, RepL R ds vs fs → RepL R (ds ++ [d]) (vs ++ [v]) (fs ++ [f])
  | [], _, _, h => by obtain ⟨rfl, rfl⟩ := h; exact ⟨v, [], f, [], rfl, rfl, r, rfl, rfl⟩
  | _ :: _, _, _, h => by
    obtain ⟨v', r', f', q, rfl, rfl, a, b⟩ := h
    exact ⟨v', _, f', _, rfl, rfl, a, RepL.snoc r b⟩
theorem RepL.lenV {R : D → V → List Addr → Prop} : ∀ {ds : List D} {vs : List V} {fs : List (List Addr)}, RepL R ds vs fs → vs.length = ds.length
  | [], _, _, h => by obtain ⟨rfl, _⟩ := h; rfl
  | _ :: _, _, _, h => by
    obtain ⟨v', r', f', q, rfl, rfl, a, b⟩ := h
    simp [RepL.lenV b]
end

theorem de_lc {X : Cx} {C : Cf} {elt tg iter : Expr} {ifs : List Expr} {scope : Scope} {own : List (Str × Nat)} {pos : Pos} {wi : DI} {wg : DG} {wc : DB} {we : DE} {t u : Ty} {k : Option Nat} {Ti Tt Te ts : List Nat} (hc : X.calm = true) (hN : X.N.Nodup) (hi : PI X tg iter (tI C wi Ti)) (ok : BlkOk X.N X.env.scope scope own)
    (hg : ∀ (s : Shared) (H : Hp) (C0 : Addr) (cl : List (Str × Addr)) (fp : List Addr), PG (X.blk s H scope (compEnvC scope cl C0 X.env) fp) tg (tG C.nox ts wg)) (ht : ∀ (s : Shared) (H : Hp) (C0 : Addr) (cl : List (Str × Addr)) (fp : List Addr), PTs (X.blk s H scope (compEnvC scope cl C0 X.env) fp) ifs (tB C.nox wc Tt))
    (he : ∀ (s : Shared) (H : Hp) (C0 : Addr) (cl : List (Str × Addr)) (fp : List Addr), PE (X.blk s H scope (compEnvC scope cl C0 X.env) fp) elt (tD C.nox we t k Te)) (hco : Coe t k u) (hv : ∀ i ∈ ts, i ∈ own.map (·.2) := by simp) (hz : ∀ i ∈ own.map (·.2), C.Γ[i]? = some .z := by simp)
    (hs : ∀ x, foldedSetIterable iter X.env x = pure x := by intro _; rfl) :
    PE X (.ListComp elt [⟨tg, iter, ifs, 0⟩] scope pos) (tD C (wLc wi wg wc we (own.map (·.2))) (.ls u) none (Ti ++ (own.map (·.2) ++ (Tt ++ Te)))) := PE.imp (pe_lc hc hN hi ok hg ht he hs) fun σ H Q h => by
  generalize own.map (·.2) = vs at *
  obtain ⟨L, F, ρ, fs, g, Qd, Xd, wd, h, xo, q⟩ := h
  refine ⟨L, F, ρ, fs, g, _, Xd, wd, h, xo.sub (fun i hi => List.mem_append_left _ hi), fun J ds ρ1 F1 H1 fs1 fp s1 wd1 src h1 => ?_⟩
  intro p hp
  have wd1' : Wd L C.Γ F1 (upd H1 p (.lst [])) σ ρ1 fs1 (p :: (fp ++ g)) := wd1.allocO hp _
  have s1p : Step [] F1 H1 ρ1 fs1 (fp ++ g) F1 (upd H1 p (.lst [])) ρ1 fs1 := wd1.stepO hp _
  let Tb := vs ++ (Tt ++ Te)
  let In : Nat → Hp → Prop := fun i H' => i ≤ ds.length ∧ ∃ F' ρ' fs' aD aV aF, Step Tb F1 (upd H1 p (.lst [])) (wipeR ρ1 vs) fs1 (fp ++ g) F' H' ρ' fs' ∧ Wd L C.Γ F' H' (wipe σ vs) ρ' fs' (p :: aF.flatten ++ (fp ++ g)) ∧ H' p = some (.lst aV) ∧ RepL (Rep F' H' u) aD aV aF ∧
    compL wg wc we vs (ds.drop i) aD ρ' fun acc ρ2 => Qd (.lst acc) (restR ρ1 ρ2 vs)
  refine ⟨fun i m H' => m = ds.length - i ∧ In i H', ⟨ds.length, by simp, Nat.zero_le _, F1, wipeR ρ1 vs, fs1, [], [], [], Step.rfl, by simpa using wd1'.wipe vs, upd_same, ⟨rfl, rfl⟩, by simpa using h1⟩, ?_⟩
  rintro i m H2 ⟨rfl, hi, F2, ρ2, fs2, aD, aV, aF, s2, wd2, hp2, ra, h2⟩
  have wd2g : Wd L C.Γ F2 H2 (wipe σ vs) ρ2 fs2 (fp ++ g) := wd2.drop
  have srcf : ∀ a ∈ fp ++ g, H2 a = H1 a := fun a ha => (s2.fr a ha).trans (s1p.fr a ha)
  have src2 := src L C.Γ F2 H2 (wipe σ vs) ρ2 fs2 (fp ++ g) i s2.gro srcf wd2g
  obtain ⟨hst, hgo, _⟩ := src2
  by_cases hlt : i < ds.length
  · refine .inr ⟨hgo hlt, In (i + 1), fun H' z => ⟨ds.length - (i + 1), by omega, rfl, z⟩, fun y H3 yy => ?_⟩
    obtain ⟨_, _, hy⟩ := src L C.Γ F2 H2 (wipe σ vs) ρ2 fs2 (p :: aF.flatten ++ (fp ++ g)) i s2.gro srcf wd2
    obtain ⟨d, F3, ed, ad, wd3, s3⟩ := hy y H3 hlt yy
    have e : ds.drop i = d :: ds.drop (i + 1) := by
      rw [List.drop_eq_getElem_cons hlt]
      congr 1
      rw [List.getElem?_eq_getElem hlt] at ed
      exact Option.some.inj ed
    rw [e] at h2
    refine ⟨L, F3, ρ2, fs2, p :: aF.flatten ++ (fp ++ g), d, _, wd3, ad, h2, fun ρ4 σ4 F4 H4 fs4 s4 k4 wd4 h4 => ?_⟩
    have l4 : σ4.length = σ.length := by rw [wd4.ls, ← wd.ls]
    refine ⟨wipe_eq l4 hv k4, ?_⟩
    have s24 : Step Tb F2 H2 ρ2 fs2 (p :: aF.flatten ++ (fp ++ g)) F4 H4 ρ4 fs4 := (s3.trans s4).wide fun i hi => List.mem_append_left _ (hv i (by simpa using hi))
    refine ⟨L, F4, ρ4, fs4, p :: aF.flatten ++ (fp ++ g), _, noX, wd4, h4, fun x' ρ' F' H' fs' cls dd _ _ _ z => z.elim, fun b ρ5 F5 H5 fs5 s5 wd5 h5 => ?_⟩
    have s25 : Step Tb F2 H2 ρ2 fs2 (p :: aF.flatten ++ (fp ++ g)) F5 H5 ρ5 fs5 := (s24.trans s5).wide fun i hi => by
      rcases List.mem_append.mp hi with h | h
      · exact h
      · exact List.mem_append_right _ (List.mem_append_left _ h)
    have fr5 : ∀ a ∈ p :: aF.flatten, H5 a = H2 a := fun a ha => s25.fr a (List.mem_append_left _ ha)
    cases b with
    | false =>
      refine ⟨by omega, F5, wipeR ρ5 vs, fs5, aD, aV, aF, ?_, wd5.rewipe hv (fun i hi => k4 i hi) wd.ls, (fr5 p List.mem_cons_self).trans hp2, RepL.imp ra fun d v f hf r => r.frame s25.gro fun a ha => fr5 a (List.mem_cons_of_mem _ (List.mem_flatten.mpr ⟨f, hf, ha⟩)), h5⟩
      have st := s2.trans (s25.sub (g' := fp ++ g) fun a ha => List.mem_append_right _ ha)
      refine ⟨st.gro, st.fr, fun i hi => ?_⟩
      have hi2 : i ∉ Tb ++ Tb := by simpa using hi
      obtain ⟨e1, e2, e3⟩ := st.sl i hi2
      exact ⟨e1, by rw [wipeR_out fun m => hi (List.mem_append_left _ m)]; exact e2, e3⟩
    | true =>
      refine ⟨L, F5, ρ5, fs5, p :: aF.flatten ++ (fp ++ g), _, noX, wd5, h5, fun x' ρ' F' H' fs' cls dd _ _ _ z => z.elim, fun y6 v6 ρ6 F6 H6 fs6 fp6 s6 wd6 r6 b6 h6 => ?_⟩
      obtain ⟨hlen, h6⟩ := h6
      obtain ⟨F7, fp7, wd7, r7, s67⟩ := hco.use wd6 r6
      have s27 : Step Tb F2 H2 ρ2 fs2 (p :: aF.flatten ++ (fp ++ g)) F7 H6 ρ6 fs6 := ((s25.trans s6).trans s67).wide fun i hi => by
        simp only [List.append_nil] at hi
        rcases List.mem_append.mp hi with h | h
        · exact h
        · exact List.mem_append_right _ (List.mem_append_right _ h)
      have fr7 : ∀ a ∈ p :: aF.flatten, H6 a = H2 a := fun a ha => s27.fr a (List.mem_append_left _ ha)
      have hp6 : H6 p = some (.lst aV) := (fr7 p List.mem_cons_self).trans hp2
      refine ⟨aV, hp6, by rw [ra.lenV]; exact hlen, by omega, F7, wipeR ρ6 vs, fs6, aD ++ [y6], aV ++ [v6], aF ++ [fp7], ?_, ?_, upd_same, ?_, h6⟩
      · have st := s2.trans (s27.sub (g' := fp ++ g) fun a ha => List.mem_append_right _ ha)
        have pg : ∀ a ∈ fp ++ g, a ≠ p := fun a ha e => by
          have := wd2.nd
          rw [List.nodup_append] at this
          have n2 := this.2.1
          rw [List.cons_append, List.nodup_cons] at n2
          exact n2.1 (List.mem_append_right _ (e ▸ ha))
        refine ⟨st.gro, fun a ha => (upd_ne (pg a ha)).trans (st.fr a ha), fun i hi => ?_⟩
        have hi2 : i ∉ Tb ++ Tb := by simpa using hi
        obtain ⟨e1, e2, e3⟩ := st.sl i hi2
        refine ⟨e1, by rw [wipeR_out fun m => hi (List.mem_append_left _ m)]; exact e2, fun a ha => ?_⟩
        refine (upd_ne fun e => ?_).trans (e3 a ha)
        have i1 : a ∈ fs6.flatten := fsAt_mem (i := i) (by rw [e1]; exact ha)
        have := (List.nodup_append.mp wd7.nd).2.2 a i1 p (List.mem_append_right _ (List.mem_append_left _ List.mem_cons_self))
        exact this e
      · have w8 : Wd L C.Γ F7 (upd H6 p (.lst (aV ++ [v6]))) σ4 ρ6 fs6 (fp7 ++ (p :: aF.flatten ++ (fp ++ g))) := wd7.writeG (List.mem_append_right _ (List.mem_append_left _ List.mem_cons_self)) _
        have w9 := w8.rewipe hv (fun i hi => k4 i hi) wd.ls
        refine w9.perm ?_
        have e1 : (aF ++ [fp7]).flatten = aF.flatten ++ fp7 := by simp
        rw [e1]
        show (fp7 ++ (p :: aF.flatten ++ (fp ++ g))).Perm (p :: (aF.flatten ++ fp7) ++ (fp ++ g))
        rw [← List.append_assoc]
        refine List.Perm.append_right _ ?_
        refine List.perm_append_comm.trans ?_
        simp
      · have np : ∀ f ∈ aF ++ [fp7], ∀ a ∈ f, a ≠ p := fun f hf a ha e => by
          have n := (List.nodup_append.mp wd7.nd).2.1
          rcases List.mem_append.mp hf with h | h
          · have n2 := (List.nodup_append.mp n).2.1
            rw [List.cons_append, List.nodup_cons] at n2
            exact n2.1 (List.mem_append_left _ (e ▸ List.mem_flatten.mpr ⟨f, h, ha⟩))
          · have ef : f = fp7 := by simpa using h
            subst ef
            exact (List.nodup_append.mp n).2.2 a ha p (List.mem_append_left _ List.mem_cons_self) e
        have r1 : RepL (Rep F7 H6 u) (aD ++ [y6]) (aV ++ [v6]) (aF ++ [fp7]) := RepL.snoc r7 (RepL.imp ra fun d v f hf r => r.frame s27.gro fun a ha => fr7 a (List.mem_cons_of_mem _ (List.mem_flatten.mpr ⟨f, hf, ha⟩)))
        exact RepL.imp r1 fun d v f hf r => r.frame Gro.rfl fun a ha => upd_ne (np f hf a ha)
  · have e : i = ds.length := by omega
    subst e
    rw [List.drop_length] at h2
    refine .inl ⟨hst rfl, ?_⟩
    have w3 : Wd L C.Γ F2 H2 (wipe σ vs) ρ2 fs2 ((p :: aF.flatten) ++ g) := wd2.drop2
    have w4 : Wd L C.Γ F2 H2 σ (restR ρ1 ρ2 vs) (clrs fs2 vs) ((p :: aF.flatten) ++ g) := w3.unwipe wd.ls fun i hi t d ht hd => by
      have hzi := hz i hi
      rw [ht] at hzi
      cases hzi
      obtain ⟨v, ev, r⟩ := wd1.sl i .z d ht hd
      exact ⟨rfl, v, ev, r.1.mono s2.gro⟩
    refine q (.lst aD) (.ref p) _ F2 H2 _ (p :: aF.flatten) ?_ w4 ⟨aD, p, aV, aF, rfl, rfl, hp2, ra, rfl⟩ (fun i e => by cases e) h2
    refine ⟨s1.gro.trans s2.gro, fun a ha => ((s2.fr a (List.mem_append_right _ ha)).trans (s1p.fr a (List.mem_append_right _ ha))).trans (s1.fr a ha), fun i hi => ?_⟩
    have n1 : i ∉ Ti := fun m => hi (List.mem_append_left _ m)
    have n2 : i ∉ vs := fun m => hi (List.mem_append_right _ (List.mem_append_left _ m))
    have n3 : i ∉ Tb := fun m => hi (List.mem_append_right _ m)
    obtain ⟨a1, a2, a3⟩ := s1.sl i n1
    obtain ⟨b1, b2, b3⟩ := s2.sl i n3
    obtain ⟨_, _, c3⟩ := s1p.sl i (by simp)
    refine ⟨by rw [clrs_out n2, b1, a1], by rw [restR_out n2, b2, wipeR_out n2, a2], fun a ha => ?_⟩
    rw [b3 a (by rw [a1]; exact ha), c3 a (by rw [a1]; exact ha), a3 a ha]
end Vo

set_option maxHeartbeats 4000000
/-! Values with owners, 10: displays, items, slices, built-in functions and methods. -/
namespace Vo
open PySem PySem.Spec PyProof.Rows L2

/-! ### conditions of a comprehension -/
section
variable {X : Cx} {C : Cf} {c : Expr} {vc : DB} {T : List Nat}
theorem dp_nil : PTs X [] (tB C wTrue []) := ⟨fun pins s σ H Q I h => pts_nil.run pins s σ H Q I (by
  obtain ⟨L, F, ρ, fs, g, Qd, Xd, wd, h, xo, q⟩ := h
  exact q true ρ F H fs Step.rfl wd h)⟩
theorem dp_one (h : PT X c (tB C vc T)) : PTs X [c] (tB C vc T) := pts_one h
end

/-! ### displays -/
/-- the items of a display: all of one type u -/
def CoeA (u : Ty) : List AK → Prop
  | [] => True
  | .e t k :: as => Coe t k u ∧ CoeA u as
  | .inn _ :: _ => False
theorem RepA.repL {u : Ty} {L : List Addr} {Γ : List Ty} {F H : Hp} {σ : L2.St} {ρ : Rho} {fs : List (List Addr)} : ∀ {as : List AK} {ds : List D} {vs : List V} {fps : List (List Addr)} {g : List Addr}, CoeA u as → Wd L Γ F H σ ρ fs (ownA as fps ++ g) → RepA F H σ fs as ds vs fps →
    ∃ F' fq, Wd L Γ F' H σ ρ fs (fq.flatten ++ g) ∧ RepL (Rep F' H u) ds vs fq ∧ Step [] F H ρ fs g F' H ρ fs
  | [], ds, vs, fps, g, _, wd, h => by
    obtain ⟨rfl, rfl, rfl⟩ := h
    exact ⟨F, [], wd, ⟨rfl, rfl⟩, Step.rfl⟩
  | .e t k :: as, _, _, _, g, hc, wd, h => by
    obtain ⟨d, v, fp, ds', vs', fps', rfl, rfl, rfl, r, b, q⟩ := h
    have w0 : Wd L Γ F H σ ρ fs (own k fp ++ (ownA as fps' ++ g)) := wd.perm (by show ((own k fp ++ ownA as fps') ++ g).Perm _; rw [List.append_assoc])
    obtain ⟨F1, fp1, w1, r1, s1⟩ := hc.1.use w0 r
    have w1' : Wd L Γ F1 H σ ρ fs (ownA as fps' ++ (fp1 ++ g)) := w1.perm (by
      rw [← List.append_assoc, ← List.append_assoc]
      exact List.Perm.append_right _ List.perm_append_comm)
    have q1 : RepA F1 H σ fs as ds' vs' fps' := by
      have mono : ∀ {as : List AK} {ds : List D} {vs : List V} {fps : List (List Addr)}, RepA F H σ fs as ds vs fps → RepA F1 H σ fs as ds vs fps := by
        intro as
        induction as with
        | nil => intro ds vs fps h; exact h
        | cons x as ih =>
          intro ds vs fps h
          cases x with
          | e t k =>
            obtain ⟨d, v, fp, ds', vs', fps', e1, e2, e3, r, b, q⟩ := h
            exact ⟨d, v, fp, ds', vs', fps', e1, e2, e3, r.frame s1.gro fun _ _ => rfl, b, ih q⟩
          | inn i =>
            obtain ⟨v, ds', vs', fps', e1, e2, e3, e4, q⟩ := h
            exact ⟨v, ds', vs', fps', e1, e2, e3, e4, ih q⟩
      exact mono q
    obtain ⟨F2, fq, w2, r2, s2⟩ := RepA.repL (as := as) hc.2 w1' q1
    refine ⟨F2, fp1 :: fq, w2.perm ?_, ⟨v, vs', fp1, fq, rfl, rfl, r1.frame s2.gro fun _ _ => rfl, r2⟩, ?_⟩
    · show (fq.flatten ++ (fp1 ++ g)).Perm ((fp1 ++ fq.flatten) ++ g)
      rw [← List.append_assoc]
      exact List.Perm.append_right _ List.perm_append_comm
    · have := (s1.sub (g' := g) fun a ha => List.mem_append_right _ ha).trans (s2.sub (g' := g) fun a ha => List.mem_append_right _ ha)
      exact this.wide (by simp)
  | .inn i :: as, _, _, _, _, hc, _, _ => hc.elim

def wLst (wl : DL) : DE := fun X ρ Q => wl X ρ fun ds ρ1 => ds.length ≤ sizeLine ∧ Q (.lst ds) ρ1
def wTup (wl : DL) : DE := fun X ρ Q => wl X ρ fun ds ρ1 => ds.length ≤ sizeLine ∧ Q (.tup ds) ρ1
section
variable {X : Cx} {C : Cf} {es : List Expr} {wl : DL} {as : List AK} {T : List Nat} {u : Ty} {pos : Pos}
theorem de_lst (u : Ty) (h : PA X es (tA C wl as T)) (hc : CoeA u as) : PE X (.List es pos) (tD C (wLst wl) (.ls u) none T) := PE.imp (pe_lst h) fun σ H Q h => by
  obtain ⟨L, F, ρ, fs, g, Qd, Xd, wd, h, xo, q⟩ := h
  refine ⟨L, F, ρ, fs, g, _, Xd, wd, h, xo, fun ds vs ρ1 F1 H1 fs1 fps s1 wd1 r1 h1 => ?_⟩
  obtain ⟨F2, fq, wd2, r2, s2⟩ := r1.repL hc wd1
  refine ⟨by rw [r2.lenV]; exact h1.1, fun p hp => ?_⟩
  have ne : ∀ a ∈ fs1.flatten ++ (fq.flatten ++ g), a ≠ p := fun a ha e => wd2.new hp (e ▸ ha)
  refine q (.lst ds) (.ref p) ρ1 F2 _ fs1 (p :: fq.flatten) ?_ (wd2.allocO hp _) ⟨ds, p, vs, fq, rfl, rfl, upd_same, RepL.imp r2 fun d v f hf r => r.frame Gro.rfl fun a ha => upd_ne (ne a (List.mem_append_right _ (List.mem_append_left _ (List.mem_flatten.mpr ⟨f, hf, ha⟩)))), rfl⟩ (fun i e => by cases e) h1.2
  exact ((s1.trans s2).trans ((wd2.stepO (T := []) hp _).sub fun a ha => List.mem_append_right _ ha)).wide (by simp)
theorem de_tup {x1} (h : PA X es (tA C wl as T)) (hc : CoeA .z as) : PE X (.Tuple es x1 pos) (tD C (wTup wl) .z none T) := PE.imp (pe_tup h) fun σ H Q h => by
  obtain ⟨L, F, ρ, fs, g, Qd, Xd, wd, h, xo, q⟩ := h
  refine ⟨L, F, ρ, fs, g, _, Xd, wd, h, xo, fun ds vs ρ1 F1 H1 fs1 fps s1 wd1 r1 h1 => ?_⟩
  obtain ⟨F2, fq, wd2, r2, s2⟩ := r1.repL hc wd1
  refine ⟨by rw [r2.lenV]; exact h1.1, fun p hp => ?_⟩
  obtain ⟨al, e0⟩ := r2.to_AtL
  rw [e0] at wd2
  refine q (.tup ds) (.ref p) ρ1 _ _ fs1 [] ?_ (wd2.allocZ hp _) ⟨?_, rfl⟩ (fun i e => by cases e) h1.2
  · exact ((s1.trans s2).trans (wd2.stepZ (T := []) hp _)).wide (by simp)
  · unfold At
    exact ⟨p, vs, rfl, upd_same, al.mono (Gro.upd (wd2.fnone hp))⟩
end

/-! ### items, slices -/
def pyIx (d e : D) (Q : D → Prop) : Prop := match d, e with
  | .lst ds, .int i => match atI ds i with
    | some x => Q x
    | none => False
  | .tup ds, .int i => match atI ds i with
    | some x => Q x
    | none => False
  | .str z, .int i => z.length ≤ sizeLine ∧ match atI z.cps.toList i with
    | some c => Q (.str ⟨#[c]⟩)
    | none => False
  | _, _ => False
theorem AtL.atI {F : Hp} {ds : List D} {vs : List V} {i : Int} {d : D} (al : AtL F ds vs) (h : L2.atI ds i = some d) : ∃ v, L2.atI vs i = some v ∧ At F d v := by
  unfold L2.atI at h ⊢
  rw [al.len]
  cases e : ixN ds.length i with
  | none => rw [e] at h; simp at h
  | some j =>
    rw [e] at h
    exact al.get (by simpa using h)
theorem RepL.get {R : D → V → List Addr → Prop} : ∀ {ds : List D} {vs : List V} {fs : List (List Addr)} {i : Nat} {d : D}, RepL R ds vs fs → ds[i]? = some d → ∃ v f, vs[i]? = some v ∧ fs[i]? = some f ∧ R d v f
  | [], _, _, _, _, _, e => by simp at e
  | _ :: _, _, _, 0, _, h, e => by
    obtain ⟨v, r, f, q, rfl, rfl, a, b⟩ := h
    simp at e; subst e
    exact ⟨v, f, rfl, rfl, a⟩
  | _ :: _, _, _, i + 1, _, h, e => by
    obtain ⟨v, r, f, q, rfl, rfl, a, b⟩ := h
    obtain ⟨v', f', e1, e2, a'⟩ := RepL.get (i := i) b (by simpa using e)
    exact ⟨v', f', by simpa using e1, by simpa using e2, a'⟩
section
variable {X : Cx} {C : Cf} {ta tb t : Ty} {ka kb : Option Nat} {wa wb wc : DE} {Ta Tb Tc : List Nat} {a b c : Expr} {pos : Pos}
/-- an item of a list of frozen items, a tuple, a text -/
theorem s_ix {K : PySem.W.Frag} (ht : ta.flat = true) : Op2 C ta tb ka kb .z none pyIx (rIx K) := fun L F H σ ρ fs g d e v u fp fq Qo Q wd ra rb bo hf k => by
  unfold pyIx at hf
  split at hf
  · rename_i ds i
    split at hf
    · rename_i x ex
      cases rb.scal_int
      obtain ⟨p, vs, rfl, hp, al⟩ := ra.flat wd.le ht
      obtain ⟨y, ey, ay⟩ := al.atI ex
      exact .inl ⟨p, vs, i, y, rfl, rfl, SqL.of hp, ey, k _ _ F H [] Step.rfl wd.drop_own.drop_own ⟨ay, rfl⟩ (fun i e => by cases e) hf⟩
    · exact hf.elim
  · rename_i ds i
    split at hf
    · rename_i x ex
      cases rb.scal_int
      have aa : At F (.tup ds) v := by
        cases ta with
        | z => exact ra.1
        | ls _ => obtain ⟨_, _, _, _, e, _⟩ := ra; cases e
        | pot => cases ht
      unfold At at aa
      obtain ⟨p, vs, rfl, hp, al⟩ := aa
      obtain ⟨y, ey, ay⟩ := al.atI ex
      exact .inr (.inl ⟨p, vs, i, y, rfl, rfl, SqT.of (wd.le p _ hp).is, ey, k _ _ F H [] Step.rfl wd.drop_own.drop_own ⟨ay, rfl⟩ (fun i e => by cases e) hf⟩)
    · exact hf.elim
  · rename_i z i
    obtain ⟨hz, hf⟩ := hf
    split at hf
    · rename_i x ex
      cases rb.scal_int
      cases ra.scal_str
      exact .inr (.inr ⟨z, i, x, rfl, rfl, hz, ex, k _ _ F H [] Step.rfl wd.drop_own.drop_own ⟨at_str, rfl⟩ (fun i e => by cases e) hf⟩)
    · exact hf.elim
  · exact hf.elim
/-- an item that is owned by the list: it stays there (borrowed, or a part of a temporary) -/
theorem s_ixO {K : PySem.W.Frag} : Op2 C (.ls t) tb ka kb t ka pyIx (rIx K) := fun L F H σ ρ fs g d e v u fp fq Qo Q wd ra rb bo hf k => by
  obtain ⟨ds, p, vs, fs', rfl, rfl, hp, l, rfl⟩ := ra
  unfold pyIx at hf
  split at hf
  · rename_i ds' i ex
    cases ex
    split at hf
    · rename_i x h1
      cases rb.scal_int
      unfold L2.atI at h1
      cases e : ixN ds.length i with
      | none => rw [e] at h1; simp at h1
      | some j =>
        rw [e] at h1
        obtain ⟨y, f, e1, e2, a⟩ := l.get (show ds[j]? = some x by simpa using h1)
        have hj : L2.atI vs i = some y := by
          unfold L2.atI
          rw [l.lenV, e]
          exact e1
        have fm : ∀ a ∈ f, a ∈ p :: fs'.flatten := fun a ha => List.mem_cons_of_mem _ (List.mem_flatten.mpr ⟨f, List.mem_of_getElem? e2, ha⟩)
        refine .inl ⟨p, vs, i, y, rfl, rfl, SqL.of hp, hj, k x y F H f Step.rfl ?_ a (fun i e a ha => bo i e a (fm a ha)) hf⟩
        cases ka with
        | some i => exact wd.drop_own.drop
        | none =>
          have w1 : Wd L C.Γ F H σ ρ fs ((p :: fs'.flatten) ++ g) := wd.drop_own
          refine ⟨w1.lf, w1.lr, w1.ls, w1.le, ?_, fun a ha => w1.out a ?_, w1.sl⟩
          · rw [nodup_count]
            intro a
            have h := nodup_count.mp w1.nd a
            have hle : f.count a ≤ (p :: fs'.flatten).count a := by
              have : f.Sublist fs'.flatten := List.sublist_flatten_of_mem (List.mem_of_getElem? e2)
              exact Nat.le_trans (this.count_le a) ((List.sublist_cons_self p _).count_le a)
            simp only [own, List.count_append] at h hle ⊢
            omega
          · rcases List.mem_append.mp ha with m | m
            · exact List.mem_append_left _ m
            · rcases List.mem_append.mp m with m | m
              · exact List.mem_append_right _ (List.mem_append_left _ (fm a m))
              · exact List.mem_append_right _ (List.mem_append_right _ m)
    · exact hf.elim
  · rename_i ex
    cases ex
  · rename_i ex
    cases ex
  · exact hf.elim
theorem d2_ix {t' : Ty} {k : Option Nat} (hs : Op2 C ta tb ka kb t' k pyIx (rIx X.K)) (ha : PE X a (tD C wa ta ka Ta)) (hb : PE X b (tD C wb tb kb Tb)) (hp : PlainIx b := by intro _ _; rfl) (hk : ∀ i, ka = some i → i ∉ Tb := by simp) :
    PE X (.Subscript a b pos) (tD C (w2 pyIx wa wb) t' k (Ta ++ Tb)) := PE.imp (pe_ix ix_seq ha hb hp) fun _ _ _ h => red2 hs hk h
end
end Vo

set_option maxHeartbeats 4000000
/-! Values with owners, 11: built-in functions and methods. -/
namespace Vo
open PySem PySem.Spec PyProof.Rows L2

section
variable {X : Cx} {C : Cf} {ta tb t : Ty} {ka kb k : Option Nat} {wa wb : DE} {Ta Tb : List Nat} {a b : Expr} {p pos : Pos} {x : Str} {id : String} {f : D → (D → Prop) → Prop} {f2 : D → D → (D → Prop) → Prop} {r : List V → Hp → VK → Prop}
/-- f(a), f a built-in function -/
theorem d1_B (hc : CallR X (.builtin id) r) (hs : Op1 C ta ka t k f (fun x H Q => r [x] H Q)) (hm : X.mg x = none) (hv : bootBuiltins x = some (.builtin id)) (ha : PE X a (tD C wa ta ka Ta)) (hg : Gl X x := by rfl) (hn : x ≠ "__name__" := by decide) (hdb : (x == ("__debug__" : Str)) = false := by decide)
    (he : starEach [a] X.env = (false, eval a X.env) :: starEach [] X.env := by rfl) (hpl : (backTo pos (starEach [] X.env)).any (·.1) = false := by rfl) : PE X (.Call (.Name x p) [a] [] pos) (tD C (w1 f wa) t k Ta) :=
  PE.imp (pe_callB hc hg hm hv (pa_cons ha pa_nil he) hn hdb he hpl) fun _ _ _ h => red1 hs h
theorem d1_T {T : String} (hc : CallR X (.type T) r) (hs : Op1 C ta ka t k f (fun x H Q => r [x] H Q)) (hm : X.mg x = none) (hv : bootBuiltins x = some (.type T)) (ha : PE X a (tD C wa ta ka Ta)) (hg : Gl X x := by rfl) (hn : x ≠ "__name__" := by decide) (hdb : (x == ("__debug__" : Str)) = false := by decide)
    (he : starEach [a] X.env = (false, eval a X.env) :: starEach [] X.env := by rfl) (hpl : (backTo pos (starEach [] X.env)).any (·.1) = false := by rfl) : PE X (.Call (.Name x p) [a] [] pos) (tD C (w1 f wa) t k Ta) :=
  PE.imp (pe_callTy hc hg hm hv (pa_cons ha pa_nil he) hn hdb he hpl) fun _ _ _ h => red1 hs h
theorem d2_B (hc : CallR X (.builtin id) r) (hs : Op2 C ta tb ka kb t k f2 (fun x y H Q => r [x, y] H Q)) (hm : X.mg x = none) (hv : bootBuiltins x = some (.builtin id)) (ha : PE X a (tD C wa ta ka Ta)) (hb : PE X b (tD C wb tb kb Tb)) (hg : Gl X x := by rfl) (hk : ∀ i, ka = some i → i ∉ Tb := by simp) (hn : x ≠ "__name__" := by decide) (hdb : (x == ("__debug__" : Str)) = false := by decide)
    (he : starEach [a, b] X.env = (false, eval a X.env) :: starEach [b] X.env := by rfl) (he2 : starEach [b] X.env = (false, eval b X.env) :: starEach [] X.env := by rfl) (hpl : (backTo pos (starEach [b] X.env)).any (·.1) = false := by rfl) : PE X (.Call (.Name x p) [a, b] [] pos) (tD C (w2 f2 wa wb) t k (Ta ++ Tb)) :=
  PE.imp (pe_callB hc hg hm hv (pa_cons ha (pa_cons hb pa_nil he2) he) hn hdb he hpl) fun _ _ _ h => red2 hs hk h
end

/-! ### functions -/
def pyLen (K : PySem.W.Frag) (d : D) (Q : D → Prop) : Prop := match d with
  | .lst ds => Q (.int ds.length)
  | .tup ds => Q (.int ds.length)
  | .str x => x.length ≤ sizeLine ∧ Q (.int x.length)
  | .scr K' _ ns => K' = K ∧ Q (.int ns.length)
  | _ => False
def pyAbs (d : D) (Q : D → Prop) : Prop := match d with
  | .int i => Q (.int (if i < 0 then -i else i))
  | _ => False
def pyMax (d e : D) (Q : D → Prop) : Prop := match d, e with
  | .int i, .int j => Q (.int (if j > i then j else i))
  | _, _ => False
def pyMin (d e : D) (Q : D → Prop) : Prop := match d, e with
  | .int i, .int j => Q (.int (if j < i then j else i))
  | _, _ => False
/-- list(x): a new list -/
def pyList (d : D) (Q : D → Prop) : Prop := match d with
  | .lst ds => Q (.lst ds)
  | .tup ds => Q (.lst ds)
  | _ => False
def boolsD : List D → Option (List Bool)
  | [] => some []
  | .bl b :: ds => (boolsD ds).map (b :: ·)
  | _ :: _ => none
def pyAll (d : D) (Q : D → Prop) : Prop := match d with
  | .lst ds => match boolsD ds with
    | some bs => Q (.bl (bs.all id))
    | none => False
  | _ => False
def pyAny (d : D) (Q : D → Prop) : Prop := match d with
  | .lst ds => match boolsD ds with
    | some bs => Q (.bl (bs.any id))
    | none => False
  | _ => False
def intsD : List D → Option (List Int)
  | [] => some []
  | .int b :: ds => (intsD ds).map (b :: ·)
  | _ :: _ => none
def pySum (d : D) (Q : D → Prop) : Prop := match d with
  | .lst ds => match intsD ds with
    | some bs => Q (.int bs.sum)
    | none => False
  | _ => False
def strsD : List D → Option (List Str)
  | [] => some []
  | .str b :: ds => (strsD ds).map (b :: ·)
  | _ :: _ => none
theorem bools_at {F : Hp} : ∀ {ds : List D} {bs : List Bool} {vs : List V}, boolsD ds = some bs → AtL F ds vs → vs = bs.map V.bl
  | [], _, _, h, a => by simp [boolsD] at h; subst h; unfold AtL at a; simp [a]
  | d :: ds, bs, _, h, a => by
    unfold AtL at a
    obtain ⟨v, r, rfl, a1, a2⟩ := a
    cases d <;> simp only [boolsD, Option.map_eq_some_iff] at h
    all_goals first | (obtain ⟨cs, hc, rfl⟩ := h; unfold At at a1; subst a1; rw [bools_at hc a2]; rfl) | (cases h)
theorem ints_at {F : Hp} : ∀ {ds : List D} {bs : List Int} {vs : List V}, intsD ds = some bs → AtL F ds vs → vs = bs.map V.int
  | [], _, _, h, a => by simp [intsD] at h; subst h; unfold AtL at a; simp [a]
  | d :: ds, bs, _, h, a => by
    unfold AtL at a
    obtain ⟨v, r, rfl, a1, a2⟩ := a
    cases d <;> simp only [intsD, Option.map_eq_some_iff] at h
    all_goals first | (obtain ⟨cs, hc, rfl⟩ := h; unfold At at a1; subst a1; rw [ints_at hc a2]; rfl) | (cases h)
theorem strs_at {F : Hp} : ∀ {ds : List D} {bs : List Str} {vs : List V}, strsD ds = some bs → AtL F ds vs → vs = bs.map V.str
  | [], _, _, h, a => by simp [strsD] at h; subst h; unfold AtL at a; simp [a]
  | d :: ds, bs, _, h, a => by
    unfold AtL at a
    obtain ⟨v, r, rfl, a1, a2⟩ := a
    cases d <;> simp only [strsD, Option.map_eq_some_iff] at h
    all_goals first | (obtain ⟨cs, hc, rfl⟩ := h; unfold At at a1; subst a1; rw [strs_at hc a2]; rfl) | (cases h)
theorem Rep.tupZ {F H : Hp} {ds : List D} {v : V} {t : Ty} {fp : List Addr} (h : Rep F H t (.tup ds) v fp) : At F (.tup ds) v := by
  cases t with
  | z => exact h.1
  | ls _ => obtain ⟨_, _, _, _, e, _⟩ := h; cases e
  | pot => obtain ⟨_, _, _, _, _, _, e, _⟩ := h; cases e
theorem Rep.scrZ {K : PySem.W.Frag} {p : Addr} {F H : Hp} {ds : List Int} {v : V} {t : Ty} {fp : List Addr} (h : Rep F H t (.scr K p ds) v fp) : At F (.scr K p ds) v := by
  cases t with
  | z => exact h.1
  | ls _ => obtain ⟨_, _, _, _, e, _⟩ := h; cases e
  | pot => obtain ⟨_, _, _, _, _, _, e, _⟩ := h; cases e
section
variable {C : Cf} {ta tb t : Ty} {ka kb k : Option Nat} {K : PySem.W.Frag}
theorem scr_rd {K : PySem.W.Frag} {L : List Addr} {F H : Hp} (le : Und L F H) {p : Addr} {xs : List V} (h : SqL K F p xs) : SqL K H p xs := by
  rcases h with (q | ⟨o, q⟩) | q
  · exact .inl (.inl (le p _ q).is)
  · exact .inl (.inr ⟨o, (le p _ q).is⟩)
  · exact .inr q
theorem s_len : Op1 C ta ka .z none (pyLen K) (fun x H Q => ∃ y n, [x] = [y] ∧ LenV K y H n ∧ Q (.int n) H) := Op1.scal fun L F H d v fp Qo Q le ra hf k => by
  unfold pyLen at hf
  split at hf
  · obtain ⟨p, vs, rfl, hp, hl⟩ := ra.list le
    exact ⟨_, _, rfl, .inl ⟨vs, SqL.of hp, rfl⟩, by rw [hl]; exact k _ _ (fun _ => at_int) hf⟩
  · have aa := ra.tupZ
    unfold At at aa
    obtain ⟨p, vs, rfl, hp, al⟩ := aa
    exact ⟨_, _, rfl, .inr ⟨vs, SqT.of (le p _ hp).is, rfl⟩, by rw [al.len]; exact k _ _ (fun _ => at_int) hf⟩
  · cases ra.scal_str
    exact ⟨_, _, rfl, ⟨hf.1, rfl⟩, k _ _ (fun _ => at_int) hf.2⟩
  · have aa := ra.scrZ
    unfold At at aa
    obtain ⟨rfl, hq⟩ := aa
    rw [hf.1] at hq
    exact ⟨_, _, rfl, .inl ⟨_, scr_rd le hq, rfl⟩, by rw [List.length_map]; exact k _ _ (fun _ => at_int) hf.2⟩
  · exact hf.elim
theorem s_abs : Op1 C ta ka .z none pyAbs (fun x H Q => ∃ i, [x] = [V.int i] ∧ Q (.int (if i < 0 then -i else i)) H) := Op1.scal fun L F H d v fp Qo Q le ra hf k => by
  unfold pyAbs at hf
  split at hf
  · cases ra.scal_int; exact ⟨_, rfl, k _ _ (fun _ => at_int) hf⟩
  · exact hf.elim
theorem s_max : Op2 C ta tb ka kb .z none pyMax (fun x y H Q => ∃ i j, [x, y] = [V.int i, V.int j] ∧ Q (.int (if j > i then j else i)) H) := Op2.scal fun L F H d e v u fp fq Qo Q _ le ra rb hf k => by
  unfold pyMax at hf
  split at hf
  · cases ra.scal_int; cases rb.scal_int; exact ⟨_, _, rfl, k _ _ (fun _ => at_int) hf⟩
  · exact hf.elim
theorem s_min : Op2 C ta tb ka kb .z none pyMin (fun x y H Q => ∃ i j, [x, y] = [V.int i, V.int j] ∧ Q (.int (if j < i then j else i)) H) := Op2.scal fun L F H d e v u fp fq Qo Q _ le ra rb hf k => by
  unfold pyMin at hf
  split at hf
  · cases ra.scal_int; cases rb.scal_int; exact ⟨_, _, rfl, k _ _ (fun _ => at_int) hf⟩
  · exact hf.elim
theorem s_all (ht : ta.flat = true) : Op1 C ta ka .z none pyAll (fun x H Q => rAll K [x] H Q) := Op1.scal fun L F H d v fp Qo Q le ra hf k => by
  unfold pyAll at hf
  split at hf
  · split at hf
    · rename_i bs hb
      obtain ⟨p, vs, rfl, hp, al⟩ := ra.flat le ht
      have e := bools_at hb al
      subst e
      exact ⟨p, bs, rfl, SqL.of hp, k _ _ (fun _ => at_bl) hf⟩
    · exact hf.elim
  · exact hf.elim
theorem s_any (ht : ta.flat = true) : Op1 C ta ka .z none pyAny (fun x H Q => rAny K [x] H Q) := Op1.scal fun L F H d v fp Qo Q le ra hf k => by
  unfold pyAny at hf
  split at hf
  · split at hf
    · rename_i bs hb
      obtain ⟨p, vs, rfl, hp, al⟩ := ra.flat le ht
      have e := bools_at hb al
      subst e
      exact ⟨p, bs, rfl, SqL.of hp, k _ _ (fun _ => at_bl) hf⟩
    · exact hf.elim
  · exact hf.elim
theorem s_sum (ht : ta.flat = true) : Op1 C ta ka .z none pySum (fun x H Q => rSum K [x] H Q) := Op1.scal fun L F H d v fp Qo Q le ra hf k => by
  unfold pySum at hf
  split at hf
  · split at hf
    · rename_i bs hb
      obtain ⟨p, vs, rfl, hp, al⟩ := ra.flat le ht
      have e := ints_at hb al
      subst e
      exact ⟨p, bs, rfl, SqL.of hp, k _ _ (fun _ => at_int) hf⟩
    · exact hf.elim
  · exact hf.elim
/-- a new list of frozen items -/
theorem fin_new {L : List Addr} {F H : Hp} {σ : L2.St} {ρ : Rho} {fs : List (List Addr)} {g : List Addr} {ds : List D} {vs : List V} {Q : VK} {Qo : D → Prop} (wd : Wd L C.Γ F H σ ρ fs g) (al : AtL F ds vs) (ho : Qo (.lst ds))
    (k : ∀ d' v' F' H' fp', Step [] F H ρ fs g F' H' ρ fs → Wd L C.Γ F' H' σ ρ fs (own none fp' ++ g) → Rep F' H' (.ls .z) d' v' fp' → (∀ i, (none : Option Nat) = some i → ∀ a ∈ fp', a ∈ fsAt fs i) → Qo d' → Q v' H') : ∀ p, H p = none → Q (.ref p) (upd H p (.lst vs)) := fun p hp =>
  k (.lst ds) (.ref p) F _ [p] (wd.stepO hp _) (wd.allocO hp _) (Rep.lsz upd_same al) (fun i e => by cases e) ho
theorem s_list (ht : ta.flat = true) : Op1 C ta ka (.ls .z) none pyList (fun x H Q => ∃ p ys, [x] = [V.ref p] ∧ (SqL K H p ys ∨ SqT K H p ys) ∧ ∀ l, H l = none → Q (.ref l) (upd H l (.lst ys))) := fun L F H σ ρ fs g d v fp Qo Q wd ra bo hf k => by
  unfold pyList at hf
  split at hf
  · obtain ⟨p, vs, rfl, hp, al⟩ := ra.flat wd.le ht
    exact ⟨p, vs, rfl, .inl (SqL.of hp), fin_new wd.drop_own al hf k⟩
  · have aa := ra.tupZ
    unfold At at aa
    obtain ⟨p, vs, rfl, hp, al⟩ := aa
    exact ⟨p, vs, rfl, .inr (SqT.of (wd.le p _ hp).is), fin_new wd.drop_own al hf k⟩
  · exact hf.elim
end

/-! ### isinstance with a built-in class -/
def tyName : D → String
  | .non => "NoneType"
  | .bl _ => "bool"
  | .int _ => "int"
  | .str _ => "str"
  | .tup _ => "tuple"
  | .lst _ => "list"
  | .dic _ _ _ => "dict"
  | .obj _ _ _ => ""
  | .pot _ _ _ _ => ""
  | .scr _ _ _ => ""
def pyIsT (T : String) (d : D) (Q : D → Prop) : Prop := match kitB (tyName d) T with
  | some b => (tyName d ≠ "" ∧ tyName d ≠ "dict") ∧ Q (.bl b)
  | none => False
theorem Rep.ty {K : PySem.W.Frag} {L : List Addr} {F H : Hp} (le : Und L F H) {t : Ty} {d : D} {v : V} {fp : List Addr} (r : Rep F H t d v fp) (hn : tyName d ≠ "") (hd : tyName d ≠ "dict") : TyX K H v (.type (tyName d)) := by
  cases d with
  | non => cases r.scal_non; exact .base .non
  | bl b => cases r.scal_bl; exact .base (.bl b)
  | int i => cases r.scal_int; exact .base (.int i)
  | str x => cases r.scal_str; exact .base (.str x)
  | tup ds =>
    have aa := r.tupZ
    unfold At at aa
    obtain ⟨p, vs, rfl, hp, al⟩ := aa
    exact .base (.tup (le p _ hp).is)
  | lst ds =>
    obtain ⟨p, vs, rfl, hp, hl⟩ := r.list le
    exact .base (.lst hp)
  | dic _ _ _ => exact absurd rfl hd
  | obj _ _ _ => exact absurd rfl hn
  | pot _ _ _ _ => exact absurd rfl hn
  | scr _ _ _ => exact absurd rfl hn
theorem de_isT {X : Cx} {C : Cf} {ta : Ty} {ka : Option Nat} {wa : DE} {Ta : List Nat} {a : Expr} {p p2 pos : Pos} {x : Str} {T : String} (hm : X.mg "isinstance" = none) (hm2 : X.mg x = none) (hv : bootBuiltins x = some (.type T)) (ha : PE X a (tD C wa ta ka Ta)) (hg : Gl X "isinstance" := by rfl) (hg2 : Gl X x := by rfl)
    (hn : x ≠ "__name__" := by decide) (hdb : (x == ("__debug__" : Str)) = false := by decide)
    (he : starEach [a, .Name x p2] X.env = (false, eval a X.env) :: starEach [.Name x p2] X.env := by rfl) (hpl : (backTo pos (starEach [.Name x p2] X.env)).any (·.1) = false := by rfl) :
    PE X (.Call (.Name "isinstance" p) [a, .Name x p2] [] pos) (tD C (w1 (pyIsT T) wa) .z none Ta) :=
  PE.imp (pe_callB call_isi hg hm (by decide +kernel) (pa_cons ha (pa_cons (pe_bltn (v := .ty T) hg2 hm2 hv rfl hn hdb) pa_nil (by rfl)) he) (by decide) (by decide) he hpl) fun σ H Q h => by
    refine red1 (r := fun v H Q => rIsi X.K [v, .ty T] H Q) ?_ h
    refine Op1.scal fun L F H d v fp Qo Q le ra hf k => ?_
    unfold pyIsT at hf
    split at hf
    · rename_i b hb
      exact ⟨v, .ty T, _, _, b, rfl, .ty T, ra.ty le hf.1.1 hf.1.2, kit_ty hb, k _ _ (fun _ => at_bl) hf.2⟩
    · exact hf.elim
end Vo

set_option maxHeartbeats 4000000
/-! Values with owners, 12: slices, join, lists that grow. -/
namespace Vo
open PySem PySem.Spec PyProof.Rows L2

/-! ### slices -/
abbrev DO := XD → Rho → (Option Int → Rho → Prop) → Prop
def tO (C : Cf) (wo : DO) (T : List Nat) : TO := fun σ H Q => ∃ L F ρ fs g Qd Xd, Wd L C.Γ F H σ ρ fs g ∧ wo Xd ρ Qd ∧ XOk C T Xd L F H σ ρ fs g ∧
  ∀ o ρ' F' H' fs', Step T F H ρ fs g F' H' ρ' fs' → Wd L C.Γ F' H' σ ρ' fs' g → Qd o ρ' → Q o H'
def oNone : DO := fun _ ρ Q => Q none ρ
def oSome (w : DE) : DO := fun X ρ Q => w X ρ fun d ρ1 => match d with
  | .int i => Q (some i) ρ1
  | _ => False
def cutD (xs : List D) (lo hi : Option Int) : List D := (xs.drop (HT.sIx xs.length 0 lo)).take (HT.sIx xs.length xs.length hi - HT.sIx xs.length 0 lo)
def pySlL (d : D) (lo hi : Option Int) (Q : D → Prop) : Prop := match d with
  | .lst ds => Q (.lst (cutD ds lo hi))
  | _ => False
def pySlS (d : D) (lo hi : Option Int) (Q : D → Prop) : Prop := match d with
  | .str z => z.length ≤ sizeLine ∧ Q (.str (cutS z lo hi))
  | _ => False
def wSl (f : D → Option Int → Option Int → (D → Prop) → Prop) (wa : DE) (wl wh : DO) : DE := fun X ρ Q => wa X ρ fun d ρ1 => wl X ρ1 fun lo ρ2 => wh X ρ2 fun hi ρ3 => f d lo hi fun r => Q r ρ3
section
variable {X : Cx} {C : Cf} {a : Expr} {lo hi : Option Expr} {wa we : DE} {wl wh : DO} {ta : Ty} {ka : Option Nat} {Ta Tl Th T : List Nat} {pos p2 : Pos} {e : Expr} {t : Ty} {k : Option Nat}
theorem PO.imp {e : Option Expr} {t u : TO} (h : PO X e t) (k : ∀ σ H Q, u σ H Q → t σ H Q) : PO X e u := ⟨fun pins s σ H Q I q => h.run pins s σ H Q I (k σ H Q q)⟩
theorem do_none : PO X none (tO C oNone []) := PO.imp po_none fun σ H Q h => by
  obtain ⟨L, F, ρ, fs, g, Qd, Xd, wd, h, xo, q⟩ := h
  exact q none ρ F H fs Step.rfl wd h
theorem do_some (he : PE X e (tD C we t k T)) : PO X (some e) (tO C (oSome we) T) := PO.imp (po_some he) fun σ H Q h => by
  obtain ⟨L, F, ρ, fs, g, Qd, Xd, wd, h, xo, q⟩ := h
  refine ⟨L, F, ρ, fs, g, _, Xd, wd, h, xo, fun d v ρ1 F1 H1 fs1 fp s1 wd1 r1 b1 h1 => ?_⟩
  split at h1
  · exact ⟨_, r1.scal_int, q _ ρ1 F1 H1 fs1 s1 wd1.drop_own h1⟩
  · exact h1.elim
theorem redSl {r : V → Option Int → Option Int → Hp → VK → Prop} {f : D → Option Int → Option Int → (D → Prop) → Prop} {t : Ty} (hk : ∀ i, ka = some i → i ∉ Tl ++ Th)
    (hs : ∀ (L : List Addr) (F H : Hp) (σ : L2.St) (ρ : Rho) (fs : List (List Addr)) (g : List Addr) (d : D) (v : V) (fp : List Addr) (lo hi : Option Int) (Qo : D → Prop) (Q : VK), Wd L C.Γ F H σ ρ fs (own ka fp ++ g) → Rep F H ta d v fp → f d lo hi Qo →
      (∀ d' v' F' H' fp', Step [] F H ρ fs g F' H' ρ fs → Wd L C.Γ F' H' σ ρ fs (own none fp' ++ g) → Rep F' H' t d' v' fp' → Qo d' → Q v' H') → r v lo hi H Q) {σ : L2.St} {H : Hp} {Q : VK} :
    tD C (wSl f wa wl wh) t none (Ta ++ (Tl ++ Th)) σ H Q → tSl r (tD C wa ta ka Ta) (tO C wl Tl) (tO C wh Th) σ H Q := by
  rintro ⟨L, F, ρ, fs, g, Qd, Xd, wd, h, xo, q⟩
  refine ⟨L, F, ρ, fs, g, _, Xd, wd, h, xo.sub (fun i hi => List.mem_append_left _ hi), fun d v ρ1 F1 H1 fs1 fp s1 wd1 r1 b1 h1 => ?_⟩
  have xo1 := xo.next s1 (fun a ha => List.mem_append_right (own ka fp) ha) (fun w => w.drop)
  refine ⟨L, F1, ρ1, fs1, own ka fp ++ g, _, Xd, wd1, h1, xo1.sub (fun i hi => List.mem_append_left _ hi), fun lo ρ2 F2 H2 fs2 s2 wd2 h2 => ?_⟩
  refine ⟨L, F2, ρ2, fs2, own ka fp ++ g, _, Xd, wd2, h2, xo1.next s2 (fun _ h => h) (fun w => w), fun hi ρ3 F3 H3 fs3 s3 wd3 h3 => ?_⟩
  obtain ⟨r3, _⟩ := keep_op (s2.trans s3) hk b1 r1
  refine hs L F3 H3 σ ρ3 fs3 g d v fp lo hi _ Q wd3 r3 h3 fun d' v' F4 H4 fp4 s4 wd4 r4 h4 => ?_
  refine q d' v' ρ3 F4 H4 fs3 fp4 ?_ wd4 r4 (fun i e => by cases e) h4
  have s13 := s1.trans ((s2.trans s3).sub (g' := g) fun a ha => List.mem_append_right _ ha)
  exact (s13.trans s4).wide (by simp)
theorem cutV_at {F : Hp} {ds : List D} {vs : List V} {lo hi : Option Int} (al : AtL F ds vs) : AtL F (cutD ds lo hi) (cutV vs lo hi) := by
  unfold cutD cutV
  rw [al.len]
  exact (al.drop _).take _
theorem de_slL (ha : PE X a (tD C wa ta ka Ta)) (hl : PO X lo (tO C wl Tl)) (hh : PO X hi (tO C wh Th)) (ht : ta.flat = true := by rfl) (hk : ∀ i, ka = some i → i ∉ Tl ++ Th := by simp) :
    PE X (.Subscript a (.Slice lo hi none p2) pos) (tD C (wSl pySlL wa wl wh) (.ls .z) none (Ta ++ (Tl ++ Th))) := PE.imp (pe_slice sl_list ha hl hh) fun σ H Q h => redSl hk (fun L F H σ ρ fs g d v fp lo hi Qo Q wd ra hf k => by
  unfold pySlL at hf
  split at hf
  · obtain ⟨p, vs, rfl, hp, al⟩ := ra.flat wd.le ht
    exact ⟨p, vs, rfl, SqL.of hp, fin_new wd.drop_own (cutV_at al) hf fun d' v' F' H' fp' s w r _ o => k d' v' F' H' fp' s w r o⟩
  · exact hf.elim) h
theorem de_slS (ha : PE X a (tD C wa ta ka Ta)) (hl : PO X lo (tO C wl Tl)) (hh : PO X hi (tO C wh Th)) (hk : ∀ i, ka = some i → i ∉ Tl ++ Th := by simp) :
    PE X (.Subscript a (.Slice lo hi none p2) pos) (tD C (wSl pySlS wa wl wh) .z none (Ta ++ (Tl ++ Th))) := PE.imp (pe_slice sl_str ha hl hh) fun σ H Q h => redSl hk (fun L F H σ ρ fs g d v fp lo hi Qo Q wd ra hf k => by
  unfold pySlS at hf
  split at hf
  · cases ra.scal_str
    exact ⟨_, rfl, hf.1, k _ _ F H [] Step.rfl wd.drop_own ⟨at_str, rfl⟩ hf.2⟩
  · exact hf.elim) h
end

/-! ### join -/
def pyJoin (d e : D) (Q : D → Prop) : Prop := match d, e with
  | .str a, .lst ds => match strsD ds with
    | some ys => (ys.map (·.length)).sum + ys.length * a.length ≤ 16777216 ∧ Q (.str (Txt.join a ys))
    | none => False
  | _, _ => False
def wJoin (wa wb : DE) : DE := fun X ρ Q => wa X ρ fun a ρ1 => match a with
  | .str x => wb X ρ1 fun b ρ2 => pyJoin (.str x) b fun d => Q d ρ2
  | _ => False
theorem de_join {X : Cx} {C : Cf} {o e : Expr} {wa wb : DE} {ta tb : Ty} {ka kb : Option Nat} {Ta Tb : List Nat} {apos pos : Pos} (ha : PE X o (tD C wa ta ka Ta)) (hb : PE X e (tD C wb tb kb Tb)) (ht : tb.flat = true := by rfl) (hk : ∀ i, ka = some i → i ∉ Tb := by simp) (hs : starEach [e] X.env = [(false, eval e X.env)] := by rfl)
    (hbase : attributeBase o "join" X.env (eval o X.env) = eval o X.env := by rfl) (hline : (apos.endLine == pos.line) = true := by rfl) : PE X (.Call (.Attribute o "join" apos) [e] [] pos) (tD C (wJoin wa wb) .z none (Ta ++ Tb)) := PE.imp (pe_join ha hb hs hbase hline) fun σ H Q h => by
  obtain ⟨L, F, ρ, fs, g, Qd, Xd, wd, h, xo, q⟩ := h
  refine ⟨L, F, ρ, fs, g, _, Xd, wd, h, xo.sub (fun i hi => List.mem_append_left _ hi), fun d v ρ1 F1 H1 fs1 fp s1 wd1 r1 b1 h1 => ?_⟩
  split at h1
  · rename_i x
    have ev := r1.scal_str
    refine ⟨⟨x, ev⟩, L, F1, ρ1, fs1, own ka fp ++ g, _, Xd, wd1, h1, xo.next s1 (fun a ha => List.mem_append_right _ ha) (fun w => w.drop), fun e u ρ2 F2 H2 fs2 fq s2 wd2 r2 b2 h2 => ?_⟩
    unfold pyJoin at h2
    split at h2
    · rename_i a ds ea
      cases ea
      split at h2
      · rename_i ys hy
        obtain ⟨p, vs, rfl, hp, al⟩ := r2.flat wd2.le ht
        have e := strs_at hy al
        subst e
        exact ⟨x, p, ys, ev, rfl, .inl (SqL.of hp), h2.1, q _ _ ρ2 F2 H2 fs2 [] (s1.trans (s2.sub fun a ha => List.mem_append_right _ ha)) wd2.drop_own.drop_own ⟨at_str, rfl⟩ (fun i e => by cases e) h2.2⟩
      · exact h2.elim
    · exact h2.elim
  · exact h1.elim

/-! ### a slot's list that is changed -/
section
variable {L : List Addr} {Γ : List Ty} {F H : Hp} {σ : L2.St} {ρ : Rho} {fs : List (List Addr)} {g fpx fpy : List Addr} {t : Ty} {ds ds' : List D} {p : Addr} {vs vs' : List V} {fsn fsp : List (List Addr)}
/-- the list at p, which slot i owns, has other items now -/
theorem Wd.writeS (w : Wd L Γ F H σ ρ fs (fpx ++ g)) {i : Nat} (ht : Γ[i]? = some (.ls t)) (hσ : σ[i]? = some (some (.ref p))) (hf : fsAt fs i = p :: fsp.flatten) (r : RepL (Rep F H t) ds' vs' fsn) (hc : ∀ a, fsn.flatten.count a + fpy.count a ≤ fsp.flatten.count a + fpx.count a) :
    Wd L Γ F (upd H p (.lst vs')) σ (ρ.set i (some (.lst ds'))) (fs.set i (p :: fsn.flatten)) (fpy ++ g) ∧ Step [i] F H ρ fs g F (upd H p (.lst vs')) (ρ.set i (some (.lst ds'))) (fs.set i (p :: fsn.flatten)) ∧ (∀ a ∈ fpy ++ g, a ≠ p) := by
  have hi : i < Γ.length := (List.getElem?_eq_some_iff.mp ht).1
  have hif : i < fs.length := by rw [w.lf]; exact hi
  have hir : i < ρ.length := by rw [w.lr]; exact hi
  have cb : ∀ a, cn fs a + fpx.count a + g.count a ≤ 1 := fun a => by
    have h := nodup_count.mp w.nd a
    rw [List.count_append, List.count_append] at h
    unfold cn
    omega
  have cs : ∀ a, cn (fs.set i (p :: fsn.flatten)) a + (p :: fsp.flatten).count a = cn fs a + (p :: fsn.flatten).count a := fun a => by
    have := cn_set (fs := fs) (i := i) (f := p :: fsn.flatten) a hif
    rw [hf] at this
    exact this
  have le1 : ∀ a, (p :: fsp.flatten).count a ≤ cn fs a := fun a => by rw [← hf]; exact cn_at i a
  have pin : p ∈ fs.flatten := fsAt_mem (i := i) (by rw [hf]; exact List.mem_cons_self)
  have fn : F p = none := (w.out p (List.mem_append_left _ pin)).1
  have cp : fsp.flatten.count p = 0 ∧ fpx.count p = 0 ∧ g.count p = 0 := by
    have h1 := le1 p
    have h2 := cb p
    rw [List.count_cons_self] at h1
    omega
  have np : ∀ f ∈ fsn, ∀ a ∈ f, a ≠ p := fun f hf' a ha e => by
    have h1 := hc p
    have h2 : 0 < fsn.flatten.count p := List.count_pos_iff.mpr (e ▸ List.mem_flatten.mpr ⟨f, hf', ha⟩)
    omega
  have npg : ∀ a ∈ fpy ++ g, a ≠ p := fun a ha e => by
    have h1 := hc p
    rcases List.mem_append.mp ha with m | m
    · have := List.count_pos_iff.mpr (e ▸ m)
      omega
    · have := List.count_pos_iff.mpr (e ▸ m)
      omega
  have other : ∀ j, j ≠ i → ∀ a ∈ fsAt fs j, a ≠ p := fun j hj a ha e => by
    have h1 := cn_two (fs := fs) p (Ne.symm hj)
    rw [hf, List.count_cons_self] at h1
    have h2 := List.count_pos_iff.mpr (e ▸ ha)
    have h3 := cb p
    omega
  refine ⟨⟨by rw [List.length_set]; exact w.lf, by rw [List.length_set]; exact w.lr, w.ls, fun a u e => ?_, ?_, fun a ha => ?_, fun j u d hj hd => ?_⟩, ⟨Gro.rfl, fun a ha => upd_ne (npg a (List.mem_append_right _ ha)), fun j hj => ?_⟩, npg⟩
  · have ha : a ≠ p := ne_of_none e fn
    rcases w.le a u e with q | ⟨hl, hd, o', q⟩
    · exact .inl (by rw [upd_ne ha]; exact q)
    · exact .inr ⟨hl, hd, o', by rw [upd_ne ha]; exact q⟩
  · rw [nodup_count]
    intro a
    rw [List.count_append, List.count_append]
    have h1 := cs a
    have h2 := cb a
    have h3 := hc a
    have h4 := le1 a
    rw [List.count_cons] at h1 h4
    rw [List.count_cons] at h1
    unfold cn at *
    omega
  · have : a ∈ fs.flatten ++ (fpx ++ g) := by
      rcases List.mem_append.mp ha with m | m
      · have h1 := cs a
        have h3 := hc a
        have h5 := cn_pos.mp m
        rw [List.count_cons, List.count_cons] at h1
        by_cases hx : 0 < fpx.count a
        · exact List.mem_append_right _ (List.mem_append_left _ (List.count_pos_iff.mp hx))
        · refine List.mem_append_left _ (cn_pos.mpr ?_)
          have h4 := le1 a
          rw [List.count_cons] at h4
          omega
      · rcases List.mem_append.mp m with m | m
        · have h3 := hc a
          have := List.count_pos_iff.mpr m
          by_cases hx : 0 < fpx.count a
          · exact List.mem_append_right _ (List.mem_append_left _ (List.count_pos_iff.mp hx))
          · refine List.mem_append_left _ (cn_pos.mpr ?_)
            have h4 := le1 a
            rw [List.count_cons] at h4
            omega
        · exact List.mem_append_right _ (List.mem_append_right _ m)
    obtain ⟨n, h⟩ := w.out a this
    refine ⟨n, ?_⟩
    by_cases e : a = p
    · subst e; rw [upd_same]; simp
    · rw [upd_ne e]; exact h
  · by_cases e : j = i
    · subst e
      rw [List.getElem?_set_self hir] at hd
      cases hd
      rw [ht] at hj
      cases hj
      refine ⟨.ref p, hσ, ?_⟩
      rw [fsAt_set hif]
      exact ⟨ds', p, vs', fsn, rfl, rfl, upd_same, RepL.imp r fun d v f hf r => r.frame Gro.rfl fun a ha => upd_ne (np f hf a ha), rfl⟩
    · rw [List.getElem?_set_ne (Ne.symm e)] at hd
      rw [fsAt_set_ne e]
      obtain ⟨v, ev, r⟩ := w.sl j u d hj hd
      exact ⟨v, ev, r.frame Gro.rfl fun a ha => upd_ne (other j e a ha)⟩
  · have e : j ≠ i := fun e => hj (by simp [e])
    exact ⟨fsAt_set_ne e, List.getElem?_set_ne (Ne.symm e), fun a ha => upd_ne (other j e a ha)⟩
end
/-- x.append(e) -/
def wApp (i : Nat) (we : DE) : DE := fun X ρ Q => match slot ρ i with
  | some (.lst _) => we X ρ fun d ρ1 => match slot ρ1 i with
    | some (.lst ds) => ds.length < sizeLine ∧ Q .non (put ρ1 i (some (.lst (ds ++ [d]))))
    | _ => False
  | _ => False
theorem de_app {X : Cx} {C : Cf} (i : Nat) {e : Expr} {x : Str} {we : DE} {t u : Ty} {k : Option Nat} {T : List Nat} {p apos pos : Pos} (hco : Coe t k u) (he : PE X e (tD C we t k T)) (ht : C.Γ[i]? = some (.ls u) := by rfl) (hN : X.N[i]? = some x := by rfl) (hv : Vis X.env.scope x := by first | exact .inl rfl | exact .inr (.inl rfl) | exact .inr (.inr rfl))
    (hfew : ((backTo pos (starEach [e] X.env)).all (fun x => !x.1) && (backToKw pos (keywordEach [] X.env)).all (fun x => x.1.isSome) && decide ([e].length + ([] : List Keyword).length + (if ([] : List Keyword).isEmpty then 0 else 1) < 30)) = true := by rfl)
    (hline : (apos.endLine == pos.line) = true := by rfl) (hs : starEach [e] X.env = (false, eval e X.env) :: starEach [] X.env := by rfl) (hplain : (backTo pos (starEach [] X.env)).any (·.1) = false := by rfl)
    (hd : (x == ("__debug__" : Str)) = false := by decide) (hcd : (x == ("__classdict__" : Str)) = false := by decide) :
    PE X (.Call (.Attribute (.Name x p) "append" apos) [e] [] pos) (tD C (wApp i we) .z none (T ++ [i])) :=
  PE.imp (pe_bm PySem.F.plainAttrs_list PySem.F.slot_list_append PySem.F.type_list_append mt_append (pe_var (i := i) hN hv hd hcd) (pa_cons he pa_nil hs) (by rfl) hfew hline hs hplain) fun σ H Q h => by
    obtain ⟨L, F, ρ, fs, g, Qd, Xd, wd, h, xo, q⟩ := h
    unfold wApp at h
    split at h
    · rename_i ds0 e0
      obtain ⟨v, ev, r⟩ := wd.at ht (slot_some e0)
      obtain ⟨ds1, p1, vs1, fs1', e1, rfl, hp1, l1, f1⟩ := r
      refine ⟨_, ev, .inl ⟨rfl, vs1, SqL.of hp1⟩, ?_⟩
      refine ⟨L, F, ρ, fs, g, _, Xd, wd, h, xo.sub (fun i hi => List.mem_append_left _ hi), fun d v ρ1 F1 H1 fs1 fp s1 wd1 r1 b1 h1 => ?_⟩
      split at h1
      · rename_i ds2 e2
        obtain ⟨v2, ev2, r2⟩ := wd1.at ht (slot_some e2)
        rw [ev] at ev2
        cases ev2
        obtain ⟨ds3, p3, vs3, fs3, e3, ep, hp3, l3, f3⟩ := r2
        cases ep
        cases e3
        obtain ⟨F2, fp2, wd2, rr, s2⟩ := hco.use wd1 r1
        have l4 : RepL (Rep F2 H1 u) (ds2 ++ [d]) (vs3 ++ [v]) (fs3 ++ [fp2]) := RepL.snoc rr (RepL.imp l3 fun d v f _ r => r.frame s2.gro fun _ _ => rfl)
        obtain ⟨w3, s3, _⟩ := wd2.writeS (fpy := []) ht ev f3 l4 (fun a => by simp)
        refine ⟨p1, vs3, v, rfl, rfl, hp3, by rw [l3.lenV]; exact h1.1, ?_⟩
        refine q .non .non _ F2 _ _ [] ?_ (by rw [put_eq]; exact w3) ⟨at_non, rfl⟩ (fun i e => by cases e) h1.2
        rw [put_eq]
        exact ((s1.trans s2).trans s3).wide (by simp)
      · exact h1.elim
    · exact h.elim
end Vo

set_option maxHeartbeats 4000000
/-! Values with owners, 13: a law's pot: the promises of the three defs that make it, mix and draw. -/
namespace Vo
open PySem PySem.Spec PyProof.Rows L2

/-- _law_mixed: some number, not below 0 -/
def spMix : Sp := fun vs H Q _ => ∃ i j, vs = [.int i, .int j] ∧ ∀ r : Int, 0 ≤ r → Q (.int r) H
/-- _law_pot: of the script -/
def phPot (K : PySem.W.Frag) : DSp := fun ds Q _ => ∃ p ns, ds = [.scr K p ns] ∧ ns.length ≤ 63 ∧ Q (.pot ns 0 5 0) [none]
/-- _law_draw: a number below many -/
def phDraw : DSp := fun ds Q _ => ∃ ns a b c m, ds = [.pot ns a b c, .int m] ∧ 0 < m ∧ m < 1073741824 ∧ ∀ r ns' a' b' c', 0 ≤ r → r < m → Q (.int r) [some (.pot ns' a' b' c'), none]
section
variable {L : List Addr} {F H H' : Hp} {p q : Addr} {v : V} {ns ns' : List Int} {a b c a' b' c' : Int} {d : D} {fps : List (List Addr)} {g : List Addr}
theorem pot_in (w : Wd L [.pot, .z] F H [some (.ref p), some v] [some (.pot ns a b c), some d] fps g) : ∃ q, H p = some (.lst [.ref q, .int a, .int b, .int c]) ∧ H q = some (.lst (ns.map V.int)) ∧ p ≠ q ∧
    (∀ x, x ≠ p → x ≠ q → True) ∧ ∀ H' ns' a' b' c', (∀ x, x ≠ p → x ≠ q → H' x = H x) → H' p = some (.lst [.ref q, .int a', .int b', .int c']) → H' q = some (.lst (ns'.map V.int)) →
      Wd L [.pot, .z] F H' [some (.ref p), some v] [some (.pot ns' a' b' c'), none] fps g ∧ ∀ x ∈ g, H' x = H x := by
  obtain ⟨v0, e0, ns0, a0, b0, c0, p0, q, ed, ev, hp, hq, hf⟩ := w.sl 0 .pot _ rfl rfl
  cases ed
  cases e0
  cases ev
  have lf := w.lf
  match fps, lf, hf, w with
  | [f0, f1], _, hf, w =>
    have e0 : f0 = [p, q] := hf
    subst e0
    have npq : p ≠ q := by
      have := w.nd
      simp only [List.flatten_cons, List.cons_append, List.nodup_cons] at this
      exact fun e => this.1 (by simp [e])
    have gp : ∀ x ∈ g, x ≠ p ∧ x ≠ q := fun x hx => by
      have := (List.nodup_append.mp w.nd).2.2
      exact ⟨fun e => this p (by simp) x hx e.symm, fun e => this q (by simp) x hx e.symm⟩
    refine ⟨q, hp, hq, npq, fun _ _ _ => trivial, fun H' ns' a' b' c' k hp' hq' => ⟨?_, fun x hx => k x (gp x hx).1 (gp x hx).2⟩⟩
    have op := w.out p (by simp)
    have oq := w.out q (by simp)
    refine ⟨w.lf, rfl, rfl, fun x u e => ?_, w.nd, fun x hx => ?_, fun i t d ht hd => ?_⟩
    · have n1 : x ≠ p := fun z => by rw [z, op.1] at e; cases e
      have n2 : x ≠ q := fun z => by rw [z, oq.1] at e; cases e
      rcases w.le x u e with h | ⟨hl, hd, o, h⟩
      · exact .inl ((k x n1 n2).trans h)
      · exact .inr ⟨hl, hd, o, (k x n1 n2).trans h⟩
    · obtain ⟨n, h⟩ := w.out x hx
      refine ⟨n, ?_⟩
      by_cases z : x = p
      · rw [z, hp']; simp
      · by_cases y : x = q
        · rw [y, hq']; simp
        · rw [k x z y]; exact h
    · match i, ht, hd with
      | 0, ht, hd =>
        simp at ht hd
        subst ht hd
        exact ⟨.ref p, rfl, ns', a', b', c', p, q, rfl, rfl, hp', hq', rfl⟩
      | 1, ht, hd => simp at hd
      | i + 2, ht, hd => simp at hd
end
end Vo

set_option maxHeartbeats 4000000
/-! Values with owners, 14: tools for the plain laws. -/
namespace Vo
open PySem PySem.Spec PyProof.Rows L2
theorem comp_map {i : Nat} {ρ : Rho} {we : DE} {Q : List D → Rho → Prop} (f : D → D) (hρ : ∀ o, put (put ρ i o) i none = ρ) : ∀ (ds acc : List D), acc.length + ds.length ≤ sizeLine →
    (∀ d ∈ ds, ∀ Q' : D → Rho → Prop, Q' (f d) (put ρ i (some d)) → we noX (put ρ i (some d)) Q') → Q (acc ++ ds.map f) ρ → compL (gN i) wTrue we [i] ds acc ρ Q
  | [], acc, _, _, q => by simpa [compL] using q
  | d :: ds, acc, hl, h, q => by
    simp only [compL, gN, wTrue, if_true]
    refine h d List.mem_cons_self _ ⟨?_, ?_⟩
    · simp at hl; omega
    · show compL _ _ _ _ ds (acc ++ [f d]) (put (put ρ i (some d)) i none) Q
      rw [hρ]
      refine comp_map f hρ ds _ ?_ (fun d hd => h d (List.mem_cons_of_mem _ hd)) ?_
      · simp at hl ⊢; omega
      · simpa using q
theorem for_inv {wg : DG} {s : DS} {X : XD} {P : DEnds} (I : List D → Rho → Prop) (hs : ∀ d ds ρ (N : Rho → Prop), I (d :: ds) ρ → (∀ ρ', I ds ρ' → N ρ') → wg d ρ fun ρ1 => s X { P with nx := N, ct := N, bk := P.nx } ρ1)
    (hn : ∀ ρ, I [] ρ → P.nx ρ) : ∀ (ds : List D) (ρ : Rho), I ds ρ → forL wg s X P ds ρ
  | [], ρ, h => hn ρ h
  | d :: ds, ρ, h => hs d ds ρ _ h fun ρ' h' => for_inv I hs hn ds ρ' h'
theorem draw_mk {ns : List Int} {a b c m : Int} {Q : D → Rho → Prop} {X : XD} (h0 : 0 < m) (h1 : m < 1073741824) (h : ∀ r ns' a' b' c', 0 ≤ r → r < m → Q (.int r) [some (.pot ns' a' b' c'), none]) : Is phDraw [.pot ns a b c, .int m] Q X :=
  ⟨⟨ns, a, b, c, m, rfl, h0, h1, h⟩⟩
/-! the state is written out after each step -/
theorem body_mk {ms : List Ty} {tr : Ty} {Qd : D → Rho → Prop} {Xd : XD} {ws : DS} {ρ : Rho} (h : ∀ (X : XD) (P : DEnds), (∀ d ρ, Qd d (outs ms ρ) → P.rt d ρ) → (∀ ρ, tr = .z → Qd .non (outs ms ρ) → P.nx ρ) → (∀ x ρ, Xd x (outs ms ρ) → X x ρ) → ws X P ρ) :
    ws (fun x ρ => Xd x (outs ms ρ)) { nx := fun ρ => tr = .z ∧ Qd .non (outs ms ρ), rt := fun d ρ => Qd d (outs ms ρ) } ρ :=
  h _ _ (fun _ _ h => h) (fun _ a b => ⟨a, b⟩) fun _ _ h => h
theorem run_set {i : Nat} {w : DE} {u : DS} {X : XD} {P : DEnds} {ρ : Rho} (h : ∀ N : D → Rho → Prop, (∀ d ρ1 ρ2, put ρ1 i (some d) = ρ2 → u X P ρ2 → N d ρ1) → w X ρ N) : sSeq (sSet i w) u X P ρ :=
  h _ fun _ _ _ e h => e ▸ h
theorem run_exp {w : DE} {u : DS} {X : XD} {P : DEnds} {ρ : Rho} (h : ∀ N : D → Rho → Prop, (∀ d ρ1, u X P ρ1 → N d ρ1) → w X ρ N) : sSeq (sExpr w) u X P ρ :=
  h _ fun _ _ h => h
theorem run_ret {w : DE} {X : XD} {P : DEnds} {ρ : Rho} (h : ∀ N : D → Rho → Prop, (∀ d ρ1, P.rt d ρ1 → N d ρ1) → w X ρ N) : sRet w X P ρ :=
  h _ fun _ _ h => h
/-- a draw: the pot's slot is written out -/
theorem draw_at {X : XD} {ρ : Rho} {i : Nat} {we : DE} {Q : D → Rho → Prop} {ns : List Int} {a b c m : Int} (hp : slot ρ i = some (.pot ns a b c)) (hw : ∀ N : D → Rho → Prop, N (.int m) ρ → we X ρ N) (h0 : 0 < m) (h1 : m < 1073741824)
    (h : ∀ r ns' a' b' c' ρ2, put ρ i (some (.pot ns' a' b' c')) = ρ2 → 0 ≤ r → r < m → Q (.int r) ρ2) : WCall phDraw [.inn i, .e .z none] [.pot, .z] .z (wInn i (wCons we wNil)) X ρ Q := by
  refine ⟨?_⟩
  unfold wInn
  simp only [hp]
  refine hw _ ?_
  simp only [wNil, fillD, hp, Option.map]
  exact ⟨⟨ns, a, b, c, m, rfl, h0, h1, fun r ns' a' b' c' g0 g1 => h r ns' a' b' c' _ rfl g0 g1⟩⟩
end Vo

set_option maxHeartbeats 4000000
namespace My
open PySem PySem.Spec PyProof.Rows L2 Vo
def topS (i : Nat) : Stmt := PySem.Challenge.pw_callround_k01_names_told.main.body.getD i (.Pass ⟨0, 0, 0, 0⟩)
section
variable {P : Program} {w : World} {K : PySem.W.Frag} {mg : Str → Option Value} {base : Heap} {f : Addr} {fd : FuncData} {CA : CAd}
theorem ok_mixed (F : FunD K "_law_mixed" "_law_mixed" (defArgs (topS 5)) (defBody (topS 5)) (defScope (topS 5)) [] [] f fd) : FnOk P w K mg base (L2.CX P w) 1 f fd ["_law_number", "_law_turn"] spMix := by
  have sc : FnScope ["_law_number", "_law_turn", "_law_once"] ["_law_number", "_law_turn"] (defScope (topS 5)) := C8.fnScope_by (by decide +kernel)
  refine F.ok sc (fun vs H Q E h => ?_) (fun cdv A outer s H vs Q E hr h => ?_)
  · obtain ⟨i, j, rfl, _⟩ := h
    rfl
  · obtain ⟨i, j, rfl, k⟩ := h
    refine ⟨_, pss_cons (ps_set (i := 2) sc.nd rfl (.inl rfl) (pe_op op_mod (pe_op op_mul (pe_op op_add (pe_op op_add (pe_op op_mod (pv 0) pe_int) (pe_op op_mul pe_int (pv 1))) pe_int) pe_int) pe_int))
      (pss_one (ps_ret (pe_op op_mod (pe_op op_mul (pe_op op_add (pe_op op_add (pe_op op_mul (pv 2) (pv 2)) (pe_op op_mul pe_int (pv 1))) (pe_op op_fdiv (pv 2) pe_int)) pe_int) pe_int))), ?_⟩
    refine ⟨_, rfl, _, _, rfl, rfl, (by show (0 : Int) < 2147483647; decide), _, rfl, _, _, rfl, rfl, .inl ⟨by decide, by decide⟩, _, _, rfl, rfl, _, _, rfl, rfl, _, _, rfl, rfl, .inr ⟨by decide, by decide⟩, _, _, rfl, rfl, (by show (0 : Int) < 2147483647; decide), ?_⟩
    generalize hx : (i % 2147483647 + 7919 * j + 13) * 48271 % 2147483647 = x
    have h0 : 0 ≤ x := by rw [← hx]; exact Int.emod_nonneg _ (by decide)
    have h1 : x < 2147483647 := by rw [← hx]; exact Int.emod_lt_of_pos _ (by decide)
    refine ⟨_, rfl, _, rfl, _, _, rfl, rfl, .inl ⟨by omega, by omega⟩, _, rfl, _, _, rfl, rfl, .inl ⟨by decide, by decide⟩, _, _, rfl, rfl, _, rfl, _, _, rfl, rfl, ⟨by decide, by decide⟩, _, _, rfl, rfl, _, _, rfl, rfl, .inr ⟨by decide, by decide⟩, _, _, rfl, rfl, (by show (0 : Int) < 2147483629; decide), ?_⟩
    exact k _ (Int.emod_nonneg _ (by decide))
theorem ok_draw (F : FunD K "_law_draw" "_law_draw" (defArgs (topS 7)) (defBody (topS 7)) (defScope (topS 7)) [] [] f fd) {fm : Addr} {fdm : FuncData} (M : FnOk P w K mg base (L2.CX P w) 1 fm fdm ["_law_number", "_law_turn"] spMix) (gM : mg "_law_mixed" = some (.ref fm)) (kM : PySem.W.keepIn K (.ref fm) = true) (bM : Binds K fdm ["_law_number", "_law_turn"] [])
    (zl : mg "len" = none) (za : mg "abs" = none) : FnOk P w K mg base (L2.CX P w) 2 f fd ["_law_pot_here", "_law_many"] (spD CA [.pot, .z] .z phDraw) := by
  have sc : FnScope ["_law_pot_here", "_law_many", "_law_cell", "_law_digit"] ["_law_pot_here", "_law_many"] (defScope (topS 7)) := C8.fnScope_by (by decide +kernel)
  refine F.ok sc (fun vs H Q E h => ?_) (fun cdv A outer s H vs Q E hr h => ?_)
  · obtain ⟨L, F, ds, fps, g, Qd, Xd, wd, _⟩ := h
    have := wd.ls
    simpa using this
  · obtain ⟨L, F0, ds, fps, g, Qd, Xd, wd, ⟨ns, a, b, c, m, rfl, hm0, hm1, hq⟩, q, _⟩ := h
    have lv := wd.ls
    obtain ⟨v0, e0, r0⟩ := wd.sl 0 .pot _ rfl rfl
    obtain ⟨v1, e1, r1⟩ := wd.sl 1 .z _ rfl rfl
    have ev1 := r1.scal_int
    subst ev1
    match vs, lv, e0, e1, wd with
    | [x0, x1], _, e0, e1, wd =>
      simp at e0 e1
      subst e0 e1
      obtain ⟨_, _, _, _, p, _, ed, ev, _⟩ := r0
      subst ev
      obtain ⟨l, hp, hl, npl, _, back⟩ := pot_in wd
      have tk := takes_of (X := cxOf (L2.CX P w) P w K mg base ["_law_pot_here", "_law_many", "_law_cell", "_law_digit"] "_law_draw" (defScope (topS 7)) f cdv A outer s H E) rfl rfl rfl rfl
      let X := cxOf (L2.CX P w) P w K mg base ["_law_pot_here", "_law_many", "_law_cell", "_law_digit"] "_law_draw" (defScope (topS 7)) f cdv A outer s H E
      have rest : ∃ t, PSs X ((defBody (topS 7)).drop 2) t ∧ ∀ (H1 : Hp) (ns1 : List Int) (a1 b1 c1 : Int) (o2 o3 : Option V), (∀ x, x ≠ p → x ≠ l → H1 x = H x) → H1 p = some (.lst [.ref l, .int a1, .int b1, .int c1]) → H1 l = some (.lst (ns1.map V.int)) →
          t { nx := fun _ H' => Q .non H', rt := Q } [some (.ref p), some (.int m), o2, o3] H1 := by
        refine ⟨_, pss_cons (ps_if (pt_cmpR op_gt (pe_ix ix_list (pv 0) pe_int (fun _ _ => rfl)) pe_int (nomark _))
            (pss_cons (ps_set (i := 3) sc.nd rfl (.inl rfl) (pe_op op_mod (pe_ix ix_list (pv 0) pe_int (fun _ _ => rfl)) (pv 1)))
            (pss_cons (ps_asg (pe_op op_fdiv (pe_ix ix_list (pv 0) pe_int (fun _ _ => rfl)) (pv 1)) (pg_sub (pv 0) pe_int set_list))
            (pss_one (ps_ret (pv 3))))) pss_nil)
          (pss_one (ps_ret (pe_op op_mod (pe_op op_fdiv (pe_callS M (hr.mono (by decide)) (by rfl) gM kM bM (passAt tk) (pa_cons (pe_ix ix_list (pv 0) pe_int (fun _ _ => rfl)) (pa_cons (pe_ix ix_list (pv 0) pe_int (fun _ _ => rfl)) pa_nil))) pe_int) (pv 1)))), ?_⟩
        intro H1 ns1 a1 b1 c1 o2 o3 kk hp1 hl1
        have done : ∀ (r : Int) (H2 : Hp) (a2 b2 c2 : Int), 0 ≤ r → r < m → (∀ x, x ≠ p → x ≠ l → H2 x = H x) → H2 p = some (.lst [.ref l, .int a2, .int b2, .int c2]) → H2 l = some (.lst (ns1.map V.int)) → Q (.int r) H2 := fun r H2 a2 b2 c2 h0 h1 k2 hp2 hl2 => by
          obtain ⟨w2, fr2⟩ := back H2 ns1 a2 b2 c2 k2 hp2 hl2
          exact q (.int r) (.int r) _ F0 H2 _ [] Gro.rfl fr2 w2 ⟨at_int, rfl⟩ (hq r ns1 a2 b2 c2 h0 h1)
        refine ⟨_, rfl, p, _, 1, _, rfl, rfl, SqL.of hp1, rfl, _, _, rfl, rfl, _, rfl, ?_⟩
        refine ite2 (fun _ => ?_) (fun _ => ?_)
        · refine ⟨_, rfl, p, _, 1, _, rfl, rfl, SqL.of hp1, rfl, _, rfl, _, _, rfl, rfl, hm0, ?_⟩
          refine ⟨_, rfl, p, _, 1, _, rfl, rfl, SqL.of hp1, rfl, _, rfl, _, _, rfl, rfl, ⟨hm0, hm1⟩, _, rfl, p, _, 1, 1, rfl, rfl, hp1, rfl, ?_⟩
          refine ⟨_, rfl, done _ _ (a1 / m) b1 c1 (Int.emod_nonneg _ (by omega)) (Int.emod_lt_of_pos _ hm0) (fun x h1 h2 => (upd_ne h1).trans (kk x h1 h2)) upd_same ((upd_ne (Ne.symm npl)).trans hl1)⟩
        · refine ⟨_, rfl, p, _, 2, _, rfl, rfl, SqL.of hp1, rfl, _, rfl, p, _, 3, _, rfl, rfl, SqL.of hp1, rfl, _, _, rfl, fun r hr0 => ?_⟩
          refine ⟨_, _, rfl, rfl, ⟨by decide, by decide⟩, _, rfl, _, _, rfl, rfl, hm0, done _ _ a1 b1 c1 (Int.emod_nonneg _ (by omega)) (Int.emod_lt_of_pos _ hm0) kk hp1 hl1⟩
      obtain ⟨tr, hrest, qrest⟩ := rest
      refine ⟨_, pss_cons (ps_asg (pe_op op_add (pe_ix ix_list (pv 0) pe_int (fun _ _ => rfl)) pe_int) (pg_sub (pv 0) pe_int set_list))
        (pss_cons (ps_if (PW.pt (pw_and (pt_cmpR op_eq (pe_ix ix_list (pv 0) pe_int (fun _ _ => rfl)) pe_int (nomark _)) (pw_and1 (pt_cmpR op_gt (pe_callB call_len (by rfl) zl PySem.boot_len (pa_cons (pe_ix ix_list (pv 0) pe_int (fun _ _ => rfl)) pa_nil)) pe_int (nomark _)))))
          (pss_cons (ps_set (i := 2) sc.nd rfl (.inl rfl) (pe_bm PySem.F.plainAttrs_list PySem.F.slot_list_pop PySem.F.type_list_pop mt_popAt (pe_ix ix_list (pv 0) pe_int (fun _ _ => rfl)) (pa_cons pe_int pa_nil)))
          (pss_cons (ps_asg (pe_callS M (hr.mono (by decide)) (by rfl) gM kM bM (passAt tk) (pa_cons (pe_op op_add (pe_ix ix_list (pv 0) pe_int (fun _ _ => rfl)) (pv 2)) (pa_cons (pe_callB call_len (by rfl) zl PySem.boot_len (pa_cons (pe_ix ix_list (pv 0) pe_int (fun _ _ => rfl)) pa_nil)) pa_nil))) (pg_sub (pv 0) pe_int set_list))
          (pss_one (ps_if (pt_cmpR op_ge (pe_callB call_abs (by rfl) za (by decide +kernel) (pa_cons (pv 2) pa_nil)) (pe_op op_pow pe_int pe_int) (nomark _))
            (pss_one (ps_asg (pe_callB call_abs (by rfl) za (by decide +kernel) (pa_cons (pv 2) pa_nil)) (pg_sub (pv 0) pe_int set_list))) pss_nil)))) pss_nil) hrest), ?_⟩
      -- the count of draws
      refine ⟨_, rfl, p, _, 3, _, rfl, rfl, SqL.of hp, rfl, _, _, rfl, rfl, _, rfl, p, _, 3, 3, rfl, rfl, hp, rfl, ?_⟩
      have k1 : ∀ x, x ≠ p → x ≠ l → (upd H p (.lst [.ref l, .int a, .int b, .int (c + 1)])) x = H x := fun x h1 _ => upd_ne h1
      have l1 : (upd H p (.lst [.ref l, .int a, .int b, .int (c + 1)])) l = some (.lst (ns.map V.int)) := (upd_ne (Ne.symm npl)).trans hl
      have p1 : (upd H p (.lst [.ref l, .int a, .int b, .int (c + 1)])) p = some (.lst [.ref l, .int a, .int b, .int (c + 1)]) := upd_same
      refine ⟨_, rfl, p, _, 1, _, rfl, rfl, SqL.of p1, rfl, rfl, _, rfl, ?_⟩
      refine ite2 (fun _ => ?_) (fun _ => qrest _ ns _ _ _ _ _ k1 p1 l1)
      refine ⟨_, rfl, p, _, 0, _, rfl, rfl, SqL.of p1, rfl, _, _, rfl, .inl ⟨_, SqL.of l1, rfl⟩, _, _, rfl, rfl, _, rfl, ?_⟩
      refine ite2 (fun hpos => ?_) (fun _ => qrest _ ns _ _ _ _ _ k1 p1 l1)
      match ns, l1, hpos with
      | [], _, hpos => exact absurd hpos (by decide)
      | n :: ns1, l1, _ =>
        refine ⟨_, rfl, p, _, 0, _, rfl, rfl, SqL.of p1, rfl, .inl ⟨rfl, _, SqL.of l1⟩, l, _, 0, 0, _, rfl, rfl, l1, by decide, by decide, ?_, rfl, ?_⟩
        · simp [seqIndex?]
        have k2 : ∀ x, x ≠ p → x ≠ l → (upd (upd H p (.lst [.ref l, .int a, .int b, .int (c + 1)])) l (.lst (ns1.map V.int))) x = H x := fun x h1 h2 => (upd_ne h2).trans (k1 x h1 h2)
        have p2 : (upd (upd H p (.lst [.ref l, .int a, .int b, .int (c + 1)])) l (.lst (ns1.map V.int))) p = some (.lst [.ref l, .int a, .int b, .int (c + 1)]) := (upd_ne npl).trans p1
        have l2 : (upd (upd H p (.lst [.ref l, .int a, .int b, .int (c + 1)])) l (.lst (ns1.map V.int))) l = some (.lst (ns1.map V.int)) := upd_same
        refine ⟨_, rfl, p, _, 2, _, rfl, rfl, SqL.of p2, rfl, _, rfl, _, _, rfl, rfl, _, rfl, p, _, 0, _, rfl, rfl, SqL.of p2, rfl, _, _, rfl, .inl ⟨_, SqL.of l2, rfl⟩, _, _, rfl, fun r hr0 => ?_⟩
        refine ⟨_, rfl, p, _, 2, 2, rfl, rfl, p2, rfl, ?_⟩
        have k3 : ∀ x, x ≠ p → x ≠ l → (upd (upd (upd H p (.lst [.ref l, .int a, .int b, .int (c + 1)])) l (.lst (ns1.map V.int))) p (.lst [.ref l, .int a, .int r, .int (c + 1)])) x = H x := fun x h1 h2 => (upd_ne h1).trans (k2 x h1 h2)
        have p3 : (upd (upd (upd H p (.lst [.ref l, .int a, .int b, .int (c + 1)])) l (.lst (ns1.map V.int))) p (.lst [.ref l, .int a, .int r, .int (c + 1)])) p = some (.lst [.ref l, .int a, .int r, .int (c + 1)]) := upd_same
        have l3 : (upd (upd (upd H p (.lst [.ref l, .int a, .int b, .int (c + 1)])) l (.lst (ns1.map V.int))) p (.lst [.ref l, .int a, .int r, .int (c + 1)])) l = some (.lst (ns1.map V.int)) := (upd_ne (Ne.symm npl)).trans l2
        refine ⟨_, rfl, _, rfl, _, _, rfl, rfl, ⟨by decide, by decide, by decide⟩, _, _, rfl, rfl, _, rfl, ?_⟩
        refine ite2 (fun _ => ?_) (fun _ => qrest _ ns1 _ _ _ _ _ k3 p3 l3)
        refine ⟨_, rfl, _, rfl, _, rfl, p, _, 1, 1, rfl, rfl, p3, rfl, ?_⟩
        exact qrest _ ns1 _ _ _ _ _ (fun x h1 h2 => (upd_ne h1).trans (k3 x h1 h2)) upd_same ((upd_ne (Ne.symm npl)).trans l3)
end
end My

set_option maxHeartbeats 4000000
namespace My
open PySem PySem.Spec PyProof.Rows L2 Vo
section
variable {P : Program} {w : World} {K : PySem.W.Frag} {mg : Str → Option Value} {base : Heap} {f : Addr} {fd : FuncData} {CA : CAd}
theorem scr_sq {L : List Addr} {F H : Hp} {p : Addr} {ns : List Int} {v : V} (le : ∀ a u, F a = some u → Ro L H a u) (h : At F (.scr K p ns) v) : v = .ref p ∧ SqL K H p (ns.map V.int) := by
  unfold At at h
  refine ⟨h.1, ?_⟩
  rcases h.2 with (q | ⟨o, q⟩) | q
  · exact .inl (.inl (le _ _ q).is)
  · exact .inl (.inr ⟨o, (le _ _ q).is⟩)
  · exact .inr q
theorem ok_pot (F : FunD K "_law_pot" "_law_pot" (defArgs (topS 6)) (defBody (topS 6)) (defScope (topS 6)) [] [] f fd) (zl : mg "list" = none) : FnOk P w K mg base (L2.CX P w) 1 f fd ["_law_script"] (spD CA [.z] .pot (phPot K)) := by
  have sc : FnScope ["_law_script"] ["_law_script"] (defScope (topS 6)) := C8.fnScope_by (by decide +kernel)
  refine F.ok sc (fun vs H Q E h => ?_) (fun cdv A outer s H vs Q E hr h => ?_)
  · obtain ⟨L, F, ds, fps, g, Qd, Xd, wd, _⟩ := h
    have := wd.ls
    simpa using this
  · obtain ⟨L, F0, ds, fps, g, Qd, Xd, wd, ⟨p, ns, rfl, hlen, hq⟩, q, _⟩ := h
    refine ⟨_, pss_one (ps_ret (pe_lst (pa_cons (pe_callTy call_list_of (by rfl) zl (by decide +kernel) (pa_cons (pv 0) pa_nil)) (pa_cons pe_int (pa_cons pe_int (pa_cons pe_int pa_nil)))))), ?_⟩
    have lv := wd.ls
    obtain ⟨v0, e0, r0⟩ := wd.sl 0 .z _ rfl rfl
    obtain ⟨ev, hs⟩ := scr_sq wd.le r0.1
    subst ev
    match vs, lv, e0, wd with
    | [x0], _, e0, wd =>
      simp at e0
      subst e0
      refine ⟨_, rfl, p, _, rfl, .inl hs, fun l hl => ⟨by show (4 : Nat) ≤ sizeLine; decide, fun a ha => ?_⟩⟩
      have wd1 := (wd.allocO hl (.lst (ns.map V.int)))
      have s1 := wd.stepO (T := []) hl (.lst (ns.map V.int))
      have wd2 := wd1.allocO ha (.lst [.ref l, .int 0, .int 5, .int 0])
      have s2 := wd1.stepO (T := []) ha (.lst [.ref l, .int 0, .int 5, .int 0])
      have nal : a ≠ l := fun e => by rw [e, upd_same] at ha; cases ha
      refine q (.pot ns 0 5 0) (.ref a) [none] F0 _ fps [a, l] Gro.rfl (fun x hx => (s2.fr x (List.mem_cons_of_mem _ hx)).trans (s1.fr x hx)) ⟨wd2.lf, rfl, rfl, wd2.le, wd2.nd, wd2.out, fun i t d ht hd => ?_⟩ ?_ hq
      · match i, hd with
        | 0, hd => cases hd
        | i + 1, hd => cases hd
      · exact ⟨_, _, _, _, a, l, rfl, rfl, upd_same, (upd_ne (Ne.symm nal)).trans upd_same, rfl⟩
end
/-- facts of the head that the derivations name -/
theorem u65 {k : Nat} {A : Around} (hr : Room k A) : A.units + 65 < cLine := by have := hr.un; omega
structure Z (mg : Str → Option Value) : Prop where
  len_ : mg "len" = none
  all_ : mg "all" = none
  max_ : mg "max" = none
  range_ : mg "range" = none
  isinstance_ : mg "isinstance" = none
  bool_ : mg "bool" = none
  MOST_LETTERS_ : ∃ t, mg "MOST_LETTERS" = some (.int 8 t)
  LETTERS_ : ∃ t, mg "LETTERS" = some (.str "abcdefghijklmnopqrstuvwxyz" t)
def isLet (c : Char) : Bool := decide (97 ≤ c.toNat ∧ c.toNat ≤ 122)
end My

set_option maxHeartbeats 4000000
namespace My
open PySem PySem.Spec PyProof.Rows L2 Vo
def lets : List Nat := [97, 98, 99, 100, 101, 102, 103, 104, 105, 106, 107, 108, 109, 110, 111, 112, 113, 114, 115, 116, 117, 118, 119, 120, 121, 122]
def nameOk (x : Str) : Bool := decide (1 ≤ x.length) && decide (x.length ≤ 8) && x.cps.toList.all fun c => decide (c ∈ lets)
def ph_is_name : DSp := fun ds Q _ => ∃ x : Str, ds = [.str x] ∧ x.length ≤ 64 ∧ Q (.bl (nameOk x)) [none]
def ph__law_text : DSp := fun ds Q _ => ∃ ns a b c, ds = [.pot ns a b c] ∧ ∀ (x : Str) ns' a' b' c', x.length ≤ 64 → Q (.str x) [some (.pot ns' a' b' c')]
def phLaw (K : PySem.W.Frag) : DSp := fun ds Q _ => ∃ p ns, ds = [.scr K p ns] ∧ ns.length ≤ 63 ∧ Q (.bl true) [none]
abbrev N_is_name : List Str := ["text", "sign"]
def w_is_name (K : PySem.W.Frag) : DS := (sRet (wAnd (wCh pyLE pyLE (wC (.int 1)) (w1 (pyLen K) (wV 0)) (wC (.int 8))) (w1 pyAll (wLc (iSt (wV 0)) (gN 1) wTrue (w2 pyIN (wV 1) (wC (.str "abcdefghijklmnopqrstuvwxyz"))) [1]))))
theorem sc_is_name : FnScope N_is_name ["text"] (defScope (topS 3)) := C8.fnScope_by (by decide +kernel)
theorem d_is_name {P : Program} {w : World} {K : PySem.W.Frag} {mg : Str → Option Value} {base : Heap} {f : Addr} {CA : CAd} (z : Z mg)  (cdv : Value) (A : Around) (outer : List Env) (s : Shared) (H : Hp) (E : XK) (hr : Room 0 (A.deeper (envOfC "is_name" (defScope (topS 3)) s.heap.objs.size f cdv))) :
    PSs (cxOf (L2.CX P w) P w K mg base N_is_name "is_name" (defScope (topS 3)) f cdv A outer s H E) (defBody (topS 3)) (tS ⟨[.z] ++ [.z], CA, fun cls d _ H' => E cls d H'⟩ .z [] (w_is_name K)) := by
  have tk := takes_of (X := cxOf (L2.CX P w) P w K mg base N_is_name "is_name" (defScope (topS 3)) f cdv A outer s H E) rfl rfl rfl rfl
  have sc := sc_is_name
  exact (ds_one (ds_ret .same (de_and (de_ch o_le s_le o_le s_le de_int (d1_B call_len s_len z.len_ PySem.boot_len (de_v 0)) (de_gint z.MOST_LETTERS_)) (de_one (d1_B (cr_all rfl) (s_all rfl) z.all_ (by decide +kernel) (de_lc (own := [("sign", 1)]) rfl sc.nd (di_str (de_v 0)) (blkOk_by (own := [("sign", 1)]) (N := N_is_name) (sc := defScope (topS 3)) (by decide +kernel)) (fun _ _ _ _ _ => (dg_name 1 sc.nd)) (fun _ _ _ _ _ => dp_nil) (fun _ _ _ _ _ => (d2_cmp (o_in (u65 hr)) s_in (de_v 1) (de_gstr z.LETTERS_))) .same))))))
-- ['len', 'all'] ['MOST_LETTERS', 'LETTERS'] []
abbrev N__law_text : List Str := ["_law_pot_here", "_law_letters", "_law_signs", "_law_size", "_law_first", "_law_step", "_law_text_here", "_law_spot", "_law_sign", "_law_shape", "_law_k"]
def w__law_text (K : PySem.W.Frag) : DS := (sSeq (sSet 1 (wC (.str "abcdefghijklmnopqrstuvwxyz")))
  (sSeq (sSet 2 (wC (.str " !\"#$&'()*+,-./0123456789:;<=>?@ABCDEFGHIJKLMNOPQRSTUVWXYZ[\\]^_`{|}~\n")))
  (sSeq (sSet 3 (w2 pyIx (wLst (wCons (wCall phDraw [.inn 0, .e .z none] [.pot, .z] .z (wInn 0 (wCons (wC (.int 11)) wNil))) (wCons (wC (.int 8)) (wCons (wC (.int 9)) (wCons (wC (.int 1)) wNil))))) (wCall phDraw [.inn 0, .e .z none] [.pot, .z] .z (wInn 0 (wCons (wC (.int 4)) wNil)))))
  (sSeq (sSet 4 (wCall phDraw [.inn 0, .e .z none] [.pot, .z] .z (wInn 0 (wCons (wC (.int 26)) wNil))))
  (sSeq (sSet 5 (w2 pyMul (wCall phDraw [.inn 0, .e .z none] [.pot, .z] .z (wInn 0 (wCons (wC (.int 2)) wNil))) (w2 pyAdd (wC (.int 1)) (wCall phDraw [.inn 0, .e .z none] [.pot, .z] .z (wInn 0 (wCons (wC (.int 25)) wNil))))))
  (sSeq (sSet 6 (wJoin (wC (.str "")) (wLc (iR1 (wV 3)) (gN 10) wTrue (w2 pyIx (wV 1) (w2 pyMod (w2 pyAdd (wV 4) (w2 pyMul (wV 5) (wV 10))) (wC (.int 26)))) [10])))
  (sSeq (sSet 7 (wCall phDraw [.inn 0, .e .z none] [.pot, .z] .z (wInn 0 (wCons (w2 pyAdd (wV 3) (wC (.int 1))) wNil))))
  (sSeq (sSet 8 (w2 pyIx (wV 2) (wCall phDraw [.inn 0, .e .z none] [.pot, .z] .z (wInn 0 (wCons (w1 (pyLen K) (wV 2)) wNil)))))
  (sSeq (sSet 9 (wCall phDraw [.inn 0, .e .z none] [.pot, .z] .z (wInn 0 (wCons (wC (.int 3)) wNil))))
  (sSeq (sIf (wIs (w2 pyEq (wV 9) (wC (.int 0))))
  (sRet (wV 6)) sNext)
  (sRet (w2 pyAdd (w2 pyAdd (wSl pySlS (wV 6) oNone (oSome (wV 7))) (wV 8)) (wSl pySlS (wV 6) (oSome (w2 pySub (w2 pyAdd (wV 7) (wV 9)) (wC (.int 1)))) oNone)))))))))))))
theorem sc__law_text : FnScope N__law_text ["_law_pot_here"] (defScope (topS 8)) := C8.fnScope_by (by decide +kernel)
theorem d__law_text {P : Program} {w : World} {K : PySem.W.Frag} {mg : Str → Option Value} {base : Heap} {f : Addr} {CA : CAd} (z : Z mg) (c__law_draw : Cal P w K mg base 2 "_law_draw" CA [.pot, .z] .z phDraw) (cdv : Value) (A : Around) (outer : List Env) (s : Shared) (H : Hp) (E : XK) (hr : Room 2 (A.deeper (envOfC "_law_text" (defScope (topS 8)) s.heap.objs.size f cdv))) :
    PSs (cxOf (L2.CX P w) P w K mg base N__law_text "_law_text" (defScope (topS 8)) f cdv A outer s H E) (defBody (topS 8)) (tS ⟨[.pot] ++ [.z, .z, .z, .z, .z, .z, .z, .z, .z, .z], CA, fun cls d _ H' => E cls d H'⟩ .z [0] (w__law_text K)) := by
  have tk := takes_of (X := cxOf (L2.CX P w) P w K mg base N__law_text "_law_text" (defScope (topS 8)) f cdv A outer s H E) rfl rfl rfl rfl
  have sc := sc__law_text
  exact (ds_cons (ds_set 1 .same sc.nd de_str)
  (ds_cons (ds_set 2 .same sc.nd de_str)
  (ds_cons (ds_set 3 .same sc.nd (d2_ix (s_ix rfl) (de_lst .z (da_cons (de_call c__law_draw hr tk (da_inn 0 (da_cons de_int da_nil))) (da_cons de_int (da_cons de_int (da_cons de_int da_nil)))) ⟨.same, .same, .same, .same, trivial⟩) (de_call c__law_draw hr tk (da_inn 0 (da_cons de_int da_nil)))))
  (ds_cons (ds_set 4 .same sc.nd (de_call c__law_draw hr tk (da_inn 0 (da_cons de_int da_nil))))
  (ds_cons (ds_set 5 .same sc.nd (d2_op op_mul s_mul (de_call c__law_draw hr tk (da_inn 0 (da_cons de_int da_nil))) (d2_op o_add s_add de_int (de_call c__law_draw hr tk (da_inn 0 (da_cons de_int da_nil))))))
  (ds_cons (ds_set 6 .same sc.nd (de_join de_str (de_lc (own := [("_law_k", 10)]) rfl sc.nd (di_range1 z.range_ (de_v 3)) (blkOk_by (own := [("_law_k", 10)]) (N := N__law_text) (sc := defScope (topS 8)) (by decide +kernel)) (fun _ _ _ _ _ => (dg_name 10 sc.nd)) (fun _ _ _ _ _ => dp_nil) (fun _ _ _ _ _ => (d2_ix (s_ix rfl) (de_v 1) (d2_op op_mod s_mod (d2_op o_add s_add (de_v 4) (d2_op op_mul s_mul (de_v 5) (de_v 10))) de_int))) .same)))
  (ds_cons (ds_set 7 .same sc.nd (de_call c__law_draw hr tk (da_inn 0 (da_cons (d2_op o_add s_add (de_v 3) de_int) da_nil))))
  (ds_cons (ds_set 8 .same sc.nd (d2_ix (s_ix rfl) (de_v 2) (de_call c__law_draw hr tk (da_inn 0 (da_cons (d1_B call_len s_len z.len_ PySem.boot_len (de_v 2)) da_nil)))))
  (ds_cons (ds_set 9 .same sc.nd (de_call c__law_draw hr tk (da_inn 0 (da_cons de_int da_nil))))
  (ds_cons (ds_if (db_cmp (o_eq hr.units) s_eq (de_v 9) de_int)
  (ds_one (ds_ret .same (de_v 6))) ds_nil)
  (ds_one (ds_ret .same (d2_op o_add s_add (d2_op o_add s_add (de_slS (de_v 6) do_none (do_some (de_v 7))) (de_v 8)) (de_slS (de_v 6) (do_some (d2_op op_sub s_sub (d2_op o_add s_add (de_v 7) (de_v 9)) de_int)) do_none))))))))))))))
-- ['range', 'len'] [] ['_law_draw']
abbrev N_law : List Str := ["_law_script", "_law_pot_here", "_law_turn", "_law_text_here", "_law_due", "_law_sign", "_law_found"]
def w_law (K : PySem.W.Frag) : DS := (sSeq (sSet 1 (wCall (phPot K) [.e .z none] [.z] .pot (wCons (wV 0) wNil)))
  (sSeq (sFor (iR1 (w2 pyMax (wC (.int 4)) (w1 (pyLen K) (wV 0)))) (gN 2)
  (sSeq (sSet 3 (wCall ph__law_text [.inn 1] [.pot] .z (wInn 1 wNil)))
  (sSeq (sSet 4 (wCh pyLE pyLE (wC (.int 1)) (w1 (pyLen K) (wV 3)) (wC (.int 8))))
  (sSeq (sFor (iSt (wV 3)) (gN 5)
  (sIf (wNotB (wIs (wCh pyLE pyLE (wC (.str "a")) (wV 5) (wC (.str "z")))))
  (sSet 4 (wC (.bl false))) sNext))
  (sSeq (sSet 6 (wCall ph_is_name [.e .z none] [.z] .z (wCons (wV 3) wNil)))
  (sIf (wOrB (wNotB (wIs (w1 (pyIsT "bool") (wV 6)))) (wIs (w2 pyNe (wV 6) (wV 4))))
  (sRet (wC (.bl false))) sNext))))))
  (sRet (wC (.bl true)))))
theorem sc_law : FnScope N_law ["_law_script"] (defScope (topS 9)) := C8.fnScope_by (by decide +kernel)
theorem d_law {P : Program} {w : World} {K : PySem.W.Frag} {mg : Str → Option Value} {base : Heap} {f : Addr} {CA : CAd} (z : Z mg) (c__law_pot : Cal P w K mg base 1 "_law_pot" CA [.z] .pot (phPot K)) (c__law_text : Cal P w K mg base 3 "_law_text" CA [.pot] .z ph__law_text) (c_is_name : Cal P w K mg base 1 "is_name" CA [.z] .z ph_is_name) (cdv : Value) (A : Around) (outer : List Env) (s : Shared) (H : Hp) (E : XK) (hr : Room 3 (A.deeper (envOfC "law" (defScope (topS 9)) s.heap.objs.size f cdv))) :
    PSs (cxOf (L2.CX P w) P w K mg base N_law "law" (defScope (topS 9)) f cdv A outer s H E) (defBody (topS 9)) (tS ⟨[.z] ++ [.pot, .z, .z, .z, .z, .z], CA, fun cls d _ H' => E cls d H'⟩ .z [] (w_law K)) := by
  have tk := takes_of (X := cxOf (L2.CX P w) P w K mg base N_law "law" (defScope (topS 9)) f cdv A outer s H E) rfl rfl rfl rfl
  have sc := sc_law
  exact (ds_cons (ds_set 1 .same sc.nd (de_call c__law_pot hr tk (da_cons (de_v 0) da_nil)))
  (ds_cons (ds_for (passes_of rfl) rfl (di_range1 z.range_ (d2_B (call_max2 rfl) s_max z.max_ (by decide +kernel) de_int (d1_B call_len s_len z.len_ PySem.boot_len (de_v 0)))) (dg_name 2 sc.nd)
  (ds_cons (ds_set 3 .same sc.nd (de_call c__law_text hr tk (da_inn 1 da_nil)))
  (ds_cons (ds_set 4 .same sc.nd (de_ch o_le s_le o_le s_le de_int (d1_B call_len s_len z.len_ PySem.boot_len (de_v 3)) de_int))
  (ds_cons (ds_for (passes_of rfl) rfl (di_str (de_v 3)) (dg_name 5 sc.nd)
  (ds_one (ds_if (db_not (db_ch o_le s_le o_le s_le de_str (de_v 5) de_str))
  (ds_one (ds_set 4 .same sc.nd de_bl)) ds_nil)))
  (ds_cons (ds_set 6 .same sc.nd (de_call c_is_name hr tk (da_cons (de_v 3) da_nil)))
  (ds_one (ds_if (PW.pt (db_or (db_not (db_val (de_isT (T := "bool") z.isinstance_ z.bool_ (by decide +kernel) (de_v 6)))) (db_or1 (db_cmp (o_ne hr.units) s_ne (de_v 6) (de_v 4)))))
  (ds_one (ds_ret .same de_bl)) ds_nil)))))))
  (ds_one (ds_ret .same de_bl))))
-- ['len', 'max', 'range', 'isinstance', 'bool'] [] ['_law_pot', '_law_text', 'is_name']
end My

set_option maxHeartbeats 4000000
namespace My
open PySem PySem.Spec PyProof.Rows L2 Vo
variable {K : PySem.W.Frag}
theorem bools_map (f : Nat → Bool) : ∀ l : List Nat, boolsD (l.map fun c => D.bl (f c)) = some (l.map f)
  | [] => rfl
  | c :: l => by simp [boolsD, bools_map f l]
theorem len_cps (x : Str) : x.length = x.cps.toList.length := by simp [Str.length]
theorem pl_is_name (ds : List D) (Qd : D → Rho → Prop) (Xd : XD) (h : ph_is_name ds Qd Xd) : w_is_name K (fun x ρ => Xd x (outs [.z] ρ)) { nx := fun ρ => Ty.z = .z ∧ Qd .non (outs [.z] ρ), rt := fun d ρ => Qd d (outs [.z] ρ) } (ds.map some ++ List.replicate 1 none) := by
  obtain ⟨x, rfl, hx, q⟩ := h
  have hs : x.length ≤ sizeLine := Nat.le_trans hx (by decide)
  refine ⟨hs, ite2 (fun h1 => ?_) (fun h1 => ?_)⟩
  · refine ite2 (fun h2 => ?_) (fun h2 => ?_)
    · refine comp_map (fun d => match d with | .str z => (match one? z with | some c => .bl (decide (c ∈ lets)) | none => .non) | _ => .non) (fun _ => rfl) _ _ ?_ ?_ ?_
      · rw [len_cps] at hs; simpa using hs
      · intro d hd Q' q'
        obtain ⟨c, _, rfl⟩ := List.mem_map.mp hd
        exact q'
      · show pyAll (.lst ([] ++ (x.cps.toList.map fun c => D.str ⟨#[c]⟩).map _)) _
        rw [List.nil_append, List.map_map]
        show (match boolsD (x.cps.toList.map fun c => D.bl (decide (c ∈ lets))) with | some bs => _ | none => False)
        rw [bools_map]
        have e : nameOk x = (x.cps.toList.map fun c => decide (c ∈ lets)).all id := by
          unfold nameOk
          have a1 : 1 ≤ x.length := by have := of_decide_eq_true h1; omega
          have a2 : x.length ≤ 8 := by have := of_decide_eq_true h2; omega
          rw [decide_eq_true a1, decide_eq_true a2, List.all_map]
          rfl
        rw [e] at q
        exact q
    · have e : nameOk x = false := by
        unfold nameOk
        have a2 : ¬ x.length ≤ 8 := fun h => h2 (decide_eq_true (by omega))
        rw [decide_eq_false a2]
        simp
      rw [e] at q
      exact q
  · have e : nameOk x = false := by
      unfold nameOk
      have a1 : ¬ 1 ≤ x.length := fun h => h1 (decide_eq_true (by omega))
      rw [decide_eq_false a1]
      simp
    rw [e] at q
    exact q
theorem len_app (x y : Str) : (x ++ y).length = x.length + y.length := Array.size_append ..
theorem join0_len : ∀ ys : List Str, (∀ y ∈ ys, y.length = 1) → (Txt.join ("" : Str) ys).length = ys.length
  | ys, h => by
    rw [TL.join_eq]
    have key : ∀ ys : List Str, (∀ y ∈ ys, y.length = 1) → (Str.join ("" : Str) ys).length = ys.length := by
      intro ys
      induction ys with
      | nil => intro _; rfl
      | cons y r ih =>
        intro h
        cases r with
        | nil => simpa [Str.join] using h y List.mem_cons_self
        | cons z r =>
          have := ih fun y hy => h y (List.mem_cons_of_mem _ hy)
          simp only [Str.join, len_app] at this ⊢
          rw [this, h y List.mem_cons_self]
          have e0 : (Str.ofString "").length = 0 := by decide +kernel
          rw [e0]
          simp; omega
    exact key ys h
theorem cutS_len (z : Str) (lo hi : Option Int) : (cutS z lo hi).length ≤ z.length := by
  show (List.toArray _).size ≤ _
  rw [List.size_toArray, List.length_take, List.length_drop, ← len_cps]
  omega
theorem strs_map {α : Type} (f : α → Str) : ∀ l : List α, strsD (l.map fun c => D.str (f c)) = some (l.map f)
  | [] => rfl
  | c :: l => by simp [strsD, strs_map f l]
theorem ix_mk {ds : List D} {i : Int} {d : D} {Q : D → Prop} (h : L2.atI ds i = some d) (q : Q d) : pyIx (.lst ds) (.int i) Q := by
  show (match L2.atI ds i with | some x => Q x | none => False)
  rw [h]
  exact q
theorem ixS_mk {z : Str} {i : Int} {Q : D → Prop} (h0 : 0 ≤ i) (h1 : i < z.length) (hz : z.length ≤ sizeLine) (q : ∀ c, z.cps.toList[i.toNat]? = some c → Q (.str ⟨#[c]⟩)) : pyIx (.str z) (.int i) Q := by
  refine ⟨hz, ?_⟩
  have hl : i.toNat < z.cps.toList.length := by rw [← len_cps]; omega
  have e : L2.atI z.cps.toList i = some (z.cps.toList[i.toNat]'hl) := by
    unfold L2.atI L2.ixN
    rw [if_pos h0, if_pos (by rw [← len_cps]; exact h1)]
    exact List.getElem?_eq_getElem hl
  show (match L2.atI z.cps.toList i with | some c => Q (.str ⟨#[c]⟩) | none => False)
  rw [e]
  exact q _ (List.getElem?_eq_getElem hl)
theorem pl__law_text (ds : List D) (Qd : D → Rho → Prop) (Xd : XD) (h : ph__law_text ds Qd Xd) : w__law_text K (fun x ρ => Xd x (outs [.pot] ρ)) { nx := fun ρ => Ty.z = .z ∧ Qd .non (outs [.pot] ρ), rt := fun d ρ => Qd d (outs [.pot] ρ) } (ds.map some ++ List.replicate 10 none) := by
  obtain ⟨ns, a, b, c, rfl, q⟩ := h
  refine body_mk fun X P rt _ _ => ?_
  refine run_set fun N hN => hN _ _ _ (by (try simp only [put, bckR, slot, restR, wipeR, List.map, List.replicate, List.cons_append, List.nil_append, List.append_eq]); first | done | rfl) ?_
  refine run_set fun N hN => hN _ _ _ (by (try simp only [put, bckR, slot, restR, wipeR, List.map, List.replicate, List.cons_append, List.nil_append, List.append_eq]); first | done | rfl) ?_
  refine run_set fun N hN => ?_
  refine draw_at rfl (fun _ h => h) (by decide) (by decide) fun r1 ns1 a1 b1 c1 ρ1 e1 p1 q1 => ?_
  (try simp only [put, bckR, slot, restR, wipeR, List.map, List.replicate, List.cons_append, List.nil_append, List.append_eq] at e1); subst e1
  refine ⟨(by decide : (4 : Nat) ≤ sizeLine), ?_⟩
  refine draw_at rfl (fun _ h => h) (by decide) (by decide) fun r2 ns2 a2 b2 c2 ρ2 e2 p2 q2 => ?_
  (try simp only [put, bckR, slot, restR, wipeR, List.map, List.replicate, List.cons_append, List.nil_append, List.append_eq] at e2); subst e2
  have hsz : ∃ sz : Int, L2.atI [D.int r1, .int 8, .int 9, .int 1] r2 = some (.int sz) ∧ 0 ≤ sz ∧ sz < 11 := by
    have : r2 = 0 ∨ r2 = 1 ∨ r2 = 2 ∨ r2 = 3 := by omega
    rcases this with rfl | rfl | rfl | rfl
    · exact ⟨r1, rfl, p1, q1⟩
    · exact ⟨8, rfl, by decide, by decide⟩
    · exact ⟨9, rfl, by decide, by decide⟩
    · exact ⟨1, rfl, by decide, by decide⟩
  obtain ⟨sz, hsz, s0, s1⟩ := hsz
  refine ix_mk hsz (hN _ _ _ (by (try simp only [put, bckR, slot, restR, wipeR, List.map, List.replicate, List.cons_append, List.nil_append, List.append_eq]); first | done | rfl) ?_)
  clear hN hsz
  refine run_set fun N hN => ?_
  refine draw_at rfl (fun _ h => h) (by decide) (by decide) fun r3 ns3 a3 b3 c3 ρ3 e3 p3 q3 => ?_
  (try simp only [put, bckR, slot, restR, wipeR, List.map, List.replicate, List.cons_append, List.nil_append, List.append_eq] at e3); subst e3
  refine hN _ _ _ (by (try simp only [put, bckR, slot, restR, wipeR, List.map, List.replicate, List.cons_append, List.nil_append, List.append_eq]); first | done | rfl) ?_
  refine run_set fun N hN => ?_
  refine draw_at rfl (fun _ h => h) (by decide) (by decide) fun r4 ns4 a4 b4 c4 ρ4 e4 p4 q4 => ?_
  (try simp only [put, bckR, slot, restR, wipeR, List.map, List.replicate, List.cons_append, List.nil_append, List.append_eq] at e4); subst e4
  refine draw_at rfl (fun _ h => h) (by decide) (by decide) fun r5 ns5 a5 b5 c5 ρ5 e5 p5 q5 => ?_
  (try simp only [put, bckR, slot, restR, wipeR, List.map, List.replicate, List.cons_append, List.nil_append, List.append_eq] at e5); subst e5
  refine ⟨.inl ⟨by omega, by omega⟩, hN _ _ _ (by (try simp only [put, bckR, slot, restR, wipeR, List.map, List.replicate, List.cons_append, List.nil_append, List.append_eq]); first | done | rfl) ?_⟩
  refine run_set fun N hN => ?_
  refine ⟨by omega, by omega, ?_⟩
  refine comp_map (fun d => match d with | .int k => .str ⟨#[lets.getD ((r3 + r4 * (1 + r5) * k) % 26).toNat 0]⟩ | _ => .non) (fun _ => rfl) _ _ ?_ ?_ ?_
  · simp [rngD]
    have : (2 : Nat) ^ 24 = sizeLine := by decide
    omega
  · intro d hd Q' q'
    obtain ⟨k, hk, rfl⟩ := List.mem_map.mp hd
    refine ⟨.inr ⟨by have := List.mem_range.mp hk; omega, by have := List.mem_range.mp hk; omega⟩, by decide, ?_⟩
    refine ixS_mk (Int.emod_nonneg _ (by decide)) ?_ (by decide +kernel) fun c hc => ?_
    · have := Int.emod_lt_of_pos (r3 + r4 * (1 + r5) * (0 + (k : Int))) (b := 26) (by decide)
      have e : ("abcdefghijklmnopqrstuvwxyz" : Str).length = 26 := by decide +kernel
      rw [e]
      exact this
    · have e : ("abcdefghijklmnopqrstuvwxyz" : Str).cps.toList = lets := by decide +kernel
      rw [e] at hc
      have e2 : lets.getD ((r3 + r4 * (1 + r5) * (0 + (k : Int))) % 26).toNat 0 = c := by
        rw [List.getD_eq_getElem?_getD, hc]
        rfl
      have q2 : Q' (.str ⟨#[lets.getD ((r3 + r4 * (1 + r5) * (0 + (k : Int))) % 26).toNat 0]⟩) _ := q'
      rw [e2] at q2
      exact q2
  · rw [List.nil_append]
    unfold rngD
    rw [List.map_map]
    show (match strsD ((List.range sz.toNat).map fun (k : Nat) => D.str ⟨#[lets.getD ((r3 + r4 * (1 + r5) * (0 + (k : Int))) % 26).toNat 0]⟩) with | some ys => _ | none => False)
    rw [strs_map (fun k : Nat => (⟨#[lets.getD ((r3 + r4 * (1 + r5) * (0 + (k : Int))) % 26).toNat 0]⟩ : Str))]
    generalize hys : (List.range sz.toNat).map (fun k : Nat => (⟨#[lets.getD ((r3 + r4 * (1 + r5) * (0 + (k : Int))) % 26).toNat 0]⟩ : Str)) = ys
    have one : ∀ y ∈ ys, y.length = 1 := by
      intro y hy
      rw [← hys] at hy
      obtain ⟨k, _, rfl⟩ := List.mem_map.mp hy
      rfl
    have ln : ys.length = sz.toNat := by rw [← hys]; simp
    have xl : (Txt.join ("" : Str) ys).length = sz.toNat := (join0_len ys one).trans ln
    have sm : (ys.map (·.length)).sum = ys.length := by
      clear hys ln xl
      induction ys with
      | nil => rfl
      | cons y r ih =>
        rw [List.map_cons, List.sum_cons, ih fun z hz => one z (List.mem_cons_of_mem _ hz), one y List.mem_cons_self]
        simp; omega
    refine ⟨?_, ?_⟩
    · have e0 : (Str.ofString "").length = 0 := by decide +kernel
      rw [e0, sm, ln]
      omega
    generalize Txt.join ("" : Str) ys = x at xl ⊢
    clear hys one sm ln
    have hx : x.length ≤ sizeLine := by
      have : (2 : Nat) ^ 24 = sizeLine := by decide
      omega
    refine hN _ _ _ (by (try simp only [put, bckR, slot, restR, wipeR, List.map, List.replicate, List.cons_append, List.nil_append, List.append_eq]); first | done | rfl) ?_
    clear hN
    refine run_set fun N hN => ?_
    refine draw_at (m := sz + 1) rfl (fun _ h => h) (by omega) (by omega) fun r6 ns6 a6 b6 c6 ρ6 e6 p6 q6 => ?_
    (try simp only [put, bckR, slot, restR, wipeR, List.map, List.replicate, List.cons_append, List.nil_append, List.append_eq] at e6); subst e6
    refine hN _ _ _ (by (try simp only [put, bckR, slot, restR, wipeR, List.map, List.replicate, List.cons_append, List.nil_append, List.append_eq]); first | done | rfl) ?_
    refine run_set fun N hN => ?_
    have e69 : (" !\"#$&'()*+,-./0123456789:;<=>?@ABCDEFGHIJKLMNOPQRSTUVWXYZ[\\]^_`{|}~\n" : Str).length = 69 := by decide +kernel
    refine draw_at (m := ((" !\"#$&'()*+,-./0123456789:;<=>?@ABCDEFGHIJKLMNOPQRSTUVWXYZ[\\]^_`{|}~\n" : Str).length : Int)) rfl (fun _ h => ⟨by decide +kernel, h⟩) (by rw [e69]; decide) (by rw [e69]; decide) fun r7 ns7 a7 b7 c7 ρ7 e7 p7 q7 => ?_
    (try simp only [put, bckR, slot, restR, wipeR, List.map, List.replicate, List.cons_append, List.nil_append, List.append_eq] at e7); subst e7
    refine ixS_mk p7 q7 (by decide +kernel) fun c7' _ => hN _ _ _ (by (try simp only [put, bckR, slot, restR, wipeR, List.map, List.replicate, List.cons_append, List.nil_append, List.append_eq]); first | done | rfl) ?_
    refine run_set fun N hN => ?_
    refine draw_at rfl (fun _ h => h) (by decide) (by decide) fun r8 ns8 a8 b8 c8 ρ8 e8 p8 q8 => ?_
    (try simp only [put, bckR, slot, restR, wipeR, List.map, List.replicate, List.cons_append, List.nil_append, List.append_eq] at e8); subst e8
    refine hN _ _ _ (by (try simp only [put, bckR, slot, restR, wipeR, List.map, List.replicate, List.cons_append, List.nil_append, List.append_eq]); first | done | rfl) ?_
    refine ite2 (fun _ => ?_) (fun _ => ?_)
    · exact rt _ _ (q x _ _ _ _ (by omega))
    · have l1 := cutS_len x none (some r6)
      have l2 := cutS_len x (some (r6 + r8 - 1)) none
      have l3 : (⟨#[c7']⟩ : Str).length = 1 := rfl
      have : (2 : Nat) ^ 24 = sizeLine := by decide
      refine ⟨hx, ⟨by rw [l3]; omega, hx, ⟨by rw [len_app, l3]; omega, ?_⟩⟩⟩
      exact rt _ _ (q _ _ _ _ _ (by rw [len_app, len_app, l3]; omega))
end My

set_option maxHeartbeats 4000000
namespace My
open PySem PySem.Spec PyProof.Rows L2 Vo
variable {K : PySem.W.Frag}
theorem mem_lets (c : Nat) : decide (c ∈ lets) = (decide (97 ≤ c) && decide (c ≤ 122)) := by
  by_cases h : c < 128
  · have key : ∀ c : Fin 128, decide (c.1 ∈ lets) = (decide (97 ≤ c.1) && decide (c.1 ≤ 122)) := by decide +kernel
    exact key ⟨c, h⟩
  · have k2 : ∀ x ∈ lets, x ≤ 122 := by decide
    rw [decide_eq_false fun m => h (by have := k2 c m; omega), decide_eq_false (p := c ≤ 122) (by omega)]
    simp
theorem isT_bool (b : Bool) (Q : D → Prop) (q : Q (.bl true)) : pyIsT "bool" (.bl b) Q := by
  have e : kitB (tyName (.bl b)) "bool" = some true := by show kitB "bool" "bool" = some true; decide +kernel
  unfold pyIsT
  rw [e]
  exact ⟨⟨by show ("bool" : String) ≠ ""; decide, by show ("bool" : String) ≠ "dict"; decide⟩, q⟩
theorem lt1 (a b : Nat) : ([a] < [b]) ↔ a < b := by
  simp [List.cons_lt_cons_iff]
theorem pl_law (ds : List D) (Qd : D → Rho → Prop) (Xd : XD) (h : phLaw K ds Qd Xd) : w_law K (fun x ρ => Xd x (outs [.z] ρ)) { nx := fun ρ => Ty.z = .z ∧ Qd .non (outs [.z] ρ), rt := fun d ρ => Qd d (outs [.z] ρ) } (ds.map some ++ List.replicate 6 none) := by
  obtain ⟨p, ns, rfl, hl, q⟩ := h
  refine body_mk fun X P rt _ _ => ?_
  refine run_set fun N hN => ⟨⟨⟨p, ns, rfl, hl, hN _ _ _ (by (try simp only [put, bckR, slot, restR, wipeR, List.map, List.replicate, List.cons_append, List.nil_append, List.append_eq]); first | done | rfl) ?_⟩⟩⟩
  refine ⟨rfl, ?_⟩
  refine ⟨?_, ?_, ?_⟩
  · split <;> omega
  · split <;> omega
  refine for_inv (fun _ ρ => ∃ ns' a b c o2 o3 o4 o5 o6, ρ = [some (.scr K p ns), some (.pot ns' a b c), o2, o3, o4, o5, o6]) ?_ ?_ _ _ ⟨_, _, _, _, _, _, _, _, _, rfl⟩
  · rintro d ds ρ N ⟨ns1, a1, b1, c1, o2, o3, o4, o5, o6, rfl⟩ hN
    refine run_set fun M hM => ⟨⟨⟨ns1, a1, b1, c1, rfl, fun x ns2 a2 b2 c2 hx => hM _ _ _ (by (try simp only [put, bckR, slot, restR, wipeR, List.map, List.replicate, List.cons_append, List.nil_append, List.append_eq]); first | done | rfl) ?_⟩⟩⟩
    have hs : x.length ≤ sizeLine := Nat.le_trans hx (by decide)
    refine run_set fun M hM => ?_
    have key : ∀ b : Bool, b = (decide (1 ≤ x.length) && decide (x.length ≤ 8)) → M (.bl b) [some (.scr K p ns), some (.pot ns2 a2 b2 c2), some d, some (.str x), o4, o5, o6] := by
      intro b hb
      refine hM _ _ _ (by (try simp only [put, bckR, slot, restR, wipeR, List.map, List.replicate, List.cons_append, List.nil_append, List.append_eq]); first | done | rfl) ?_
      refine for_inv (fun ds ρ => ∃ (cs : List Nat) (b : Bool) (o5 : Option D), ds = cs.map (fun c => D.str ⟨#[c]⟩) ∧ (b && cs.all fun c => decide (c ∈ lets)) = nameOk x ∧ ρ = [some (.scr K p ns), some (.pot ns2 a2 b2 c2), some d, some (.str x), some (.bl b), o5, o6]) ?_ ?_ _ _ ⟨_, b, _, rfl, ?_, rfl⟩
      · rintro d' ds' ρ N' ⟨cs, b', o5', he, hb', rfl⟩ hN'
        match cs, he, hb' with
        | [], he, _ => cases he
        | c :: cs, he, hb' =>
          simp only [List.map_cons, List.cons.injEq] at he
          obtain ⟨rfl, rfl⟩ := he
          have ea : ("a" : Str).cps.toList = [97] := by decide +kernel
          have ez : ("z" : Str).cps.toList = [122] := by decide +kernel
          rw [List.all_cons, mem_lets] at hb'
          refine ite2 (fun h1 => ?_) (fun h1 => ?_)
          · have g1 : 97 ≤ c := by
              have : ¬ ([c] < ("a" : Str).cps.toList) := by simpa using h1
              rw [ea, lt1] at this
              omega
            refine ite2 (fun h2 => ?_) (fun h2 => ?_)
            · have g2 : ¬ c ≤ 122 := by
                have : (("z" : Str).cps.toList < [c]) := by simpa using h2
                rw [ez, lt1] at this
                omega
              refine hN' _ ⟨cs, false, _, rfl, ?_, (by (try simp only [put, bckR, slot, restR, wipeR, List.map, List.replicate, List.cons_append, List.nil_append, List.append_eq]); first | done | rfl)⟩
              rw [← hb', decide_eq_false g2]
              simp
            · have g2 : c ≤ 122 := by
                have : ¬ (("z" : Str).cps.toList < [c]) := by simpa using h2
                rw [ez, lt1] at this
                omega
              refine hN' _ ⟨cs, b', _, rfl, ?_, (by (try simp only [put, bckR, slot, restR, wipeR, List.map, List.replicate, List.cons_append, List.nil_append, List.append_eq]); first | done | rfl)⟩
              rw [← hb', decide_eq_true g2, decide_eq_true g1]
              simp
          · have g1 : ¬ 97 ≤ c := by
              have : ([c] < ("a" : Str).cps.toList) := by simpa using h1
              rw [ea, lt1] at this
              omega
            refine hN' _ ⟨cs, false, _, rfl, ?_, (by (try simp only [put, bckR, slot, restR, wipeR, List.map, List.replicate, List.cons_append, List.nil_append, List.append_eq]); first | done | rfl)⟩
            rw [← hb', decide_eq_false g1]
            simp
      · rintro ρ ⟨cs, b', o5', he, hb', rfl⟩
        match cs, he, hb' with
        | c :: cs, he, _ => cases he
        | [], _, hb' =>
          simp only [List.all_nil, Bool.and_true] at hb'
          subst hb'
          refine run_set fun M hM => ⟨⟨⟨x, rfl, hx, hM _ _ _ (by (try simp only [put, bckR, slot, restR, wipeR, List.map, List.replicate, List.cons_append, List.nil_append, List.append_eq]); first | done | rfl) ?_⟩⟩⟩
          simp only [sIf, wOrB, wNotB, wIs, w1, wV, slot]
          refine isT_bool _ _ ?_
          refine ite2 (fun h1 => absurd h1 (by decide)) (fun _ => ?_)
          refine ite2 (fun h1 => ?_) (fun _ => ?_)
          · exact absurd h1 (by simp)
          · exact hN _ ⟨_, _, _, _, _, _, _, _, _, rfl⟩
      · rw [hb]; rfl
    refine ⟨hs, ite2 (fun h1 => ?_) (fun h1 => ?_)⟩
    · refine key _ ?_
      rw [decide_eq_true (p := 1 ≤ x.length) (by have := of_decide_eq_true h1; omega), Bool.true_and]
      exact decide_eq_decide.mpr (by omega)
    · refine key _ ?_
      rw [decide_eq_false (p := 1 ≤ x.length) fun h => h1 (decide_eq_true (by omega)), Bool.false_and]
  · rintro ρ ⟨ns1, a1, b1, c1, o2, o3, o4, o5, o6, rfl⟩
    exact rt _ _ q
end My

set_option maxHeartbeats 0
namespace Vo
open PySem PySem.Spec PyProof.Rows L2
/-- a law's end where its errors' wish names the world -/
theorem walk_ofC {l : PySem.W.OpenLaw} {n k : Nat} {q : Program} {loose : List Str} {XP : (Str → Option Value) → Heap → Prop}
    {YP : World → Heap → Prop} {d : DefRec} {x : Str}
    (hn : l.most = some n) (hn2 : n ≤ sizeLine) (hdf : d.params.defaults = []) (hr : Room k callerA)
    (F : ∀ (w : World) (mg : Str → Option Value) (fa : Addr) (h : Heap), YP w h → h.Ns mainGlobals mg → mg d.name = some (.ref fa) → ∃ (K : PySem.W.Frag) (fd : FuncData) (sp : Sp), K.In h ∧
      (∀ (s : Shared) (u : Value), BindsTo s fd ⟨[u], []⟩ [(x, u)]) ∧ (∀ (H : Hp) (a : Addr) (ns : List Int), ns.length ≤ n → SqL K H a (ns.map V.int) → sp [.ref a] H (fun v _ => v = .bl true) fun _ _ _ => False) ∧
      ∀ base : Heap, K.In base → base.Ns mainGlobals mg → FnOk l.prog w K mg base (L2.CX l.prog w) k fa fd [x] sp) : PySem.W.WalkO q loose XP YP l.row.toRowW d [] (fun f vs => PySem.call f vs) := by
  refine Att.attach_call hn hdf fun w s₀ s₁ mg mb fa o pm cd doc a vs ns G Y ho hd hcd hmg hobj hints hlen hg => ?_
  obtain ⟨K, fd, sp, KX, hb, hsp, hF⟩ := F w mg fa _ Y G.T.g hmg
  refine law_call KX G.T.g G.T.b G.T.builtins G.T.nolimit hg hobj hints (Nat.le_trans hlen hn2) hr hF hb (fun H _ hS => hsp H a ns hlen hS) fun H e s' h => ?_
  obtain ⟨_, _, _, _, _, _, _, _, _, _, _, _, z⟩ := h
  exact z
/-- the law's promise at its one call -/
theorem law_sp {CA : CAd} {K : PySem.W.Frag} {Φ : DSp} (hΦ : ∀ p ns Q X, ns.length ≤ 63 → Q (.bl true) [none] → Φ [.scr K p ns] Q X) (H : Hp) (a : Addr) (ns : List Int) (hl : ns.length ≤ 63) (hS : SqL K H a (ns.map V.int)) :
    spD CA [.z] .z Φ [.ref a] H (fun v _ => v = .bl true) fun _ _ _ => False := by
  refine ⟨[], H, [.scr K a ns], [[]], [], fun d _ => d = .bl true, fun _ _ => False, ⟨rfl, rfl, rfl, fun a u e => .inl e, by simp, fun a ha => by simp at ha, fun i t d ht hd => ?_⟩, hΦ a ns _ _ hl rfl, fun d v os F' H' fps' fp _ _ _ r e => ?_, fun x os F' H' fps' cls dd _ _ _ _ z => z⟩
  · match i, ht, hd with
    | 0, ht, hd =>
      simp at ht hd
      subst ht hd
      refine ⟨.ref a, rfl, ?_, rfl⟩
      unfold At
      exact ⟨rfl, hS⟩
    | i + 1, ht, hd => simp at ht
  · subst e
    exact r.scal_bl
end Vo
namespace My
open PySem PySem.Spec PyProof.Rows L2 Vo
def fn : List He.DefD := [
  ⟨("is_name", none), "is_name", "is_name", defArgs (topS 3), defBody (topS 3), defScope (topS 3), [], []⟩,
  ⟨("_law_mixed", none), "_law_mixed", "_law_mixed", defArgs (topS 5), defBody (topS 5), defScope (topS 5), [], []⟩,
  ⟨("_law_pot", none), "_law_pot", "_law_pot", defArgs (topS 6), defBody (topS 6), defScope (topS 6), [], []⟩,
  ⟨("_law_draw", none), "_law_draw", "_law_draw", defArgs (topS 7), defBody (topS 7), defScope (topS 7), [], []⟩,
  ⟨("_law_text", none), "_law_text", "_law_text", defArgs (topS 8), defBody (topS 8), defScope (topS 8), [], []⟩,
  ⟨("law", none), "law", "law", defArgs (topS 9), defBody (topS 9), defScope (topS 9), [], []⟩]
def fa : List He.Fa := [.glo "is_name", .glo "_law_mixed", .glo "_law_pot", .glo "_law_draw", .glo "_law_text", .glo "law", .free "abs", .free "all", .free "bool", .free "isinstance", .free "len", .free "list", .free "max", .free "range", .int "MOST_LETTERS" 8, .str "LETTERS" "abcdefghijklmnopqrstuvwxyz"]
abbrev R : PySem.W.OpenRow := PySem.W.OpenLaw.row PySem.Challenge.rw_callround_k01_names_told
abbrev hk : PySem.W.Hook := He.hookD 5 fa fn
def ob (s : PySem.W.SharedT) : He.AlD := He.obsDG 5 fa fn (HandSHeadRun.getT s)
theorem ob_eq (s : PySem.W.SharedT) : ob s = hk.obs s.abs := He.obsDG_eq (HandSHeadRun.getT_eq s)
def loose : List PySem.Str := ["LETTERS", "MOST_LETTERS", "is_name", "_law_mixed", "_law_pot", "_law_draw", "_law_text"]
theorem run (w : World) : HandSHeadRun.RunEq R (PySem.W.view R.prog [9]) hk ob 2000 loose w := by
  intro os
  kernel_rfl
theorem facts {P : Program} {w : World} {K : PySem.W.Frag} {h : Heap} {mg : Str → Option Value} {f : Addr} (X : K.In h) (G : h.Ns mainGlobals mg) (hfa : mg ("law" : Str) = some (.ref f)) (c : He.SaysD fa fn K) :
    ∃ fd : FuncData, (∀ (s : Shared) (v : Value), BindsTo s fd ⟨[v], []⟩ [("_law_script", v)]) ∧ ∀ base : Heap, K.In base → base.Ns mainGlobals mg → FnOk P w K mg base (L2.CX P w) 4 f fd ["_law_script"] (spD (fun _ => 0) [.z] .z (phLaw K)) := by
  obtain ⟨fd0, F0⟩ := c.def_ 0
  obtain ⟨fd1, F1⟩ := c.def_ 1
  obtain ⟨fd2, F2⟩ := c.def_ 2
  obtain ⟨fd3, F3⟩ := c.def_ 3
  obtain ⟨fd4, F4⟩ := c.def_ 4
  obtain ⟨fd5, F5⟩ := c.def_ 5
  have e := hfa.symm.trans (He.glo_ok X G (c.fact 5))
  cases e
  have b5 := FunD.bindsA (ps := ["_law_script"]) F5 fun _ _ _ _ _ _ us hl => match us, hl with | [_], _ => rfl
  have b0 := FunD.bindsN (ps := ["text"]) F0 fun _ _ _ _ _ _ us hl => match us, hl with | [_], _ => rfl
  have b1 := FunD.bindsN (ps := ["_law_number", "_law_turn"]) F1 fun _ _ _ _ _ _ us hl => match us, hl with | [_, _], _ => rfl
  have b2 := FunD.bindsN (ps := ["_law_script"]) F2 fun _ _ _ _ _ _ us hl => match us, hl with | [_], _ => rfl
  have b3 := FunD.bindsN (ps := ["_law_pot_here", "_law_many"]) F3 fun _ _ _ _ _ _ us hl => match us, hl with | [_, _], _ => rfl
  have b4 := FunD.bindsN (ps := ["_law_pot_here"]) F4 fun _ _ _ _ _ _ us hl => match us, hl with | [_], _ => rfl
  have z : Z mg := ⟨He.free_ok X G (c.fact 10), He.free_ok X G (c.fact 7), He.free_ok X G (c.fact 12), He.free_ok X G (c.fact 13), He.free_ok X G (c.fact 9), He.free_ok X G (c.fact 8), He.int_ok X G (c.fact 14), He.str_ok X G (c.fact 15)⟩
  refine ⟨fd5, fun s v => b5 s [v] rfl, fun base _ _ => ?_⟩
  have o1 := ok_mixed (P := P) (w := w) (mg := mg) (base := base) F1
  have o3 := ok_draw (P := P) (w := w) (base := base) (CA := fun _ => 0) F3 o1 (He.glo_ok X G (c.fact 1)) F1.kp b1 z.len_ (He.free_ok X G (c.fact 6))
  have o2 := ok_pot (P := P) (w := w) (base := base) (CA := fun _ => 0) F2 (He.free_ok X G (c.fact 11))
  have o0 := fn_okD (P := P) (w := w) (mg := mg) (base := base) (CA := fun _ => 0) (ms := [.z]) (ls := [.z]) (tr := .z) (Fx := []) (Φ := ph_is_name) F0 sc_is_name rfl rfl (fun j t h hz => by match j, h with | 0, h => simp at h; exact absurd h.symm hz | j + 1, h => simp at h) (fun cdv A outer s H E hr => d_is_name z cdv A outer s H E hr) (fun ds Qd Xd h => pl_is_name ds Qd Xd h)
  have c3 : Cal P w K mg base 2 "_law_draw" (fun _ => 0) [.pot, .z] .z phDraw := ⟨⟨_, _, _, o3, He.glo_ok X G (c.fact 3), F3.kp, b3⟩⟩
  have c2 : Cal P w K mg base 1 "_law_pot" (fun _ => 0) [.z] .pot (phPot K) := ⟨⟨_, _, _, o2, He.glo_ok X G (c.fact 2), F2.kp, b2⟩⟩
  have c0 : Cal P w K mg base 1 "is_name" (fun _ => 0) [.z] .z ph_is_name := ⟨⟨_, _, _, o0, He.glo_ok X G (c.fact 0), F0.kp, b0⟩⟩
  have o4 := fn_okD (P := P) (w := w) (mg := mg) (base := base) (CA := fun _ => 0) (ms := [.pot]) (ls := [.z, .z, .z, .z, .z, .z, .z, .z, .z, .z]) (tr := .z) (Fx := [0]) (Φ := ph__law_text) F4 sc__law_text rfl rfl (fun j t h hz => by match j, h with | 0, h => simp | j + 1, h => simp at h) (fun cdv A outer s H E hr => d__law_text z c3 cdv A outer s H E hr) (fun ds Qd Xd h => pl__law_text ds Qd Xd h)
  have c4 : Cal P w K mg base 3 "_law_text" (fun _ => 0) [.pot] .z ph__law_text := ⟨⟨_, _, _, o4, He.glo_ok X G (c.fact 4), F4.kp, b4⟩⟩
  exact fn_okD (P := P) (w := w) (mg := mg) (base := base) (CA := fun _ => 0) (ms := [.z]) (ls := [.pot, .z, .z, .z, .z, .z]) (tr := .z) (Fx := []) (Φ := phLaw K) F5 sc_law rfl rfl (fun j t h hz => by match j, h with | 0, h => simp at h; exact absurd h.symm hz | j + 1, h => simp at h) (fun cdv A outer s H E hr => d_law z c2 c4 c0 cdv A outer s H E hr) (fun ds Qd Xd h => pl_law ds Qd Xd h)
end My
open PySem PySem.W PySem.Calls PyProof.Rows
theorem PySem.Challenge.cw_callround_k01_names_told_holds : PySem.Challenge.rw_callround_k01_names_told.Holds := by
  w_on; o_law
  refine HandSHeadRun.head_any (r := OpenLaw.row PySem.Challenge.rw_callround_k01_names_told) (q := view (OpenLaw.row PySem.Challenge.rw_callround_k01_names_told).prog [9]) (H := My.hk) (ob := My.ob) (M := 2000) (loose := My.loose) (d := HandSHeadRun.topDef (OpenLaw.row PySem.Challenge.rw_callround_k01_names_told).prog 9) (kwd := []) My.ob_eq
    (by kernel_rfl) (fun s => by kernel_rfl) My.run (by kernel_rfl) (by kernel_rfl) (by kernel_rfl) (by rfl) (by first | assumption | decide +kernel) (by decide +kernel) ⟨rfl, rfl, rfl, rfl, rfl, by decide +kernel⟩ ?hw ?hc
  case hw => w_witness2
  case hc =>
    refine Vo.walk_ofC (l := PySem.Challenge.rw_callround_k01_names_told) (n := 63) (k := 4) (x := "_law_script") rfl (by decide) (by kernel_rfl) ⟨rfl, by decide, by decide⟩ ?F
    intro w mg fa h Y G hmg0
    obtain ⟨K, KX, c⟩ := Y
    have hmg : mg ("law" : PySem.Str) = some (.ref fa) := by
      have e : (HandSHeadRun.topDef (OpenLaw.row PySem.Challenge.rw_callround_k01_names_told).prog 9).name = ("law" : PySem.Str) := by kernel_rfl
      rw [← e]
      exact hmg0
    obtain ⟨fd, hb, hF⟩ := My.facts (P := (PySem.Challenge.rw_callround_k01_names_told).prog) (w := w) KX G hmg c
    exact ⟨K, fd, _, KX, hb, fun H a ns hl hS => Vo.law_sp (fun p ns Q X h q => ⟨p, ns, rfl, h, q⟩) H a ns hl hS, hF⟩

