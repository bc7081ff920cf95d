import PyProof.Rows.All
import Wide.All
import OpenK.AllK
import Wide.FinOn
import HandS.ForMost
import HandS.Exc
import HandS.TryOnly
import HandS.WordsExc
import HandS.Wide
import HandS.WideBits
import HandS.TupMul
import HandS.TupAny
import HandS.IsInst
import HandS.Gcd
import KE.KMathG
import HandS.Walk
import HandS.NoneIn
import KE.GoesNew
import KE.GoesEnum
import KE.GoesMore
import HandS.ExcOwn
import HandS.Star
import HandS.Style
import HandS.Defaults
import HandS.Head0
import HandS.Head1
import HandS.Head2
import HandS.Head3
import HandS.HeadEnd
import HandS.HeadHook1
import HandS.HeadHook2
import HandS.Dict
import HandS.DictComp
import HandS.Iter
import HandS.Conv
import KE.KDictCopyH
import KE.KDictSum
import HandS.ExcField
import HandS.TryMany
import KE.KExcSuper
import HandS.Ends
import HandS.EndBits
import KE.IntBitsLaws
import KE.KStateDown
import PySem.Challenge.RW_sixpins_k75_determinants_of_any_matrix
set_option Elab.async false
set_option linter.all false
set_option maxRecDepth 100000
set_option maxHeartbeats 4000000
/-! Dn1: values as data (D), what stands for them in a heap (Rep), slots (Sl), the relation of a frame to its data (Rl), the results of a reading (Rs). -/
namespace Dn
open PySem PySem.Spec PyProof.Rows L2

/-- a value as data, all the way in -/
inductive D where
  | non | bl (b : Bool) | int (i : Int) | str (x : Str) | ty (n : String) | adr (a : Addr)
  | tup (ds : List D) | kt (ds : List D) | lst (ds : List D) | fl (ds : List D) | ins (C : Addr) (ns : List Str) (ds : List D)

/-- all that is known stays known -/
def Sub (G H : Hp) : Prop := ∀ a o, G a = some o → H a = some o
theorem Sub.refl (H : Hp) : Sub H H := fun _ _ h => h
theorem Sub.trans {A B C : Hp} (a : Sub A B) (b : Sub B C) : Sub A C := fun x o h => b x o (a x o h)
theorem Sub.new {H : Hp} {p : Addr} {o : HO} (h : H p = none) : Sub H (upd H p o) := fun a u e => by
  rw [upd_ne (ne_of_none e h)]
  exact e
theorem Sub.both {G H : Hp} {p : Addr} {o : HO} (s : Sub G H) : Sub (upd G p o) (upd H p o) := fun a u e => by
  by_cases h : a = p
  · rw [h, upd_same] at e
    rw [h, upd_same]
    exact e
  · rw [upd_ne h] at e
    rw [upd_ne h]
    exact s a u e
/-- an object that G does not know may change -/
theorem Sub.mut {G H : Hp} {p : Addr} {o : HO} (e : Sub G H) (h : G p = none) : Sub G (upd H p o) := fun a u ha => by
  rw [upd_ne (ne_of_none ha h)]
  exact e a u ha
theorem Sub.rd {G H : Hp} {a : Addr} {u : HO} (e : Sub G H) (h : Rd G a u) : Rd H a u := by
  rcases h with h | ⟨o, h⟩
  · exact Or.inl (e a _ h)
  · exact Or.inr ⟨o, e a _ h⟩
theorem Sub.l {K : PySem.W.Frag} {G H : Hp} {a : Addr} {xs : List V} (e : Sub G H) (h : SqL K G a xs) : SqL K H a xs := by
  rcases h with h | h
  · exact Or.inl (e.rd h)
  · exact Or.inr h
theorem Sub.t {K : PySem.W.Frag} {G H : Hp} {a : Addr} {xs : List V} (e : Sub G H) (h : SqT K G a xs) : SqT K H a xs := by
  rcases h with h | h
  · exact Or.inl (e.rd h)
  · exact Or.inr h
theorem Sub.free {G H : Hp} {p : Addr} (e : Sub G H) (h : H p = none) : G p = none := by
  cases h1 : G p with
  | none => rfl
  | some o =>
    rw [e p o h1] at h
    cases h
theorem lsq {K : PySem.W.Frag} {H : Hp} {a : Addr} {xs : List V} (h : H a = some (.lst xs)) : SqL K H a xs := Or.inl (Or.inl h)
theorem tsq {K : PySem.W.Frag} {H : Hp} {a : Addr} {xs : List V} (h : H a = some (.tup xs)) : SqT K H a xs := Or.inl (Or.inl h)

mutual
/-- d stands for v in G -/
def Rep (K : PySem.W.Frag) (G : Hp) : D → V → Prop
  | .non, v => v = .non
  | .bl b, v => v = .bl b
  | .int i, v => v = .int i
  | .str x, v => v = .str x
  | .ty n, v => v = .ty n
  | .adr a, v => v = .ref a
  | .tup ds, v => ∃ a vs, v = .ref a ∧ G a = some (.tup vs) ∧ Reps K G ds vs
  | .kt ds, v => ∃ a vs, v = .ref a ∧ SqT K G a vs ∧ Reps K G ds vs
  | .lst ds, v => ∃ a vs, v = .ref a ∧ G a = some (.lst vs) ∧ Reps K G ds vs
  | .fl ds, v => ∃ a vs, v = .ref a ∧ SqL K G a vs ∧ Reps K G ds vs
  | .ins C ns ds, v => ∃ a dx vfs, v = .ref a ∧ G a = some (.ins C dx vfs) ∧ vfs.map (·.1) = ns ∧ Reps K G ds (vfs.map (·.2))
def Reps (K : PySem.W.Frag) (G : Hp) : List D → List V → Prop
  | [], vs => vs = []
  | d :: ds, vs => ∃ v r, vs = v :: r ∧ Rep K G d v ∧ Reps K G ds r
end

mutual
theorem Rep.mono {K : PySem.W.Frag} {G H : Hp} (e : Sub G H) : ∀ {d : D} {v : V}, Rep K G d v → Rep K H d v
  | .non, _, h => h
  | .bl _, _, h => h
  | .int _, _, h => h
  | .str _, _, h => h
  | .ty _, _, h => h
  | .adr _, _, h => h
  | .tup ds, v, h => by
    unfold Rep at h ⊢
    obtain ⟨a, vs, h1, h2, h3⟩ := h
    exact ⟨a, vs, h1, e _ _ h2, Reps.mono e h3⟩
  | .kt ds, v, h => by
    unfold Rep at h ⊢
    obtain ⟨a, vs, h1, h2, h3⟩ := h
    exact ⟨a, vs, h1, e.t h2, Reps.mono e h3⟩
  | .lst ds, v, h => by
    unfold Rep at h ⊢
    obtain ⟨a, vs, h1, h2, h3⟩ := h
    exact ⟨a, vs, h1, e _ _ h2, Reps.mono e h3⟩
  | .fl ds, v, h => by
    unfold Rep at h ⊢
    obtain ⟨a, vs, h1, h2, h3⟩ := h
    exact ⟨a, vs, h1, e.l h2, Reps.mono e h3⟩
  | .ins C ns ds, v, h => by
    unfold Rep at h ⊢
    obtain ⟨a, dx, vfs, h1, h2, h3, h4⟩ := h
    exact ⟨a, dx, vfs, h1, e _ _ h2, h3, Reps.mono e h4⟩
theorem Reps.mono {K : PySem.W.Frag} {G H : Hp} (e : Sub G H) : ∀ {ds : List D} {vs : List V}, Reps K G ds vs → Reps K H ds vs
  | [], _, h => h
  | d :: ds, vs, h => by
    unfold Reps at h ⊢
    obtain ⟨v, r, h1, h2, h3⟩ := h
    exact ⟨v, r, h1, Rep.mono e h2, Reps.mono e h3⟩
end
section
variable {K : PySem.W.Frag} {G H : Hp}
theorem Reps.nil : Reps K G [] [] := by unfold Reps; rfl
theorem Reps.cons {d : D} {ds : List D} {v : V} {vs : List V} (h : Rep K G d v) (hs : Reps K G ds vs) : Reps K G (d :: ds) (v :: vs) := by
  unfold Reps
  exact ⟨v, vs, rfl, h, hs⟩
theorem Reps.nil_inv {vs : List V} (h : Reps K G [] vs) : vs = [] := by unfold Reps at h; exact h
theorem Reps.cons_inv {d : D} {ds : List D} {vs : List V} (h : Reps K G (d :: ds) vs) : ∃ v r, vs = v :: r ∧ Rep K G d v ∧ Reps K G ds r := by unfold Reps at h; exact h
theorem Reps.length : ∀ {ds : List D} {vs : List V}, Reps K G ds vs → vs.length = ds.length
  | [], vs, h => by rw [h.nil_inv]; rfl
  | d :: ds, vs, h => by
    obtain ⟨v, r, rfl, _, h3⟩ := h.cons_inv
    simp [Reps.length h3]
theorem Reps.get : ∀ {ds : List D} {vs : List V}, Reps K G ds vs → ∀ (i : Nat) (d : D), ds[i]? = some d → ∃ v, vs[i]? = some v ∧ Rep K G d v
  | [], vs, h, i, d, e => by simp at e
  | x :: ds, vs, h, i, d, e => by
    obtain ⟨v, r, rfl, h2, h3⟩ := h.cons_inv
    cases i with
    | zero =>
      simp at e
      subst e
      exact ⟨v, rfl, h2⟩
    | succ i => exact Reps.get h3 i d (by simpa using e)
theorem Reps.get_inv : ∀ {ds : List D} {vs : List V}, Reps K G ds vs → ∀ (i : Nat) (v : V), vs[i]? = some v → ∃ d, ds[i]? = some d ∧ Rep K G d v := fun {ds vs} h i v e => by
  have hl := h.length
  have hi : i < vs.length := (List.getElem?_eq_some_iff.mp e).1
  have hd : ds[i]? = some (ds[i]'(by omega)) := List.getElem?_eq_getElem (by omega)
  obtain ⟨w, hw, r⟩ := h.get i _ hd
  rw [e] at hw
  cases hw
  exact ⟨_, hd, r⟩
theorem Reps.append : ∀ {ds es : List D} {vs ws : List V}, Reps K G ds vs → Reps K G es ws → Reps K G (ds ++ es) (vs ++ ws)
  | [], es, vs, ws, h, h' => by
    rw [h.nil_inv]
    exact h'
  | d :: ds, es, vs, ws, h, h' => by
    obtain ⟨v, r, rfl, h2, h3⟩ := h.cons_inv
    exact .cons h2 (Reps.append h3 h')
theorem Reps.one {d : D} {v : V} (h : Rep K G d v) : Reps K G [d] [v] := .cons h .nil
theorem Reps.take : ∀ {ds : List D} {vs : List V} (n : Nat), Reps K G ds vs → Reps K G (ds.take n) (vs.take n)
  | _, _, 0, _ => by simpa using Reps.nil
  | [], vs, n + 1, h => by
    rw [h.nil_inv]
    exact Reps.nil
  | d :: ds, vs, n + 1, h => by
    obtain ⟨v, r, rfl, h2, h3⟩ := h.cons_inv
    exact .cons h2 (Reps.take n h3)
theorem Reps.drop : ∀ {ds : List D} {vs : List V} (n : Nat), Reps K G ds vs → Reps K G (ds.drop n) (vs.drop n)
  | _, _, 0, h => by simpa using h
  | [], vs, n + 1, h => by
    rw [h.nil_inv]
    exact Reps.nil
  | d :: ds, vs, n + 1, h => by
    obtain ⟨v, r, rfl, h2, h3⟩ := h.cons_inv
    exact Reps.drop n h3
theorem Reps.set : ∀ {ds : List D} {vs : List V} {d : D} {v : V} (i : Nat), Reps K G ds vs → Rep K G d v → Reps K G (ds.set i d) (vs.set i v)
  | [], vs, d, v, i, h, r => by
    rw [h.nil_inv]
    simpa using Reps.nil
  | x :: ds, vs, d, v, 0, h, r => by
    obtain ⟨w, s, rfl, h2, h3⟩ := h.cons_inv
    exact .cons r h3
  | x :: ds, vs, d, v, i + 1, h, r => by
    obtain ⟨w, s, rfl, h2, h3⟩ := h.cons_inv
    exact .cons h2 (Reps.set i h3 r)
theorem Reps.reverse : ∀ {ds : List D} {vs : List V}, Reps K G ds vs → Reps K G ds.reverse vs.reverse
  | [], vs, h => by
    rw [h.nil_inv]
    exact Reps.nil
  | d :: ds, vs, h => by
    obtain ⟨v, r, rfl, h2, h3⟩ := h.cons_inv
    rw [List.reverse_cons, List.reverse_cons]
    exact (Reps.reverse h3).append (.one h2)
/-- ints -/
theorem Reps.ints : ∀ {ns : List Int}, Reps K G (ns.map D.int) (ns.map V.int)
  | [] => Reps.nil
  | n :: ns => .cons (by unfold Rep; rfl) Reps.ints
theorem Reps.ints_inv : ∀ {ns : List Int} {vs : List V}, Reps K G (ns.map D.int) vs → vs = ns.map V.int
  | [], vs, h => h.nil_inv
  | n :: ns, vs, h => by
    obtain ⟨v, r, rfl, h2, h3⟩ := Reps.cons_inv (ds := ns.map D.int) (d := .int n) h
    unfold Rep at h2
    rw [h2, Reps.ints_inv h3]
    rfl
theorem rep_kt {ds : List D} {a : Addr} {vs : List V} (h : SqT K G a vs) (r : Reps K G ds vs) : Rep K G (.kt ds) (.ref a) := by
  unfold Rep
  exact ⟨a, vs, rfl, h, r⟩
theorem rep_tup {ds : List D} {a : Addr} {vs : List V} (h : G a = some (.tup vs)) (r : Reps K G ds vs) : Rep K G (.tup ds) (.ref a) := by
  unfold Rep
  exact ⟨a, vs, rfl, h, r⟩
theorem rep_lst {ds : List D} {a : Addr} {vs : List V} (h : G a = some (.lst vs)) (r : Reps K G ds vs) : Rep K G (.lst ds) (.ref a) := by
  unfold Rep
  exact ⟨a, vs, rfl, h, r⟩
theorem rep_int {i : Int} : Rep K G (.int i) (.int i) := by unfold Rep; rfl
theorem rep_bl {b : Bool} : Rep K G (.bl b) (.bl b) := by unfold Rep; rfl
theorem rep_str {x : Str} : Rep K G (.str x) (.str x) := by unfold Rep; rfl
theorem rep_non : Rep K G .non .non := by unfold Rep; rfl
theorem rep_ty {n : String} : Rep K G (.ty n) (.ty n) := by unfold Rep; rfl
theorem rep_adr {a : Addr} : Rep K G (.adr a) (.ref a) := by unfold Rep; rfl
end

/-! ### objects that are owned -/
inductive OO where
  | lst (ds : List D)
  | dT (ks : List (List Key)) (ds : List D)
  | dK (ks : List Key) (ds : List D)
  | ins (C : Addr) (ns : List Str) (ds : List D)
def ORep (K : PySem.W.Frag) (G H : Hp) (p : Addr) : OO → Prop
  | .lst ds => ∃ vs, H p = some (.lst vs) ∧ Reps K G ds vs
  | .dT ks ds => ∃ kvs : List (List Key × V), H p = some (.dT kvs) ∧ kvs.map (·.1) = ks ∧ Reps K G ds (kvs.map (·.2))
  | .dK ks ds => ∃ kvs : List (Key × V), H p = some (.dK kvs) ∧ kvs.map (·.1) = ks ∧ Reps K G ds (kvs.map (·.2))
  | .ins C ns ds => ∃ dx vfs, H p = some (.ins C dx vfs) ∧ vfs.map (·.1) = ns ∧ Reps K G ds (vfs.map (·.2))
theorem ORep.some {K : PySem.W.Frag} {G H : Hp} {p : Addr} {o : OO} (h : ORep K G H p o) : ∃ u, H p = some u := by
  cases o with
  | lst ds => obtain ⟨_, e, _⟩ := h; exact ⟨_, e⟩
  | dT ks ds => obtain ⟨_, e, _⟩ := h; exact ⟨_, e⟩
  | dK ks ds => obtain ⟨_, e, _⟩ := h; exact ⟨_, e⟩
  | ins C ns ds => obtain ⟨_, _, e, _⟩ := h; exact ⟨_, e⟩
theorem ORep.mono {K : PySem.W.Frag} {G H G' H' : Hp} {p : Addr} {o : OO} (h : ORep K G H p o) (g : Sub G G') (e : H' p = H p) : ORep K G' H' p o := by
  cases o with
  | lst ds => obtain ⟨_, e1, r⟩ := h; exact ⟨_, e.trans e1, r.mono g⟩
  | dT ks ds => obtain ⟨_, e1, k, r⟩ := h; exact ⟨_, e.trans e1, k, r.mono g⟩
  | dK ks ds => obtain ⟨_, e1, k, r⟩ := h; exact ⟨_, e.trans e1, k, r.mono g⟩
  | ins C ns ds => obtain ⟨_, _, e1, k, r⟩ := h; exact ⟨_, _, e.trans e1, k, r.mono g⟩

/-- a slot: data, or an object that is owned -/
inductive Sl where
  | fz (d : D)
  | own (o : OO)
abbrev Rho := List (Option Sl)
def SRep (K : PySem.W.Frag) (B G H : Hp) : Sl → V → Prop
  | .fz d, v => Rep K G d v
  | .own o, v => ∃ p, v = .ref p ∧ G p = none ∧ B p = none ∧ ORep K G H p o

/-- an exception: its class, its own dict -/
structure Exn where
  cls : Addr
  ns : List Str
  ds : List D
/-- what a piece of a def comes to -/
inductive Rs (α : Type) where
  | ok (a : α) (ρ : Rho)
  | err (x : Exn) (ρ : Rho)
  | no
abbrev M (α : Type) := Rho → Rs α
def ret {α : Type} (a : α) : M α := fun ρ => .ok a ρ
def fail {α : Type} : M α := fun _ => .no
def bind {α β : Type} (m : M α) (f : α → M β) : M β := fun ρ => match m ρ with
  | .ok a ρ' => f a ρ'
  | .err x ρ' => .err x ρ'
  | .no => .no
/-- where it is defined -/
def lift {α : Type} (o : Option α) : M α := fun ρ => match o with
  | some a => .ok a ρ
  | none => .no

/-- what is fixed while a def runs: what must be kept, what was known first, the slots that stay, the wish of an exception -/
structure Cg where
  G0 : Hp
  Pn : List (Option V)
  W : WX

structure Rl (K : PySem.W.Frag) (c : Cg) (B G H : Hp) (σ : L2.St) (ρ : Rho) : Prop where
  sub : Sub G H
  base : Sub B H
  ext : Sub c.G0 G
  fresh : ∀ a, G a ≠ none → c.G0 a ≠ none ∨ B a = none
  len : ρ.length = σ.length
  slots : ∀ (i : Nat) (s : Sl), ρ[i]? = some (some s) → ∃ v, σ[i]? = some (some v) ∧ SRep K B G H s v
  dist : ∀ (i j : Nat) (o o' : OO) (v : V), i ≠ j → ρ[i]? = some (some (.own o)) → ρ[j]? = some (some (.own o')) → σ[i]? = some (some v) → σ[j]? ≠ some (some v)
  pin : ∀ (i : Nat) (v : V), c.Pn[i]? = some (some v) → σ[i]? = some (some v)

/-- the heaps grow by new objects alone -/
structure Grow (G H G' H' : Hp) : Prop where
  gg : Sub G G'
  hh : Sub H H'
  gh : Sub G' H'
  fr : ∀ a, G' a ≠ none → G a ≠ none ∨ H a = none
theorem Grow.refl {G H : Hp} (s : Sub G H) : Grow G H G H := ⟨.refl G, .refl H, s, fun _ h => .inl h⟩
theorem Grow.trans {G H G1 H1 G2 H2 : Hp} (a : Grow G H G1 H1) (b : Grow G1 H1 G2 H2) : Grow G H G2 H2 :=
  ⟨a.gg.trans b.gg, a.hh.trans b.hh, b.gh, fun x h => by
    rcases b.fr x h with h1 | h1
    · exact a.fr x h1
    · exact .inr (a.hh.free h1)⟩
theorem Grow.new {G H : Hp} {p : Addr} {o : HO} (s : Sub G H) (h : H p = none) : Grow G H (upd G p o) (upd H p o) :=
  ⟨.new (s.free h), .new h, s.both, fun a ha => by
    by_cases e : a = p
    · rw [e]
      exact .inr h
    · rw [upd_ne e] at ha
      exact .inl ha⟩
/-- a new object that is not told -/
theorem Grow.newH {G H : Hp} {p : Addr} {o : HO} (s : Sub G H) (h : H p = none) : Grow G H G (upd H p o) :=
  ⟨.refl G, .new h, s.trans (.new h), fun a ha => .inl ha⟩
theorem Rl.grow {K : PySem.W.Frag} {c : Cg} {B G H G' H' : Hp} {σ : L2.St} {ρ : Rho} (r : Rl K c B G H σ ρ) (g : Grow G H G' H') : Rl K c B G' H' σ ρ where
  sub := g.gh
  base := r.base.trans g.hh
  ext := r.ext.trans g.gg
  fresh := fun a h => by
    rcases g.fr a h with h1 | h1
    · exact r.fresh a h1
    · exact .inr (r.base.free h1)
  len := r.len
  slots := fun i s e => by
    obtain ⟨v, h1, h2⟩ := r.slots i s e
    refine ⟨v, h1, ?_⟩
    cases s with
    | fz d => exact Rep.mono g.gg h2
    | own o =>
      obtain ⟨p, h3, h4, h5, h6⟩ := h2
      obtain ⟨u, hu⟩ := h6.some
      refine ⟨p, h3, ?_, h5, h6.mono g.gg ((g.hh _ _ hu).trans hu.symm)⟩
      cases q : G' p with
      | none => rfl
      | some z =>
        rcases g.fr p (by rw [q]; exact fun h => nomatch h) with h7 | h7
        · exact absurd h4 h7
        · rw [hu] at h7
          cases h7
  dist := r.dist
  pin := r.pin
end Dn

set_option Elab.async false
set_option linter.all false
set_option maxRecDepth 100000
set_option maxHeartbeats 4000000
/-! Dn2: what a piece of a def comes to, as data: expressions, tests, arguments, statements. -/
namespace Dn
open PySem PySem.Spec PyProof.Rows L2

def XRep (K : PySem.W.Frag) (G H : Hp) (x : Exn) (dx : Option Addr) : Prop := ∃ d vfs, dx = some d ∧ G d = some (.xd vfs) ∧ vfs.map (·.1) = x.ns ∧ Reps K G x.ds (vfs.map (·.2))
/-- what is owed behind an expression -/
def XPost {α : Type} (K : PySem.W.Frag) (c : Cg) (B : Hp) (σ : L2.St) (G : Hp) (P : α → Rho → Hp → Hp → Prop) : Rs α → Prop
  | .ok a ρ' => ∀ G' H', Sub G G' → Rl K c B G' H' σ ρ' → P a ρ' G' H'
  | .err x ρ' => ∀ dx G' H', Sub G G' → Rl K c B G' H' σ ρ' → XRep K G' H' x dx → c.W (.ref x.cls) dx σ H'
  | .no => False
theorem XPost.imp {α : Type} {K : PySem.W.Frag} {c : Cg} {B : Hp} {σ : L2.St} {G : Hp} {P P' : α → Rho → Hp → Hp → Prop} {r : Rs α} (h : XPost K c B σ G P r)
    (f : ∀ a ρ' G' H', Sub G G' → Rl K c B G' H' σ ρ' → P a ρ' G' H' → P' a ρ' G' H') : XPost K c B σ G P' r := by
  cases r with
  | ok a ρ' => exact fun G' H' s r => f a ρ' G' H' s r (h G' H' s r)
  | err x ρ' => exact h
  | no => exact h
theorem XPost.at {α : Type} {K : PySem.W.Frag} {c : Cg} {B : Hp} {σ : L2.St} {G G1 : Hp} {P : α → Rho → Hp → Hp → Prop} {r : Rs α} (h : XPost K c B σ G P r) (s : Sub G G1) : XPost K c B σ G1 P r := by
  cases r with
  | ok a ρ' => exact fun G' H' s' r => h G' H' (s.trans s') r
  | err x ρ' => exact fun dx G' H' s' r x => h dx G' H' (s.trans s') r x
  | no => exact h
theorem XPost.bind {α β : Type} {K : PySem.W.Frag} {c : Cg} {B : Hp} {σ : L2.St} {G : Hp} {P : β → Rho → Hp → Hp → Prop} {m : M α} {f : α → M β} {ρ : Rho} (h : XPost K c B σ G P (Dn.bind m f ρ)) :
    XPost K c B σ G (fun a ρ' G' H' => XPost K c B σ G' P (f a ρ')) (m ρ) := by
  unfold Dn.bind at h
  cases e : m ρ with
  | ok a ρ' =>
    rw [e] at h
    exact fun G' H' s r => XPost.at h s
  | err x ρ' =>
    rw [e] at h
    exact h
  | no =>
    rw [e] at h
    exact h
theorem XPost.lift {α : Type} {K : PySem.W.Frag} {c : Cg} {B : Hp} {σ : L2.St} {G : Hp} {P : α → Rho → Hp → Hp → Prop} {o : Option α} {ρ : Rho} (h : XPost K c B σ G P (Dn.lift o ρ)) :
    ∃ a, o = some a ∧ ∀ G' H', Sub G G' → Rl K c B G' H' σ ρ → P a ρ G' H' := by
  cases o with
  | none => exact h.elim
  | some a => exact ⟨a, rfl, h⟩

/-! ### readings -/
def tD (K : PySem.W.Frag) (c : Cg) (m : M D) : TE := fun σ H Q => ∃ B G ρ, Rl K c B G H σ ρ ∧ XPost K c B σ G (fun d _ G' H' => ∀ v, Rep K G' d v → Q v H') (m ρ)
def tT (K : PySem.W.Frag) (c : Cg) (m : M Bool) : TT := fun σ H Q => ∃ B G ρ, Rl K c B G H σ ρ ∧ XPost K c B σ G (fun b _ G' H' => Q b H') (m ρ)
/-- a new object of one's own -/
def New (B : Hp) (G : Hp) (σ : L2.St) (ρ : Rho) (p : Addr) : Prop := G p = none ∧ B p = none ∧ ∀ (i : Nat) (o : OO), ρ[i]? = some (some (.own o)) → σ[i]? ≠ some (some (.ref p))
def tN (K : PySem.W.Frag) (c : Cg) (m : M OO) : TE := fun σ H Q => ∃ B G ρ, Rl K c B G H σ ρ ∧ XPost K c B σ G (fun o ρ' G' H' => ∀ p, New B G' σ ρ' p → ORep K G' H' p o → Q (.ref p) H') (m ρ)
/-- an argument: data, or the own object that stands at a slot -/
inductive Pa where
  | v (d : D)
  | s (i : Nat)
def PasRep (K : PySem.W.Frag) (G : Hp) (σ : L2.St) : List Pa → List V → Prop
  | [], vs => vs = []
  | .v d :: r, vs => ∃ x xs, vs = x :: xs ∧ Rep K G d x ∧ PasRep K G σ r xs
  | .s i :: r, vs => ∃ x xs, vs = x :: xs ∧ σ[i]? = some (some x) ∧ PasRep K G σ r xs
theorem PasRep.mono {K : PySem.W.Frag} {G G' : Hp} {σ : L2.St} (s : Sub G G') : ∀ {ps : List Pa} {vs : List V}, PasRep K G σ ps vs → PasRep K G' σ ps vs
  | [], _, h => h
  | .v d :: r, vs, h => by
    obtain ⟨x, xs, e, h1, h2⟩ := h
    exact ⟨x, xs, e, h1.mono s, PasRep.mono s h2⟩
  | .s i :: r, vs, h => by
    obtain ⟨x, xs, e, h1, h2⟩ := h
    exact ⟨x, xs, e, h1, PasRep.mono s h2⟩
def tA (K : PySem.W.Frag) (c : Cg) (m : M (List Pa)) : TA := fun σ H Q => ∃ B G ρ, Rl K c B G H σ ρ ∧ XPost K c B σ G (fun ps _ G' H' => ∀ vs, PasRep K G' σ ps vs → Q vs H') (m ρ)

theorem PE_imp {X : Cx} {e : Expr} {t t' : TE} (h : PE X e t) (f : ∀ σ H Q, t' σ H Q → t σ H Q) : PE X e t' := ⟨fun pins s σ H Q I q => h.run pins s σ H Q I (f σ H Q q)⟩
theorem PT_imp {X : Cx} {e : Expr} {t t' : TT} (h : PT X e t) (f : ∀ σ H Q, t' σ H Q → t σ H Q) : PT X e t' := ⟨fun pins s σ H Q I q => h.run pins s σ H Q I (f σ H Q q)⟩
theorem PW_imp {X : Cx} {e : Expr} {t t' : TT} (h : PW X e t) (f : ∀ σ H Q, t' σ H Q → t σ H Q) : PW X e t' := ⟨fun w pins s σ H Q I q => h.run w pins s σ H Q I (f σ H Q q)⟩
theorem PA_imp {X : Cx} {es : List Expr} {t t' : TA} (h : PA X es t) (f : ∀ σ H Q, t' σ H Q → t σ H Q) : PA X es t' := ⟨fun pos pins s σ H Q I q => h.run pos pins s σ H Q I (f σ H Q q)⟩
theorem PS_imp {X : Cx} {st : Stmt} {t t' : TS} (h : PS X st t) (f : ∀ D σ H, t' D σ H → t D σ H) : PS X st t' := ⟨fun pins s σ H D I q => h.run pins s σ H D I (f D σ H q)⟩
theorem PSs_imp {X : Cx} {st : List Stmt} {t t' : TS} (h : PSs X st t) (f : ∀ D σ H, t' D σ H → t D σ H) : PSs X st t' := ⟨fun pins s σ H D I q => h.run pins s σ H D I (f D σ H q)⟩

/-! ### objects that are frozen -/
def frz : OO → Option D
  | .lst ds => some (.lst ds)
  | .ins C ns ds => some (.ins C ns ds)
  | _ => none
theorem Rl.lay {K : PySem.W.Frag} {c : Cg} {B : Hp} {G H : Hp} {σ : L2.St} {ρ : Rho} {p : Addr} {u : HO} (r : Rl K c B G H σ ρ) (n : New B G σ ρ p) (hu : H p = some u) : Rl K c B (upd G p u) H σ ρ where
  sub := fun a o e => by
    by_cases h : a = p
    · rw [h, upd_same] at e
      rw [h, hu]
      exact e
    · rw [upd_ne h] at e
      exact r.sub a o e
  base := r.base
  ext := r.ext.trans (.new n.1)
  fresh := fun a h => by
    by_cases e : a = p
    · rw [e]
      exact .inr n.2.1
    · rw [upd_ne e] at h
      exact r.fresh a h
  len := r.len
  slots := fun i s e => by
    obtain ⟨v, h1, h2⟩ := r.slots i s e
    refine ⟨v, h1, ?_⟩
    cases s with
    | fz d => exact Rep.mono (.new n.1) h2
    | own o =>
      obtain ⟨q, h3, h4, h5, h6⟩ := h2
      have ne : q ≠ p := fun z => n.2.2 i o e (by rw [h1, h3, z])
      exact ⟨q, h3, by rw [upd_ne ne]; exact h4, h5, h6.mono (.new n.1) rfl⟩
  dist := r.dist
  pin := r.pin
theorem Rl.freeze {K : PySem.W.Frag} {c : Cg} {B : Hp} {G H : Hp} {σ : L2.St} {ρ : Rho} {p : Addr} {o : OO} {d : D} (r : Rl K c B G H σ ρ) (n : New B G σ ρ p) (h : ORep K G H p o) (e : frz o = some d) :
    ∃ G', Sub G G' ∧ Rl K c B G' H σ ρ ∧ Rep K G' d (.ref p) := by
  cases o with
  | lst ds =>
    obtain ⟨vs, hp, rs⟩ := h
    cases e
    exact ⟨_, .new n.1, r.lay n hp, rep_lst upd_same (rs.mono (.new n.1))⟩
  | ins C ns ds =>
    obtain ⟨dx, vfs, hp, hn, rs⟩ := h
    cases e
    refine ⟨_, .new n.1, r.lay n hp, ?_⟩
    unfold Rep
    exact ⟨p, dx, vfs, rfl, upd_same, hn, rs.mono (.new n.1)⟩
  | _ => cases e
theorem Rl.put {K : PySem.W.Frag} {c : Cg} {B : Hp} {G H : Hp} {σ : L2.St} {ρ : Rho} {i : Nat} {d : D} {v : V} (r : Rl K c B G H σ ρ) (hp : ∀ w, c.Pn[i]? ≠ some (some w)) (h : Rep K G d v) : Rl K c B G H (σ.set i (some v)) (ρ.set i (some (.fz d))) where
  sub := r.sub
  base := r.base
  ext := r.ext
  fresh := r.fresh
  len := by rw [List.length_set, List.length_set]; exact r.len
  slots := fun j s e => by
    by_cases hj : i = j
    · subst hj
      have hl : i < ρ.length := by
        have := (List.getElem?_eq_some_iff.mp e).1
        rw [List.length_set] at this
        exact this
      rw [List.getElem?_set_self hl] at e
      cases e
      exact ⟨v, List.getElem?_set_self (by rw [← r.len]; exact hl), h⟩
    · rw [List.getElem?_set_ne hj] at e
      rw [List.getElem?_set_ne hj]
      exact r.slots j s e
  dist := fun a b o o' w hab h1 h2 h3 => by
    have na : i ≠ a := fun z => by
      subst z
      have hl : i < ρ.length := by
        have := (List.getElem?_eq_some_iff.mp h1).1
        rw [List.length_set] at this
        exact this
      rw [List.getElem?_set_self hl] at h1
      cases h1
    have nb : i ≠ b := fun z => by
      subst z
      have hl : i < ρ.length := by
        have := (List.getElem?_eq_some_iff.mp h2).1
        rw [List.length_set] at this
        exact this
      rw [List.getElem?_set_self hl] at h2
      cases h2
    rw [List.getElem?_set_ne na] at h1 h3
    rw [List.getElem?_set_ne nb] at h2 ⊢
    exact r.dist a b o o' w hab h1 h2 h3
  pin := fun j w e => by
    have hj : i ≠ j := fun z => by
      subst z
      exact hp w e
    rw [List.getElem?_set_ne hj]
    exact r.pin j w e
theorem Rl.putN {K : PySem.W.Frag} {c : Cg} {B : Hp} {G H : Hp} {σ : L2.St} {ρ : Rho} {i : Nat} {o : OO} {p : Addr} (r : Rl K c B G H σ ρ) (hp : ∀ w, c.Pn[i]? ≠ some (some w)) (n : New B G σ ρ p) (h : ORep K G H p o) :
    Rl K c B G H (σ.set i (some (.ref p))) (ρ.set i (some (.own o))) where
  sub := r.sub
  base := r.base
  ext := r.ext
  fresh := r.fresh
  len := by rw [List.length_set, List.length_set]; exact r.len
  slots := fun j s e => by
    by_cases hj : i = j
    · subst hj
      have hl : i < ρ.length := by
        have := (List.getElem?_eq_some_iff.mp e).1
        rw [List.length_set] at this
        exact this
      rw [List.getElem?_set_self hl] at e
      cases e
      exact ⟨_, List.getElem?_set_self (by rw [← r.len]; exact hl), p, rfl, n.1, n.2.1, h⟩
    · rw [List.getElem?_set_ne hj] at e
      rw [List.getElem?_set_ne hj]
      exact r.slots j s e
  dist := fun a b o1 o2 w hab h1 h2 h3 => by
    by_cases ha : i = a
    · subst ha
      have hl : i < σ.length := by
        have := (List.getElem?_eq_some_iff.mp h3).1
        rw [List.length_set] at this
        exact this
      rw [List.getElem?_set_self hl] at h3
      cases h3
      rw [List.getElem?_set_ne hab] at h2 ⊢
      exact n.2.2 b o2 h2
    · rw [List.getElem?_set_ne ha] at h1 h3
      by_cases hb : i = b
      · subst hb
        have hl : i < ρ.length := by
          have := (List.getElem?_eq_some_iff.mp h2).1
          rw [List.length_set] at this
          exact this
        rw [List.getElem?_set_self (by rw [← r.len]; exact hl)]
        intro z
        cases z
        exact n.2.2 a o1 h1 h3
      · rw [List.getElem?_set_ne hb] at h2 ⊢
        exact r.dist a b o1 o2 w hab h1 h2 h3
  pin := fun j w e => by
    have hj : i ≠ j := fun z => by
      subst z
      exact hp w e
    rw [List.getElem?_set_ne hj]
    exact r.pin j w e
/-- the own object at slot i is frozen -/
theorem Rl.frzAt {K : PySem.W.Frag} {c : Cg} {B : Hp} {G H : Hp} {σ : L2.St} {ρ : Rho} {i : Nat} {o : OO} {d : D} (r : Rl K c B G H σ ρ) (hi : ρ[i]? = some (some (.own o))) (e : frz o = some d) :
    ∃ G' v, Sub G G' ∧ σ[i]? = some (some v) ∧ Rl K c B G' H σ (ρ.set i (some (.fz d))) ∧ Rep K G' d v := by
  obtain ⟨v, hv, p, rfl, h1, h2, h3⟩ := r.slots i _ hi
  have hl : i < ρ.length := (List.getElem?_eq_some_iff.mp hi).1
  -- the frame without that slot
  have r0 : Rl K c B G H σ (ρ.set i none) := {
    sub := r.sub, base := r.base, ext := r.ext, fresh := r.fresh, len := by rw [List.length_set]; exact r.len
    slots := fun j s q => by
      by_cases hj : i = j
      · subst hj
        rw [List.getElem?_set_self hl] at q
        cases q
      · rw [List.getElem?_set_ne hj] at q
        exact r.slots j s q
    dist := fun a b o1 o2 w hab q1 q2 q3 => by
      have na : i ≠ a := fun z => by
        subst z
        rw [List.getElem?_set_self hl] at q1
        cases q1
      have nb : i ≠ b := fun z => by
        subst z
        rw [List.getElem?_set_self hl] at q2
        cases q2
      rw [List.getElem?_set_ne na] at q1
      rw [List.getElem?_set_ne nb] at q2
      exact r.dist a b o1 o2 w hab q1 q2 q3
    pin := r.pin }
  have n0 : New B G σ (ρ.set i none) p := ⟨h1, h2, fun j o' q z => by
    by_cases hj : i = j
    · subst hj
      rw [List.getElem?_set_self hl] at q
      cases q
    · rw [List.getElem?_set_ne hj] at q
      exact r.dist i j o o' _ hj hi q hv z⟩
  obtain ⟨G', s, r1, rp⟩ := r0.freeze n0 h3 e
  refine ⟨G', .ref p, s, hv, ?_, rp⟩
  exact {
    sub := r1.sub, base := r1.base, ext := r1.ext, fresh := r1.fresh, len := by rw [List.length_set]; exact r.len
    slots := fun j s q => by
      by_cases hj : i = j
      · subst hj
        rw [List.getElem?_set_self hl] at q
        cases q
        exact ⟨_, hv, rp⟩
      · rw [List.getElem?_set_ne hj] at q
        exact r1.slots j s (by rw [List.getElem?_set_ne hj]; exact q)
    dist := fun a b o1 o2 w hab q1 q2 q3 => by
      have na : i ≠ a := fun z => by
        subst z
        rw [List.getElem?_set_self hl] at q1
        cases q1
      have nb : i ≠ b := fun z => by
        subst z
        rw [List.getElem?_set_self hl] at q2
        cases q2
      rw [List.getElem?_set_ne na] at q1
      rw [List.getElem?_set_ne nb] at q2
      exact r.dist a b o1 o2 w hab q1 q2 q3
    pin := r1.pin }

/-! ### names -/
/-- the slot's data; an own object is frozen -/
def rdV (i : Nat) : M D := fun ρ => match ρ[i]? with
  | some (some (.fz d)) => .ok d ρ
  | some (some (.own o)) => (match frz o with
    | some d => .ok d (ρ.set i (some (.fz d)))
    | none => .no)
  | _ => .no
section
variable {X : Cx} {c : Cg} {B : Hp}
theorem pd_var (i : Nat) {x : Str} {pos : Pos} (hN : X.N[i]? = some x := by rfl) (hv : Vis X.env.scope x := by first | exact Or.inl rfl | exact Or.inr (Or.inl rfl) | exact Or.inr (Or.inr rfl)) (hd : (x == ("__debug__" : Str)) = false := by decide)
    (hcd : (x == ("__classdict__" : Str)) = false := by decide) : PE X (.Name x pos) (tD X.K c (rdV i)) := PE_imp (pe_var (i := i) hN hv hd hcd) fun σ H Q h => by
  obtain ⟨B, G, ρ, r, h⟩ := h
  unfold rdV at h
  cases e : ρ[i]? with
  | none => rw [e] at h; exact h.elim
  | some y =>
    rw [e] at h
    cases y with
    | none => exact h.elim
    | some s =>
      cases s with
      | fz d =>
        obtain ⟨v, hv, rv⟩ := r.slots i _ e
        exact ⟨v, hv, h G H (.refl G) r v rv⟩
      | own o =>
        have h : XPost X.K c B σ G (fun d _ G' H' => ∀ v, Rep X.K G' d v → Q v H') (match frz o with
          | some d => .ok d (ρ.set i (some (.fz d)))
          | none => .no) := h
        cases q : frz o with
        | none => rw [q] at h; exact h.elim
        | some d =>
          rw [q] at h
          obtain ⟨G', v, s, hv, r1, rp⟩ := r.frzAt e q
          exact ⟨v, hv, h G' H s r1 v rp⟩
theorem pd_ret {e : Expr} {v : V} {d : D} (he : PE X e (tC v)) (hr : ∀ G, Rep X.K G d v) : PE X e (tD X.K c (ret d)) := PE_imp he fun σ H Q h => by
  obtain ⟨B, G, ρ, r, h⟩ := h
  exact h G H (.refl G) r v (hr G)
theorem pd_int {i j pos} : PE X (.Constant (.int i) j pos) (tD X.K c (ret (.int i))) := pd_ret pe_int fun _ => rep_int
theorem pd_bl {b j pos} : PE X (.Constant (.bool b) j pos) (tD X.K c (ret (.bl b))) := pd_ret pe_bl fun _ => rep_bl
theorem pd_non {j pos} : PE X (.Constant .none j pos) (tD X.K c (ret .non)) := pd_ret pe_non fun _ => rep_non
theorem pd_str {x j pos} : PE X (.Constant (.str x) j pos) (tD X.K c (ret (.str x))) := pd_ret pe_str fun _ => rep_str
/-- a module's constant, a class, a def -/
theorem pd_glob {x : Str} {v : V} {u : Value} {pos : Pos} {d : D} (hg : Gl X x) (hm : X.mg x = some u) (r : RelV v u) (hr : ∀ G, Rep X.K G d v) (hd : (x == ("__debug__" : Str)) = false := by decide) : PE X (.Name x pos) (tD X.K c (ret d)) := pd_ret (pe_glob hg hm r hd) hr
theorem pd_bltn {x : Str} {v : V} {u : Value} {pos : Pos} {d : D} (hg : Gl X x) (hm : X.mg x = none) (hv : bootBuiltins x = some u) (r : RelV v u) (hr : ∀ G, Rep X.K G d v) (hn : x ≠ "__name__" := by decide) (hd : (x == ("__debug__" : Str)) = false := by decide) : PE X (.Name x pos) (tD X.K c (ret d)) := pd_ret (pe_bltn hg hm hv r hn hd) hr

/-! ### operators, by data -/
def rD2 (K : PySem.W.Frag) (g : D → D → Option D) : R2 := fun x y H Q => ∃ G d e z, Sub G H ∧ Rep K G d x ∧ Rep K G e y ∧ g d e = some z ∧ ∀ v G' H', Grow G H G' H' → Rep K G' z v → Q v H'
def rD1 (K : PySem.W.Frag) (g : D → Option D) : V → Hp → VK → Prop := fun x H Q => ∃ G d z, Sub G H ∧ Rep K G d x ∧ g d = some z ∧ ∀ v G' H', Grow G H G' H' → Rep K G' z v → Q v H'
def rDs (K : PySem.W.Frag) (g : List D → Option D) : List V → Hp → VK → Prop := fun xs H Q => ∃ G ds z, Sub G H ∧ Reps K G ds xs ∧ g ds = some z ∧ ∀ v G' H', Grow G H G' H' → Rep K G' z v → Q v H'
abbrev OpD (X : Cx) (f : Value → Value → Sem Value) (g : D → D → Option D) : Prop := OpR X f (rD2 X.K g)
abbrev UnD (X : Cx) (f : Value → Sem Value) (g : D → Option D) : Prop := UnR X f (rD1 X.K g)
abbrev CallD (X : Cx) (f : Value) (g : List D → Option D) : Prop := CallR X f (rDs X.K g)
def m2 (ma mb : M D) (g : D → D → Option D) : M D := bind ma fun x => bind mb fun y => lift (g x y)
def m1 (ma : M D) (g : D → Option D) : M D := bind ma fun x => lift (g x)
variable {a b : Expr} {ma mb : M D} {pos : Pos}
theorem m2_read {g : D → D → Option D} {σ : L2.St} {H : Hp} {Q : VK} (h : tD X.K c (m2 ma mb g) σ H Q) : tOp (rD2 X.K g) (tD X.K c ma) (tD X.K c mb) σ H Q := by
  obtain ⟨B, G, ρ, r, h⟩ := h
  refine ⟨B, G, ρ, r, h.bind.imp fun d ρ1 G1 H1 s1 r1 h1 v rv => ⟨B, G1, ρ1, r1, h1.bind.imp fun e ρ2 G2 H2 s2 r2 h2 w rw => ?_⟩⟩
  obtain ⟨z, hz, k⟩ := h2.lift
  exact ⟨G2, d, e, z, r2.sub, rv.mono s2, rw, hz, fun u G' H' g rz => k G' H' g.gg (r2.grow g) u rz⟩
theorem m1_read {g : D → Option D} {σ : L2.St} {H : Hp} {Q : VK} (h : tD X.K c (m1 ma g) σ H Q) : tUn (rD1 X.K g) (tD X.K c ma) σ H Q := by
  obtain ⟨B, G, ρ, r, h⟩ := h
  refine ⟨B, G, ρ, r, h.bind.imp fun d ρ1 G1 H1 s1 r1 h1 v rv => ?_⟩
  obtain ⟨z, hz, k⟩ := h1.lift
  exact ⟨G1, d, z, r1.sub, rv, hz, fun u G' H' g rz => k G' H' g.gg (r1.grow g) u rz⟩
theorem pd_op {op : Operator} {g : D → D → Option D} (ho : OpD X (binaryOp op) g) (ha : PE X a (tD X.K c ma)) (hb : PE X b (tD X.K c mb)) : PE X (.BinOp a op b pos) (tD X.K c (m2 ma mb g)) :=
  PE_imp (pe_op ho ha hb) fun _ _ _ h => m2_read h
theorem pd_un {op : UnaryOp} {g : D → Option D} (ho : UnD X (unaryOp op) g) (ha : PE X a (tD X.K c ma)) : PE X (.UnaryOp op a pos) (tD X.K c (m1 ma g)) :=
  PE_imp (pe_un ho ha) fun _ _ _ h => m1_read h
theorem pd_cmp {op : CmpOp} {g : D → D → Option D} (ho : OpD X (compareOp op) g) (ha : PE X a (tD X.K c ma)) (hb : PE X b (tD X.K c mb)) (hm : behindInMarks op b = false) : PE X (.Compare a [op] [b] pos) (tD X.K c (m2 ma mb g)) :=
  PE_imp (pe_cmpR ho ha hb hm) fun _ _ _ h => m2_read h
/-- a truth value -/
def asB : D → Option Bool
  | .bl b => some b
  | _ => none
def mB (m : M D) : M Bool := bind m fun d => lift (asB d)
theorem mB_read {m : M D} {σ : L2.St} {H : Hp} {Q : Bool → Hp → Prop} (h : tT X.K c (mB m) σ H Q) : tD X.K c m σ H fun x H' => ∃ k, x = .bl k ∧ Q k H' := by
  obtain ⟨B, G, ρ, r, h⟩ := h
  refine ⟨B, G, ρ, r, h.bind.imp fun d ρ1 G1 H1 s1 r1 h1 v rv => ?_⟩
  obtain ⟨z, hz, k⟩ := h1.lift
  cases d with
  | bl b =>
    cases hz
    unfold Rep at rv
    exact ⟨_, rv, k G1 H1 (.refl G1) r1⟩
  | _ => cases hz
theorem pd_tcmp {op : CmpOp} {g : D → D → Option D} (ho : OpD X (compareOp op) g) (ha : PE X a (tD X.K c ma)) (hb : PE X b (tD X.K c mb)) (hm : behindInMarks op b = false) : PT X (.Compare a [op] [b] pos) (tT X.K c (mB (m2 ma mb g))) :=
  PT_imp (pt_cmpR ho ha hb hm) fun σ H Q h => by
    have q := mB_read h
    exact m2_read q
/-- truth of any value -/
def tru : D → Option Bool
  | .non => some false
  | .bl b => some b
  | .int i => some (i != 0)
  | .str x => if x.length ≤ 16777216 then some (x.length != 0) else none
  | .tup ds => some (!ds.isEmpty)
  | .lst ds => some (!ds.isEmpty)
  | .fl ds => some (!ds.isEmpty)
  | _ => none
theorem isEmpty_reps {K : PySem.W.Frag} {G : Hp} {ds : List D} {vs : List V} (h : Reps K G ds vs) : vs.isEmpty = ds.isEmpty := by
  cases ds with
  | nil => rw [h.nil_inv]; rfl
  | cons d ds => obtain ⟨v, r, rfl, _⟩ := h.cons_inv; rfl
theorem tru_ok {K : PySem.W.Frag} {G H : Hp} {d : D} {v : V} {k : Bool} (s : Sub G H) (r : Rep K G d v) (h : tru d = some k) : TruV K v H k := by
  cases d with
  | non => unfold Rep at r; subst r; cases h; exact rfl
  | bl b => unfold Rep at r; subst r; cases h; exact rfl
  | int i => unfold Rep at r; subst r; cases h; exact rfl
  | str x =>
    unfold Rep at r
    subst r
    have h : (if x.length ≤ 16777216 then some (x.length != 0) else none) = some k := h
    by_cases hl : x.length ≤ 16777216
    · rw [if_pos hl] at h
      have h := Option.some.inj h
      refine ⟨by rw [sizeLine_eq]; exact hl, ?_⟩
      rw [← h]
      by_cases e : x.length = 0
      · rw [e]
        rfl
      · have e2 : (x.length != 0) = true := by simpa using e
        have e3 : ((x.length : Int) != 0) = true := by
          have e4 : (x.length : Int) ≠ 0 := by omega
          simpa using e
        rw [e2, e3]
    · rw [if_neg hl] at h
      cases h
  | tup ds =>
    unfold Rep at r
    obtain ⟨a, vs, rfl, h1, h2⟩ := r
    cases h
    exact .inr (.inl ⟨vs, s.t (tsq h1), by rw [isEmpty_reps h2]⟩)
  | lst ds =>
    unfold Rep at r
    obtain ⟨a, vs, rfl, h1, h2⟩ := r
    cases h
    exact .inl ⟨vs, lsq (s _ _ h1), by rw [isEmpty_reps h2]⟩
  | fl ds =>
    unfold Rep at r
    obtain ⟨a, vs, rfl, h1, h2⟩ := r
    cases h
    exact .inl ⟨vs, s.l h1, by rw [isEmpty_reps h2]⟩
  | _ => cases h
def mT (m : M D) : M Bool := bind m fun d => lift (tru d)
theorem pd_truth (ha : PE X a (tD X.K c ma)) (he : ∀ whole, isTrue a X.env whole = (do let v ← whole; standAt a.pos; holding [v] (truthy v)) := by intro _; rfl) : PT X a (tT X.K c (mT ma)) :=
  PT_imp (pt_truth ha he) fun σ H Q h => by
    obtain ⟨B, G, ρ, r, h⟩ := h
    refine ⟨B, G, ρ, r, h.bind.imp fun d ρ1 G1 H1 s1 r1 h1 v rv => ?_⟩
    obtain ⟨z, hz, k⟩ := h1.lift
    exact ⟨z, tru_ok r1.sub rv hz, k G1 H1 (.refl G1) r1⟩
/-! ### and, or, not, if -/
variable {ta tb : M Bool} {rest : List Expr}
def andM (ta tb : M Bool) : M Bool := bind ta fun k => if k = true then tb else ret false
def orM (ta tb : M Bool) : M Bool := bind ta fun k => if k = true then ret true else tb
def notM (ta : M Bool) : M Bool := bind ta fun k => ret (!k)
def ifM {α : Type} (t : M Bool) (ma mb : M α) : M α := bind t fun k => if k = true then ma else mb
theorem pdw_and1 (ha : PT X a (tT X.K c ta)) : PW X (.BoolOp .And [a] pos) (tT X.K c ta) := pw_and1 ha
theorem pdw_or1 (ha : PT X a (tT X.K c ta)) : PW X (.BoolOp .Or [a] pos) (tT X.K c ta) := pw_or1 ha
theorem pdw_and (ha : PT X a (tT X.K c ta)) (hb : PW X (.BoolOp .And (b :: rest) pos) (tT X.K c tb)) : PW X (.BoolOp .And (a :: b :: rest) pos) (tT X.K c (andM ta tb)) :=
  PW_imp (pw_and ha hb) fun σ H Q h => by
    obtain ⟨B, G, ρ, r, h⟩ := h
    refine ⟨B, G, ρ, r, h.bind.imp fun k ρ1 G1 H1 s1 r1 h1 => ?_⟩
    cases k with
    | true => exact ⟨B, G1, ρ1, r1, h1⟩
    | false => exact h1 G1 H1 (.refl G1) r1
theorem pdw_or (ha : PT X a (tT X.K c ta)) (hb : PW X (.BoolOp .Or (b :: rest) pos) (tT X.K c tb)) : PW X (.BoolOp .Or (a :: b :: rest) pos) (tT X.K c (orM ta tb)) :=
  PW_imp (pw_or ha hb) fun σ H Q h => by
    obtain ⟨B, G, ρ, r, h⟩ := h
    refine ⟨B, G, ρ, r, h.bind.imp fun k ρ1 G1 H1 s1 r1 h1 => ?_⟩
    cases k with
    | true => exact h1 G1 H1 (.refl G1) r1
    | false => exact ⟨B, G1, ρ1, r1, h1⟩
theorem pd_tnot (ha : PT X a (tT X.K c ta)) : PT X (.UnaryOp .Not a pos) (tT X.K c (notM ta)) :=
  PT_imp (pt_not ha) fun σ H Q h => by
    obtain ⟨B, G, ρ, r, h⟩ := h
    exact ⟨B, G, ρ, r, h.bind.imp fun k ρ1 G1 H1 s1 r1 h1 => h1 G1 H1 (.refl G1) r1⟩
theorem pd_ifExp {t : Expr} {mt : M Bool} (ht : PT X t (tT X.K c mt)) (ha : PE X a (tD X.K c ma)) (hb : PE X b (tD X.K c mb)) : PE X (.IfExp t a b pos) (tD X.K c (ifM mt ma mb)) :=
  PE_imp (pe_ifExp ht ha hb) fun σ H Q h => by
    obtain ⟨B, G, ρ, r, h⟩ := h
    refine ⟨B, G, ρ, r, h.bind.imp fun k ρ1 G1 H1 s1 r1 h1 => ?_⟩
    cases k with
    | true => exact ⟨B, G1, ρ1, r1, h1⟩
    | false => exact ⟨B, G1, ρ1, r1, h1⟩
/-- as values: all but the last are truth values -/
def andV (ma mb : M D) : M D := bind (mB ma) fun k => if k = true then mb else ret (.bl false)
def orV (ma mb : M D) : M D := bind (mB ma) fun k => if k = true then ret (.bl true) else mb
def notV (ma : M D) : M D := bind (mB ma) fun k => ret (.bl (!k))
theorem mB_bind {β : Type} {m : M D} {f : Bool → M β} {σ : L2.St} {G : Hp} {P : β → Rho → Hp → Hp → Prop} {ρ : Rho} (h : XPost X.K c B σ G P (bind (mB m) f ρ)) :
    XPost X.K c B σ G (fun d ρ' G' H' => ∃ k, d = .bl k ∧ XPost X.K c B σ G' P (f k ρ')) (m ρ) := by
  have h1 := h.bind
  unfold mB at h1
  refine h1.bind.imp fun d ρ1 G1 H1 s1 r1 h2 => ?_
  obtain ⟨z, hz, k⟩ := h2.lift
  cases d with
  | bl b =>
    cases hz
    exact ⟨_, rfl, k G1 H1 (.refl G1) r1⟩
  | _ => cases hz
theorem pd_one {op} (h : PE X a (tD X.K c ma)) : PE X (.BoolOp op [a] pos) (tD X.K c ma) := pe_one h
theorem pd_and (ha : PE X a (tD X.K c ma)) (hb : PE X (.BoolOp .And (b :: rest) pos) (tD X.K c mb)) : PE X (.BoolOp .And (a :: b :: rest) pos) (tD X.K c (andV ma mb)) :=
  PE_imp (pe_and ha hb) fun σ H Q h => by
    obtain ⟨B, G, ρ, r, h⟩ := h
    refine ⟨B, G, ρ, r, (mB_bind h).imp fun d ρ1 G1 H1 s1 r1 ⟨k, e, h1⟩ v rv => ?_⟩
    subst e
    unfold Rep at rv
    refine ⟨k, rv, ?_⟩
    cases k with
    | true => exact ⟨B, G1, ρ1, r1, h1⟩
    | false => exact h1 G1 H1 (.refl G1) r1 _ rep_bl
theorem pd_or (ha : PE X a (tD X.K c ma)) (hb : PE X (.BoolOp .Or (b :: rest) pos) (tD X.K c mb)) : PE X (.BoolOp .Or (a :: b :: rest) pos) (tD X.K c (orV ma mb)) :=
  PE_imp (pe_or ha hb) fun σ H Q h => by
    obtain ⟨B, G, ρ, r, h⟩ := h
    refine ⟨B, G, ρ, r, (mB_bind h).imp fun d ρ1 G1 H1 s1 r1 ⟨k, e, h1⟩ v rv => ?_⟩
    subst e
    unfold Rep at rv
    refine ⟨k, rv, ?_⟩
    cases k with
    | true => exact h1 G1 H1 (.refl G1) r1 _ rep_bl
    | false => exact ⟨B, G1, ρ1, r1, h1⟩
theorem pd_not (ha : PE X a (tD X.K c ma)) : PE X (.UnaryOp .Not a pos) (tD X.K c (notV ma)) :=
  PE_imp (pe_not ha) fun σ H Q h => by
    obtain ⟨B, G, ρ, r, h⟩ := h
    refine ⟨B, G, ρ, r, (mB_bind h).imp fun d ρ1 G1 H1 s1 r1 ⟨k, e, h1⟩ v rv => ?_⟩
    subst e
    unfold Rep at rv
    exact ⟨k, rv, h1 G1 H1 (.refl G1) r1 _ rep_bl⟩
/-- a test that gives a truth value -/
theorem pd_val (ha : PE X a (tD X.K c ma)) (he : ∀ whole, isTrue a X.env whole = (do let v ← whole; standAt a.pos; holding [v] (truthy v)) := by intro _; rfl) : PT X a (tT X.K c (mB ma)) :=
  PT_imp (pt_val ha he) fun σ H Q h => mB_read h

/-! ### arguments, displays -/
def aNil : M (List Pa) := ret []
def aV (ma : M D) (r : M (List Pa)) : M (List Pa) := bind ma fun d => bind r fun ps => ret (.v d :: ps)
def aS (i : Nat) (r : M (List Pa)) : M (List Pa) := fun ρ => match ρ[i]? with
  | some (some _) => bind r (fun ps => ret (.s i :: ps)) ρ
  | _ => .no
variable {e : Expr} {es : List Expr} {ra : M (List Pa)}
theorem pda_nil : PA X [] (tA X.K c aNil) := PA_imp pa_nil fun σ H Q h => by
  obtain ⟨B, G, ρ, r, h⟩ := h
  exact h G H (.refl G) r [] rfl
theorem pda_v (he : PE X e (tD X.K c ma)) (hr : PA X es (tA X.K c ra)) (hs : starEach (e :: es) X.env = (false, eval e X.env) :: starEach es X.env := by rfl) : PA X (e :: es) (tA X.K c (aV ma ra)) :=
  PA_imp (pa_cons he hr hs) fun σ H Q h => by
    obtain ⟨B, G, ρ, r, h⟩ := h
    exact ⟨B, G, ρ, r, h.bind.imp fun d ρ1 G1 H1 s1 r1 h1 v rv => ⟨B, G1, ρ1, r1, h1.bind.imp fun ps ρ2 G2 H2 s2 r2 h2 vs rvs => h2 G2 H2 (.refl G2) r2 _ ⟨v, vs, rfl, rv.mono s2, rvs⟩⟩⟩
theorem pda_s (i : Nat) {x : Str} {posn : Pos} (hr : PA X es (tA X.K c ra)) (hN : X.N[i]? = some x := by rfl) (hv : Vis X.env.scope x := by first | exact Or.inl rfl | exact Or.inr (Or.inl rfl) | exact Or.inr (Or.inr rfl)) (hd : (x == ("__debug__" : Str)) = false := by decide)
    (hcd : (x == ("__classdict__" : Str)) = false := by decide) (hs : starEach (.Name x posn :: es) X.env = (false, eval (.Name x posn) X.env) :: starEach es X.env := by rfl) : PA X (.Name x posn :: es) (tA X.K c (aS i ra)) :=
  PA_imp (pa_cons (pe_var (i := i) hN hv hd hcd) hr hs) fun σ H Q h => by
    obtain ⟨B, G, ρ, r, h⟩ := h
    unfold aS at h
    cases e : ρ[i]? with
    | none => rw [e] at h; exact h.elim
    | some y =>
      rw [e] at h
      cases y with
      | none => exact h.elim
      | some s =>
        obtain ⟨v, hv, _⟩ := r.slots i _ e
        have h : XPost X.K c B σ G (fun ps _ G' H' => ∀ vs, PasRep X.K G' σ ps vs → Q vs H') (bind ra (fun ps => ret (.s i :: ps)) ρ) := h
        exact ⟨v, hv, B, G, ρ, r, h.bind.imp fun ps ρ2 G2 H2 s2 r2 h2 vs rvs => h2 G2 H2 (.refl G2) r2 _ ⟨v, vs, rfl, hv, rvs⟩⟩
/-- data alone -/
def datas : List Pa → Option (List D)
  | [] => some []
  | .v d :: r => (datas r).map (d :: ·)
  | .s _ :: _ => none
theorem datas_reps {K : PySem.W.Frag} {G : Hp} {σ : L2.St} : ∀ {ps : List Pa} {ds : List D} {vs : List V}, datas ps = some ds → PasRep K G σ ps vs → Reps K G ds vs
  | [], ds, vs, h, r => by
    cases h
    have e : vs = [] := r
    rw [e]
    exact .nil
  | .v d :: ps, ds, vs, h, r => by
    obtain ⟨x, xs, rfl, r1, r2⟩ := r
    unfold datas at h
    cases q : datas ps with
    | none => rw [q] at h; cases h
    | some es =>
      rw [q] at h
      cases h
      exact .cons r1 (datas_reps q r2)
  | .s i :: ps, ds, vs, h, r => by cases h
def mAs (ra : M (List Pa)) : M (List D) := bind ra fun ps => lift (datas ps)
theorem mAs_read {β : Type} {f : List D → M β} {σ : L2.St} {G : Hp} {P : β → Rho → Hp → Hp → Prop} {ρ : Rho} (h : XPost X.K c B σ G P (bind (mAs ra) f ρ)) :
    XPost X.K c B σ G (fun ps ρ' G' H' => ∃ ds, datas ps = some ds ∧ XPost X.K c B σ G' P (f ds ρ')) (ra ρ) := by
  have h1 := h.bind
  unfold mAs at h1
  refine h1.bind.imp fun ps ρ1 G1 H1 s1 r1 h2 => ?_
  obtain ⟨z, hz, k⟩ := h2.lift
  exact ⟨z, hz, k G1 H1 (.refl G1) r1⟩
/-- (a, b, ..) -/
def tupM (ra : M (List Pa)) : M D := bind (mAs ra) fun ds => lift (if ds.length ≤ 16777216 then some (.tup ds) else none)
def lstM (ra : M (List Pa)) : M OO := bind (mAs ra) fun ds => lift (if ds.length ≤ 16777216 then some (.lst ds) else none)
theorem pd_tup {x1} (h : PA X es (tA X.K c ra)) : PE X (.Tuple es x1 pos) (tD X.K c (tupM ra)) := PE_imp (pe_tup h) fun σ H Q h => by
  obtain ⟨B, G, ρ, r, h⟩ := h
  refine ⟨B, G, ρ, r, (mAs_read h).imp fun ps ρ1 G1 H1 s1 r1 ⟨ds, e, h1⟩ vs rvs => ?_⟩
  obtain ⟨z, hz, k⟩ := h1.lift
  have rs := datas_reps e rvs
  by_cases hl : ds.length ≤ 16777216
  · rw [if_pos hl] at hz
    cases hz
    refine ⟨by rw [rs.length, sizeLine_eq]; exact hl, fun p hp => ?_⟩
    have g := Grow.new (o := .tup vs) r1.sub hp
    exact k _ _ g.gg (r1.grow g) _ (rep_tup upd_same (rs.mono g.gg))
  · rw [if_neg hl] at hz
    cases hz
theorem Rl.newOf {K : PySem.W.Frag} {G H : Hp} {σ : L2.St} {ρ : Rho} {p : Addr} {o : HO} (r : Rl K c B G H σ ρ) (hp : H p = none) : Rl K c B G (upd H p o) σ ρ ∧ New B G σ ρ p := by
  refine ⟨r.grow (.newH r.sub hp), r.sub.free hp, r.base.free hp, fun i o' e z => ?_⟩
  obtain ⟨v, h1, q, h2, _, _, h5⟩ := r.slots i _ e
  rw [h1] at z
  cases z
  cases h2
  obtain ⟨u, hu⟩ := h5.some
  rw [hp] at hu
  cases hu
theorem pdn_lst (h : PA X es (tA X.K c ra)) : PE X (.List es pos) (tN X.K c (lstM ra)) := PE_imp (pe_lst h) fun σ H Q h => by
  obtain ⟨B, G, ρ, r, h⟩ := h
  refine ⟨B, G, ρ, r, (mAs_read h).imp fun ps ρ1 G1 H1 s1 r1 ⟨ds, e, h1⟩ vs rvs => ?_⟩
  obtain ⟨z, hz, k⟩ := h1.lift
  have rs := datas_reps e rvs
  by_cases hl : ds.length ≤ 16777216
  · rw [if_pos hl] at hz
    cases hz
    refine ⟨by rw [rs.length, sizeLine_eq]; exact hl, fun p hp => ?_⟩
    obtain ⟨r2, n⟩ := r1.newOf (o := .lst vs) hp
    exact k _ _ (.refl _) r2 p n ⟨vs, upd_same, rs⟩
  · rw [if_neg hl] at hz
    cases hz
/-- a new object, frozen at once -/
def fzM (m : M OO) : M D := bind m fun o => lift (frz o)
theorem pd_fz {m : M OO} (h : PE X a (tN X.K c m)) : PE X a (tD X.K c (fzM m)) := PE_imp h fun σ H Q h => by
  obtain ⟨B, G, ρ, r, h⟩ := h
  refine ⟨B, G, ρ, r, h.bind.imp fun o ρ1 G1 H1 s1 r1 h1 p n ro => ?_⟩
  obtain ⟨d, hd, k⟩ := h1.lift
  obtain ⟨G2, s2, r2, rp⟩ := r1.freeze n ro hd
  exact k G2 H1 s2 r2 _ rp
/-! ### built-in functions -/
def mC (ra : M (List Pa)) (g : List D → Option D) : M D := bind (mAs ra) fun ds => lift (g ds)
theorem mC_read {g : List D → Option D} {σ : L2.St} {H : Hp} {Q : VK} (h : tD X.K c (mC ra g) σ H Q) : tCB (rDs X.K g) (tA X.K c ra) σ H Q := by
  obtain ⟨B, G, ρ, r, h⟩ := h
  refine ⟨B, G, ρ, r, (mAs_read h).imp fun ps ρ1 G1 H1 s1 r1 ⟨ds, e, h1⟩ vs rvs => ?_⟩
  obtain ⟨z, hz, k⟩ := h1.lift
  exact ⟨G1, ds, z, r1.sub, datas_reps e rvs, hz, fun u G' H' g rz => k G' H' g.gg (r1.grow g) u rz⟩
theorem pd_callB {id : String} {x : Str} {p : Pos} {g : List D → Option D} (hc : CallD X (.builtin id) g) (hg : Gl X x) (hm : X.mg x = none) (hv : bootBuiltins x = some (.builtin id)) (ha : PA X (e :: es) (tA X.K c ra)) (hn : x ≠ "__name__" := by decide) (hdb : (x == ("__debug__" : Str)) = false := by decide)
    (he : starEach (e :: es) X.env = (false, eval e X.env) :: starEach es X.env := by rfl) (hpl : (backTo pos (starEach es X.env)).any (·.1) = false := by rfl) : PE X (.Call (.Name x p) (e :: es) [] pos) (tD X.K c (mC ra g)) :=
  PE_imp (pe_callB hc hg hm hv ha hn hdb he hpl) fun _ _ _ h => mC_read h
theorem pd_callTy {T : String} {x : Str} {p : Pos} {g : List D → Option D} (hc : CallD X (.type T) g) (hg : Gl X x) (hm : X.mg x = none) (hv : bootBuiltins x = some (.type T)) (ha : PA X (e :: es) (tA X.K c ra)) (hn : x ≠ "__name__" := by decide) (hdb : (x == ("__debug__" : Str)) = false := by decide)
    (he : starEach (e :: es) X.env = (false, eval e X.env) :: starEach es X.env := by rfl) (hpl : (backTo pos (starEach es X.env)).any (·.1) = false := by rfl) : PE X (.Call (.Name x p) (e :: es) [] pos) (tD X.K c (mC ra g)) :=
  PE_imp (pe_callTy hc hg hm hv ha hn hdb he hpl) fun _ _ _ h => mC_read h
end
end Dn

set_option Elab.async false
set_option linter.all false
set_option maxRecDepth 100000
set_option maxHeartbeats 4000000
/-! Dn3: operators and built-in functions, by data. -/
namespace Dn
open PySem PySem.Spec PyProof.Rows L2

/-! ### numbers -/
abbrev ib (i : Int) : Nat := Builtin.Int.intBits i
/-- two factors of together at most 2 ^ 27 bits -/
abbrev mulOk (i j : Int) : Prop := (ib i : Int) + (ib j : Int) ≤ 134217728
abbrev divOk (j : Int) : Prop := j ≠ 0 ∧ j.natAbs.log2 < 9000
abbrev powOk (i j : Int) : Prop := 0 ≤ j ∧ (ib i : Int) * j ≤ 2 ^ 27
abbrev szOk (n : Nat) : Prop := n ≤ 16777216
def dAdd : D → D → Option D
  | .int i, .int j => some (.int (i + j))
  | .str x, .str y => if szOk (x.length + y.length) then some (.str (x ++ y)) else none
  | .lst a, .lst b => if szOk (a.length + b.length) then some (.lst (a ++ b)) else none
  | .tup a, .tup b => if szOk (a.length + b.length) then some (.tup (a ++ b)) else none
  | _, _ => none
def dSub : D → D → Option D
  | .int i, .int j => some (.int (i - j))
  | _, _ => none
def dMul : D → D → Option D
  | .int i, .int j => if mulOk i j then some (.int (i * j)) else none
  | .lst a, .int k => if 0 ≤ k ∧ k ≤ 1000000 ∧ szOk (a.length * k.toNat) then some (.lst (List.replicate k.toNat a).flatten) else none
  | .tup a, .int k => if a ≠ [] ∧ 2 ≤ k ∧ k ≤ 1000 ∧ a.length ≤ 1000 then some (.tup (List.replicate k.toNat a).flatten) else none
  | _, _ => none
def dFdiv : D → D → Option D
  | .int i, .int j => if divOk j then some (.int (i.fdiv j)) else none
  | _, _ => none
def dMod : D → D → Option D
  | .int i, .int j => if j ≠ 0 then some (.int (i.fmod j)) else none
  | _, _ => none
def dPow : D → D → Option D
  | .int i, .int j => if powOk i j then some (.int (i ^ j.toNat)) else none
  | _, _ => none
def dShl : D → D → Option D
  | .int i, .int j => if 0 ≤ j ∧ (ib i : Int) + j ≤ 2 ^ 27 then some (.int (i * 2 ^ j.toNat)) else none
  | _, _ => none
def dCmp (p : Int → Int → Bool) : D → D → Option D
  | .int i, .int j => some (.bl (p i j))
  | _, _ => none
abbrev dLt := dCmp fun i j => decide (i < j)
abbrev dLe := dCmp fun i j => decide (i ≤ j)
abbrev dGt := dCmp fun i j => decide (j < i)
abbrev dGe := dCmp fun i j => decide (j ≤ i)
def dNeg : D → Option D
  | .int i => some (.int (-i))
  | _ => none
theorem repInt {K : PySem.W.Frag} {G : Hp} {i : Int} {v : V} (h : Rep K G (.int i) v) : v = .int i := by unfold Rep at h; exact h
theorem repStr {K : PySem.W.Frag} {G : Hp} {i : Str} {v : V} (h : Rep K G (.str i) v) : v = .str i := by unfold Rep at h; exact h
theorem repBl {K : PySem.W.Frag} {G : Hp} {i : Bool} {v : V} (h : Rep K G (.bl i) v) : v = .bl i := by unfold Rep at h; exact h
theorem repTy {K : PySem.W.Frag} {G : Hp} {i : String} {v : V} (h : Rep K G (.ty i) v) : v = .ty i := by unfold Rep at h; exact h
theorem repTup {K : PySem.W.Frag} {G : Hp} {ds : List D} {v : V} (h : Rep K G (.tup ds) v) : ∃ a vs, v = .ref a ∧ G a = some (.tup vs) ∧ Reps K G ds vs := by unfold Rep at h; exact h
theorem repKt {K : PySem.W.Frag} {G : Hp} {ds : List D} {v : V} (h : Rep K G (.kt ds) v) : ∃ a vs, v = .ref a ∧ SqT K G a vs ∧ Reps K G ds vs := by unfold Rep at h; exact h
theorem repLst {K : PySem.W.Frag} {G : Hp} {ds : List D} {v : V} (h : Rep K G (.lst ds) v) : ∃ a vs, v = .ref a ∧ G a = some (.lst vs) ∧ Reps K G ds vs := by unfold Rep at h; exact h
theorem repFl {K : PySem.W.Frag} {G : Hp} {ds : List D} {v : V} (h : Rep K G (.fl ds) v) : ∃ a vs, v = .ref a ∧ SqL K G a vs ∧ Reps K G ds vs := by unfold Rep at h; exact h
/-- sequences that are read -/
def items : D → Option (List D)
  | .tup ds => some ds
  | .kt ds => some ds
  | .lst ds => some ds
  | .fl ds => some ds
  | _ => none
theorem items_rep {K : PySem.W.Frag} {G : Hp} {d : D} {ds : List D} {v : V} (e : items d = some ds) (h : Rep K G d v) : ∃ a vs, v = .ref a ∧ (SqL K G a vs ∨ SqT K G a vs) ∧ Reps K G ds vs := by
  cases d with
  | tup es => cases e; obtain ⟨a, vs, h1, h2, h3⟩ := repTup h; exact ⟨a, vs, h1, .inr (tsq h2), h3⟩
  | kt es => cases e; obtain ⟨a, vs, h1, h2, h3⟩ := repKt h; exact ⟨a, vs, h1, .inr h2, h3⟩
  | lst es => cases e; obtain ⟨a, vs, h1, h2, h3⟩ := repLst h; exact ⟨a, vs, h1, .inl (lsq h2), h3⟩
  | fl es => cases e; obtain ⟨a, vs, h1, h2, h3⟩ := repFl h; exact ⟨a, vs, h1, .inl h2, h3⟩
  | _ => cases e
theorem Reps.flat {K : PySem.W.Frag} {G : Hp} {ds : List D} {vs : List V} (h : Reps K G ds vs) : ∀ k : Nat, Reps K G (List.replicate k ds).flatten (List.replicate k vs).flatten
  | 0 => .nil
  | k + 1 => by
    rw [List.replicate_succ, List.replicate_succ, List.flatten_cons, List.flatten_cons]
    exact h.append (Reps.flat h k)
section
variable {X : Cx}
/-- an int answer -/
theorem out {Q : VK} {K : PySem.W.Frag} {G H : Hp} {z : D} {v : V} (s : Sub G H) (r : Rep K G z v) (k : ∀ v G' H', Grow G H G' H' → Rep K G' z v → Q v H') : Q v H := k v G H (.refl s) r
theorem od_add : OpD X (binaryOp .Add) dAdd := by
  intro pins s σ H x y v u Q I rx ry h
  obtain ⟨G, d, e, z, sb, h1, h2, hz, k⟩ := h
  cases d with
  | int i => cases e with
    | int j =>
      cases hz
      exact op_add pins s σ H x y v u Q I rx ry ⟨i, j, repInt h1, repInt h2, out sb rep_int k⟩
    | _ => cases hz
  | str i => cases e with
    | str j =>
      have hz : (if szOk (i.length + j.length) then some (D.str (i ++ j)) else none) = some z := hz
      by_cases hl : szOk (i.length + j.length)
      · rw [if_pos hl] at hz
        cases hz
        exact op_add_str pins s σ H x y v u Q I rx ry ⟨i, j, repStr h1, repStr h2, by rw [sizeLine_eq]; exact hl, out sb rep_str k⟩
      · rw [if_neg hl] at hz
        cases hz
    | _ => cases hz
  | lst i => cases e with
    | lst j =>
      have hz : (if szOk (i.length + j.length) then some (D.lst (i ++ j)) else none) = some z := hz
      by_cases hl : szOk (i.length + j.length)
      · rw [if_pos hl] at hz
        cases hz
        obtain ⟨a, vs, e1, e2, e3⟩ := repLst h1
        obtain ⟨b, ws, f1, f2, f3⟩ := repLst h2
        refine op_cat pins s σ H x y v u Q I rx ry ⟨a, b, vs, ws, e1, f1, sb _ _ e2, sb _ _ f2, by rw [e3.length, f3.length, sizeLine_eq]; exact hl, fun p hp => ?_⟩
        have g := Grow.new (o := .lst (vs ++ ws)) sb hp
        exact k _ _ _ g (rep_lst upd_same ((e3.append f3).mono g.gg))
      · rw [if_neg hl] at hz
        cases hz
    | _ => cases hz
  | tup i => cases e with
    | tup j =>
      have hz : (if szOk (i.length + j.length) then some (D.tup (i ++ j)) else none) = some z := hz
      by_cases hl : szOk (i.length + j.length)
      · rw [if_pos hl] at hz
        cases hz
        obtain ⟨a, vs, e1, e2, e3⟩ := repTup h1
        obtain ⟨b, ws, f1, f2, f3⟩ := repTup h2
        refine op_catA pins s σ H x y v u Q I rx ry ⟨a, b, vs, ws, e1, f1, sb.t (tsq e2), sb.t (tsq f2), by rw [e3.length, f3.length, sizeLine_eq]; exact hl, fun n => ?_, fun n n2 => ?_, fun n n2 p hp => ?_⟩
        · refine out sb ?_ k
          have l := e3.length
          rw [n] at l
          have : i = [] := List.eq_nil_of_length_eq_zero l.symm
          rw [this]
          exact rep_tup f2 f3
        · refine out sb ?_ k
          have l := f3.length
          rw [n2] at l
          have : j = [] := List.eq_nil_of_length_eq_zero l.symm
          rw [this, List.append_nil]
          exact rep_tup e2 e3
        · have g := Grow.new (o := .tup (vs ++ ws)) sb hp
          exact k _ _ _ g (rep_tup upd_same ((e3.append f3).mono g.gg))
      · rw [if_neg hl] at hz
        cases hz
    | _ => cases hz
  | _ => cases e <;> cases hz

/-- an operator on two ints under a condition -/
theorem int2 {C : Int → Int → Prop} {g : Int → Int → D} {f : D → D → Option D} {op : Value → Value → Sem Value} (hf : ∀ d e z, f d e = some z → ∃ i j, d = .int i ∧ e = .int j ∧ C i j ∧ z = g i j)
    {r : Int → Int → V} (hr : ∀ G i j, Rep X.K G (g i j) (r i j)) (h : OpR X op (rI C r)) : OpD X op f := by
  intro pins s σ H x y v u Q I rx ry q
  obtain ⟨G, d, e, z, sb, h1, h2, hz, k⟩ := q
  obtain ⟨i, j, rfl, rfl, hc, rfl⟩ := hf d e z hz
  exact h pins s σ H x y v u Q I rx ry ⟨i, j, repInt h1, repInt h2, hc, out sb (hr G i j) k⟩
theorem ite_some {α : Type} {c : Prop} [Decidable c] {a z : α} (h : (if c then some a else none) = some z) : c ∧ z = a := by
  by_cases q : c
  · rw [if_pos q] at h
    exact ⟨q, (Option.some.inj h).symm⟩
  · rw [if_neg q] at h
    cases h
theorem od_sub : OpD X (binaryOp .Sub) dSub := by
  refine int2 (C := fun _ _ => True) (g := fun i j => .int (i - j)) (r := fun i j => .int (i - j)) ?_ (fun _ _ _ => rep_int) (opI fun _ _ _ _ _ _ _ _ q => sub_int q)
  intro d e z h
  cases d with
  | int i => cases e with
    | int j => cases h; exact ⟨i, j, rfl, rfl, trivial, rfl⟩
    | _ => cases h
  | _ => cases e <;> cases h
theorem mulOk.ok {i j : Int} (h : mulOk i j) : IntMulOk i j := CMulX.ok h
theorem od_mul : OpD X (binaryOp .Mult) dMul := by
  intro pins s σ H x y v u Q I rx ry h
  obtain ⟨G, d, e, z, sb, h1, h2, hz, k⟩ := h
  cases d with
  | int i => cases e with
    | int j =>
      obtain ⟨hc, rfl⟩ := ite_some (show (if mulOk i j then some (D.int (i * j)) else none) = some z from hz)
      exact op_mulX pins s σ H x y v u Q I rx ry ⟨i, j, repInt h1, repInt h2, hc, out sb rep_int k⟩
    | _ => cases hz
  | lst i => cases e with
    | int j =>
      obtain ⟨hc, rfl⟩ := ite_some (show (if 0 ≤ j ∧ j ≤ 1000000 ∧ szOk (i.length * j.toNat) then some (D.lst (List.replicate j.toNat i).flatten) else none) = some z from hz)
      obtain ⟨a, vs, e1, e2, e3⟩ := repLst h1
      refine op_rep pins s σ H x y v u Q I rx ry ⟨a, j, vs, e1, repInt h2, sb _ _ e2, by omega, by omega, by rw [e3.length, sizeLine_eq]; exact hc.2.2, fun p hp => ?_⟩
      have g := Grow.new (o := .lst (List.replicate j.toNat vs).flatten) sb hp
      exact k _ _ _ g (rep_lst upd_same ((e3.flat _).mono g.gg))
    | _ => cases hz
  | tup i => cases e with
    | int j =>
      obtain ⟨hc, rfl⟩ := ite_some (show (if i ≠ [] ∧ 2 ≤ j ∧ j ≤ 1000 ∧ i.length ≤ 1000 then some (D.tup (List.replicate j.toNat i).flatten) else none) = some z from hz)
      obtain ⟨a, vs, e1, e2, e3⟩ := repTup h1
      refine op_repT pins s σ H x y v u Q I rx ry ⟨a, j, vs, e1, repInt h2, sb.t (tsq e2), fun n => hc.1 ?_, hc.2.1, hc.2.2.1, by rw [e3.length]; exact hc.2.2.2, fun p hp => ?_⟩
      · have l := e3.length
        rw [n] at l
        exact List.eq_nil_of_length_eq_zero l.symm
      · have g := Grow.new (o := .tup (List.replicate j.toNat vs).flatten) sb hp
        exact k _ _ _ g (rep_tup upd_same ((e3.flat _).mono g.gg))
    | _ => cases hz
  | _ => cases e <;> cases hz
theorem od_fdiv : OpD X (binaryOp .FloorDiv) dFdiv := by
  refine int2 (C := fun _ j => divOk j) (g := fun i j => .int (i.fdiv j)) (r := fun i j => .int (i.fdiv j)) ?_ (fun _ _ _ => rep_int) (opI fun _ _ _ _ _ _ _ hc q => floordiv_int hc.1 q (.inl (PyProof.noPylong_of_log2 hc.2)))
  intro d e z h
  cases d with
  | int i => cases e with
    | int j =>
      obtain ⟨hc, rfl⟩ := ite_some (show (if divOk j then some (D.int (i.fdiv j)) else none) = some z from h)
      exact ⟨i, j, rfl, rfl, hc, rfl⟩
    | _ => cases h
  | _ => cases e <;> cases h
theorem od_mod : OpD X (binaryOp .Mod) dMod := by
  refine int2 (C := fun _ j => j ≠ 0) (g := fun i j => .int (i.fmod j)) (r := fun i j => .int (i.fmod j)) ?_ (fun _ _ _ => rep_int) op_modN
  intro d e z h
  cases d with
  | int i => cases e with
    | int j =>
      obtain ⟨hc, rfl⟩ := ite_some (show (if j ≠ 0 then some (D.int (i.fmod j)) else none) = some z from h)
      exact ⟨i, j, rfl, rfl, hc, rfl⟩
    | _ => cases h
  | _ => cases e <;> cases h
theorem od_pow : OpD X (binaryOp .Pow) dPow := by
  refine int2 (C := powOk) (g := fun i j => .int (i ^ j.toNat)) (r := fun i j => .int (i ^ j.toNat)) ?_ (fun _ _ _ => rep_int) (opI fun _ _ _ _ _ _ _ hc q => pow_int hc.1 hc.2 q)
  intro d e z h
  cases d with
  | int i => cases e with
    | int j =>
      obtain ⟨hc, rfl⟩ := ite_some (show (if powOk i j then some (D.int (i ^ j.toNat)) else none) = some z from h)
      exact ⟨i, j, rfl, rfl, hc, rfl⟩
    | _ => cases h
  | _ => cases e <;> cases h
theorem od_shl : OpD X (binaryOp .LShift) dShl := by
  refine int2 (C := fun i j => 0 ≤ j ∧ (ib i : Int) + j ≤ 2 ^ 27) (g := fun i j => .int (i * 2 ^ j.toNat)) (r := fun i j => .int (i * 2 ^ j.toNat)) ?_ (fun _ _ _ => rep_int) (opI fun _ _ _ _ _ _ _ hc q => lshift_int hc.1 hc.2 q)
  intro d e z h
  cases d with
  | int i => cases e with
    | int j =>
      obtain ⟨hc, rfl⟩ := ite_some (show (if 0 ≤ j ∧ (ib i : Int) + j ≤ 2 ^ 27 then some (D.int (i * 2 ^ j.toNat)) else none) = some z from h)
      exact ⟨i, j, rfl, rfl, hc, rfl⟩
    | _ => cases h
  | _ => cases e <;> cases h
theorem cmp_inv {p : Int → Int → Bool} : ∀ d e z, dCmp p d e = some z → ∃ i j, d = .int i ∧ e = .int j ∧ True ∧ z = .bl (p i j) := by
  intro d e z h
  cases d with
  | int i => cases e with
    | int j => cases h; exact ⟨i, j, rfl, rfl, trivial, rfl⟩
    | _ => cases h
  | _ => cases e <;> cases h
theorem rI_of {op : Value → Value → Sem Value} {g : Int → Int → V} (h : OpR X op (rI0 g)) : OpR X op (rI (fun _ _ => True) g) := by
  intro pins s σ H x y v u Q I rx ry ⟨i, j, e1, e2, _, q⟩
  exact h pins s σ H x y v u Q I rx ry ⟨i, j, e1, e2, q⟩
theorem od_lt : OpD X (compareOp .Lt) dLt := int2 cmp_inv (fun _ _ _ => rep_bl) (rI_of op_lt)
theorem od_le : OpD X (compareOp .LtE) dLe := int2 cmp_inv (fun _ _ _ => rep_bl) (rI_of op_le)
theorem od_gt : OpD X (compareOp .Gt) dGt := int2 cmp_inv (fun _ _ _ => rep_bl) (rI_of op_gt)
theorem od_ge : OpD X (compareOp .GtE) dGe := int2 cmp_inv (fun _ _ _ => rep_bl) (rI_of op_ge)
theorem ud_neg : UnD X (unaryOp .USub) dNeg := by
  intro pins s σ H x v Q I rx h
  obtain ⟨G, d, z, sb, h1, hz, k⟩ := h
  cases d with
  | int i => cases hz; exact un_neg pins s σ H x v Q I rx ⟨i, repInt h1, out sb rep_int k⟩
  | _ => cases hz
/-- is None -/
def isN : D → Bool
  | .non => true
  | _ => false
def dIs : D → D → Option D
  | d, .non => some (.bl (isN d))
  | _, _ => none
def dIsNot : D → D → Option D
  | d, .non => some (.bl (!isN d))
  | _, _ => none
theorem isN_rep {K : PySem.W.Frag} {G : Hp} {d : D} {v : V} (h : Rep K G d v) : decide (v = .non) = isN d := by
  cases d with
  | non => unfold Rep at h; rw [h]; rfl
  | bl => unfold Rep at h; rw [h]; rfl
  | int => unfold Rep at h; rw [h]; rfl
  | str => unfold Rep at h; rw [h]; rfl
  | ty => unfold Rep at h; rw [h]; rfl
  | adr => unfold Rep at h; rw [h]; rfl
  | tup => obtain ⟨_, _, h, _⟩ := repTup h; rw [h]; rfl
  | kt => obtain ⟨_, _, h, _⟩ := repKt h; rw [h]; rfl
  | lst => obtain ⟨_, _, h, _⟩ := repLst h; rw [h]; rfl
  | fl => obtain ⟨_, _, h, _⟩ := repFl h; rw [h]; rfl
  | ins => unfold Rep at h; obtain ⟨_, _, _, h, _⟩ := h; rw [h]; rfl
theorem od_is : OpD X (compareOp .Is) dIs := by
  intro pins s σ H x y v u Q I rx ry h
  obtain ⟨G, d, e, z, sb, h1, h2, hz, k⟩ := h
  cases e with
  | non =>
    cases hz
    unfold Rep at h2
    exact op_isN pins s σ H x y v u Q I rx ry ⟨h2, by rw [isN_rep h1]; exact out sb rep_bl k⟩
  | _ => cases hz
theorem od_isnot : OpD X (compareOp .IsNot) dIsNot := by
  intro pins s σ H x y v u Q I rx ry h
  obtain ⟨G, d, e, z, sb, h1, h2, hz, k⟩ := h
  cases e with
  | non =>
    cases hz
    unfold Rep at h2
    exact op_notN pins s σ H x y v u Q I rx ry ⟨h2, by rw [isN_rep h1]; exact out sb rep_bl k⟩
  | _ => cases hz

/-! ### == and != of data -/
end
mutual
/-- == -/
def deq : D → D → Bool
  | .non, .non => true
  | .bl a, .bl b => a == b
  | .bl a, .int j => (if a then 1 else 0) == j
  | .int i, .bl b => i == (if b then 1 else 0)
  | .int i, .int j => i == j
  | .str x, .str y => x == y
  | .lst a, .lst b => deqs a b
  | .tup a, .tup b => deqs a b
  | _, _ => false
def deqs : List D → List D → Bool
  | [], [] => true
  | x :: xs, y :: ys => deq x y && deqs xs ys
  | _, _ => false
end
mutual
/-- data alone, to a depth -/
def okD : Nat → D → Bool
  | _, .non => true
  | _, .bl _ => true
  | _, .int _ => true
  | _, .str x => PyData.strOk x
  | 0, .lst _ => false
  | n + 1, .lst a => okDs n a
  | 0, .tup _ => false
  | n + 1, .tup a => okDs n a
  | _, .fl _ => false
  | _, .kt _ => false
  | _, .ty _ => false
  | _, .adr _ => false
  | _, .ins _ _ _ => false
def okDs : Nat → List D → Bool
  | _, [] => true
  | n, x :: xs => okD n x && okDs n xs
end

mutual
def toPd : D → PyData
  | .non => .none
  | .bl b => .bool b
  | .int i => .int i
  | .str x => .str x
  | .lst a => .list (toPds a)
  | .tup a => .tuple (toPds a)
  | _ => .none
def toPds : List D → List PyData
  | [] => []
  | x :: xs => toPd x :: toPds xs
end
mutual
theorem toPd_ok : ∀ (n : Nat) (d : D), okD n d = true → (toPd d).canLay0 = true ∧ (toPd d).depth ≤ n
  | _, .non, _ => by simp [toPd, PyData.canLay0, PyData.depth]
  | _, .bl _, _ => by simp [toPd, PyData.canLay0, PyData.depth]
  | _, .int _, _ => by simp [toPd, PyData.canLay0, PyData.depth]
  | n, .str x, h => by
    simp only [okD] at h
    simp [toPd, PyData.canLay0, PyData.depth, h]
  | n + 1, .lst a, h => by
    simp only [okD] at h
    obtain ⟨h1, h2⟩ := toPds_ok n a h
    simp only [toPd, PyData.canLay0, PyData.depth]
    exact ⟨h1, by omega⟩
  | n + 1, .tup a, h => by
    simp only [okD] at h
    obtain ⟨h1, h2⟩ := toPds_ok n a h
    simp only [toPd, PyData.canLay0, PyData.depth]
    exact ⟨h1, by omega⟩
  | 0, .lst a, h => by simp [okD] at h
  | 0, .tup a, h => by simp [okD] at h
  | _, .fl _, h => by simp [okD] at h
  | _, .kt _, h => by simp [okD] at h
  | _, .ty _, h => by simp [okD] at h
  | _, .adr _, h => by simp [okD] at h
  | _, .ins _ _ _, h => by simp [okD] at h
theorem toPds_ok : ∀ (n : Nat) (ds : List D), okDs n ds = true → PyData.canLayAll0 (toPds ds) = true ∧ PyData.depthAll (toPds ds) ≤ n
  | n, [], _ => by simp [toPds, PyData.canLayAll0, PyData.depthAll]
  | n, d :: ds, h => by
    simp only [okDs, Bool.and_eq_true] at h
    obtain ⟨h1, h2⟩ := toPd_ok n d h.1
    obtain ⟨h3, h4⟩ := toPds_ok n ds h.2
    simp only [toPds, PyData.canLayAll0, PyData.depthAll, Bool.and_eq_true]
    exact ⟨⟨h1, h3⟩, Nat.max_le.mpr ⟨h2, h4⟩⟩
end
mutual
theorem toPd_dp {K : PySem.W.Frag} {G H : Hp} (s : Sub G H) : ∀ (n : Nat) (d : D) (v : V), okD n d = true → Rep K G d v → Dp K H v (toPd d)
  | _, .non, v, _, r => by
    unfold Rep at r
    subst r
    exact .non
  | _, .bl b, v, _, r => by
    rw [repBl r]
    exact .bl b
  | _, .int i, v, _, r => by
    rw [repInt r]
    exact .int i
  | _, .str x, v, _, r => by
    rw [repStr r]
    exact .str x
  | n + 1, .lst a, v, h, r => by
    simp only [okD] at h
    obtain ⟨p, vs, rfl, h1, h2⟩ := repLst r
    exact .lst (lsq (s _ _ h1)) (toPds_dp s n a vs h h2)
  | n + 1, .tup a, v, h, r => by
    simp only [okD] at h
    obtain ⟨p, vs, rfl, h1, h2⟩ := repTup r
    exact .tup (s.t (tsq h1)) (toPds_dp s n a vs h h2)
  | 0, .lst a, _, h, _ => by simp [okD] at h
  | 0, .tup a, _, h, _ => by simp [okD] at h
  | _, .fl _, _, h, _ => by simp [okD] at h
  | _, .kt _, _, h, _ => by simp [okD] at h
  | _, .ty _, _, h, _ => by simp [okD] at h
  | _, .adr _, _, h, _ => by simp [okD] at h
  | _, .ins _ _ _, _, h, _ => by simp [okD] at h
theorem toPds_dp {K : PySem.W.Frag} {G H : Hp} (s : Sub G H) : ∀ (n : Nat) (ds : List D) (vs : List V), okDs n ds = true → Reps K G ds vs → DpAll K H vs (toPds ds)
  | n, [], vs, _, r => by
    rw [r.nil_inv]
    exact .nil
  | n, d :: ds, vs, h, r => by
    simp only [okDs, Bool.and_eq_true] at h
    obtain ⟨v, w, rfl, r1, r2⟩ := r.cons_inv
    exact .cons (toPd_dp s n d v h.1 r1) (toPds_dp s n ds w h.2 r2)
end
mutual
theorem eqv_deq : ∀ (n m : Nat) (d e : D), okD n d = true → okD m e = true → PyData.eqv (toPd d) (toPd e) = deq d e
  | n, m, d, e, h, h' => by
    cases d with
    | non => cases e <;> first | (simp [okD] at h'; done) | simp [toPd, PyData.eqv, deq]
    | bl b => cases e <;> first | (simp [okD] at h'; done) | simp [toPd, PyData.eqv, deq]
    | int i => cases e <;> first | (simp [okD] at h'; done) | simp [toPd, PyData.eqv, deq]
    | str x => cases e <;> first | (simp [okD] at h'; done) | simp [toPd, PyData.eqv, deq]
    | lst a => cases n with
      | zero => simp [okD] at h
      | succ n => cases e with
        | lst b => cases m with
          | zero => simp [okD] at h'
          | succ m =>
            simp only [okD] at h h'
            simp only [toPd, PyData.eqv, deq]
            exact eqvs_deqs n m a b h h'
        | _ => first | (simp [okD] at h'; done) | simp [toPd, PyData.eqv, deq]
    | tup a => cases n with
      | zero => simp [okD] at h
      | succ n => cases e with
        | tup b => cases m with
          | zero => simp [okD] at h'
          | succ m =>
            simp only [okD] at h h'
            simp only [toPd, PyData.eqv, deq]
            exact eqvs_deqs n m a b h h'
        | _ => first | (simp [okD] at h'; done) | simp [toPd, PyData.eqv, deq]
    | _ => simp [okD] at h
  termination_by n m d => sizeOf d
theorem eqvs_deqs : ∀ (n m : Nat) (ds es : List D), okDs n ds = true → okDs m es = true → PyData.eqvAll (toPds ds) (toPds es) = deqs ds es
  | n, m, ds, es, h, h' => by
    cases ds with
    | nil => cases es <;> simp [toPds, PyData.eqvAll, deqs]
    | cons d ds => cases es with
      | nil => simp [toPds, PyData.eqvAll, deqs]
      | cons e es =>
        simp only [okDs, Bool.and_eq_true] at h h'
        simp only [toPds, PyData.eqvAll, deqs]
        rw [eqv_deq n m d e h.1 h'.1, eqvs_deqs n m ds es h.2 h'.2]
  termination_by n m ds => sizeOf ds
end
def eqOk (d e : D) : Bool := okD 60 d && okD 60 e
def dEq (d e : D) : Option D := if eqOk d e = true then some (.bl (deq d e)) else none
def dNe (d e : D) : Option D := if eqOk d e = true then some (.bl (!deq d e)) else none
section
variable {X : Cx}
theorem od_eq (hu : X.A.units + 64 < cLine) : OpD X (compareOp .Eq) dEq := by
  intro pins s σ H x y v u Q I rx ry h
  obtain ⟨G, d, e, z, sb, h1, h2, hz, k⟩ := h
  obtain ⟨hc, rfl⟩ := ite_some hz
  obtain ⟨c1, c2⟩ := Bool.and_eq_true_iff.mp hc
  obtain ⟨p1, p2⟩ := toPd_ok 60 d c1
  obtain ⟨q1, q2⟩ := toPd_ok 60 e c2
  refine op_eqD hu pins s σ H x y v u Q I rx ry ⟨toPd d, toPd e, toPd_dp sb 60 d x c1 h1, toPd_dp sb 60 e y c2 h2, ?_, ?_, ?_⟩
  · unfold SeqAt.shaped
    rw [p1, decide_eq_true (by omega)]
    rfl
  · unfold SeqAt.shaped
    rw [q1, decide_eq_true (by omega)]
    rfl
  · rw [eqv_deq 60 60 d e c1 c2]
    exact out sb rep_bl k
theorem od_ne (hu : X.A.units + 64 < cLine) : OpD X (compareOp .NotEq) dNe := by
  intro pins s σ H x y v u Q I rx ry h
  obtain ⟨G, d, e, z, sb, h1, h2, hz, k⟩ := h
  obtain ⟨hc, rfl⟩ := ite_some hz
  obtain ⟨c1, c2⟩ := Bool.and_eq_true_iff.mp hc
  obtain ⟨p1, p2⟩ := toPd_ok 60 d c1
  obtain ⟨q1, q2⟩ := toPd_ok 60 e c2
  refine op_neD hu pins s σ H x y v u Q I rx ry ⟨toPd d, toPd e, toPd_dp sb 60 d x c1 h1, toPd_dp sb 60 e y c2 h2, ?_, ?_, ?_⟩
  · unfold SeqAt.shaped
    rw [p1, decide_eq_true (by omega)]
    rfl
  · unfold SeqAt.shaped
    rw [q1, decide_eq_true (by omega)]
    rfl
  · rw [eqv_deq 60 60 d e c1 c2]
    exact out sb rep_bl k

/-! ### in, not in: flat things -/
def flatD : D → Bool
  | .non => true
  | .bl _ => true
  | .int _ => true
  | .str _ => true
  | _ => false
def toFl : D → V
  | .bl b => .bl b
  | .int i => .int i
  | .str x => .str x
  | _ => .non
theorem flat_rep {K : PySem.W.Frag} {G : Hp} {d : D} {v : V} (f : flatD d = true) (h : Rep K G d v) : v = toFl d ∧ flatV v = true := by
  cases d with
  | non => unfold Rep at h; subst h; exact ⟨rfl, rfl⟩
  | bl b => rw [repBl h]; exact ⟨rfl, rfl⟩
  | int b => rw [repInt h]; exact ⟨rfl, rfl⟩
  | str b => rw [repStr h]; exact ⟨rfl, rfl⟩
  | _ => cases f
theorem flats_rep {K : PySem.W.Frag} {G : Hp} : ∀ {ds : List D} {vs : List V}, ds.all flatD = true → Reps K G ds vs → vs = ds.map toFl ∧ vs.all flatV = true
  | [], vs, _, r => by rw [r.nil_inv]; exact ⟨rfl, rfl⟩
  | d :: ds, vs, h, r => by
    obtain ⟨v, w, rfl, r1, r2⟩ := r.cons_inv
    rw [List.all_cons, Bool.and_eq_true] at h
    obtain ⟨e1, e2⟩ := flat_rep h.1 r1
    obtain ⟨e3, e4⟩ := flats_rep h.2 r2
    refine ⟨by rw [e1, e3]; rfl, by rw [List.all_cons, e2, e4]; rfl⟩
theorem eqV_deq {d e : D} (f : flatD d = true) (g : flatD e = true) : eqV (toFl d) (toFl e) = deq d e := by
  cases d <;> first | (cases f; done) | (cases e <;> first | (cases g; done) | simp [toFl, eqV, deq])
def inD (x : D) (ds : List D) : Bool := ds.any fun y => deq y x
theorem inV_inD {x : D} (f : flatD x = true) : ∀ {ds : List D}, ds.all flatD = true → inV (toFl x) (ds.map toFl) = inD x ds
  | [], _ => rfl
  | d :: ds, h => by
    rw [List.all_cons, Bool.and_eq_true] at h
    have q := inV_inD f h.2
    unfold inV inD at q ⊢
    rw [List.map_cons, List.any_cons, List.any_cons, q, eqV_deq h.1 f]
def dInG (neg : Bool) (d e : D) : Option D := match items e with
  | some ds => if (flatD d && ds.all flatD) = true then some (.bl (if neg then !inD d ds else inD d ds)) else none
  | none => none
abbrev dIn := dInG false
abbrev dNotIn := dInG true
theorem dInG_read {neg : Bool} {x y : V} {H : Hp} {Q : VK} (h : rD2 X.K (dInG neg) x y H Q) : rIn X.K neg x y H Q := by
  obtain ⟨G, d, e, z, sb, h1, h2, hz, k⟩ := h
  unfold dInG at hz
  cases q : items e with
  | none => rw [q] at hz; cases hz
  | some ds =>
    rw [q] at hz
    obtain ⟨hc, rfl⟩ := ite_some hz
    obtain ⟨c1, c2⟩ := Bool.and_eq_true_iff.mp hc
    obtain ⟨a, vs, rfl, hs, rs⟩ := items_rep q h2
    obtain ⟨e1, f1⟩ := flat_rep c1 h1
    obtain ⟨e2, f2⟩ := flats_rep c2 rs
    refine ⟨a, vs, rfl, hs.imp (fun z => sb.l z) (fun z => sb.t z), f1, f2, ?_⟩
    rw [e1, e2, inV_inD c1 c2]
    exact out sb rep_bl k
theorem od_in : OpD X (compareOp .In) dIn := fun pins s σ H x y v u Q I rx ry h => op_in_seq pins s σ H x y v u Q I rx ry (dInG_read h)
theorem od_notIn : OpD X (compareOp .NotIn) dNotIn := fun pins s σ H x y v u Q I rx ry h => op_notIn_seq pins s σ H x y v u Q I rx ry (dInG_read h)
end
end Dn

set_option Elab.async false
set_option linter.all false
set_option maxRecDepth 100000
set_option maxHeartbeats 4000000
/-! Dn4: built-in functions, subscripts, slices, by data. -/
namespace Dn
open PySem PySem.Spec PyProof.Rows L2

/-! ### functions of data -/
def dLen : List D → Option D
  | [.str x] => if szOk x.length then some (.int x.length) else none
  | [d] => (items d).map fun ds => .int ds.length
  | _ => none
def dAbs : List D → Option D
  | [.int i] => some (.int (if i < 0 then -i else i))
  | _ => none
def dInt : List D → Option D
  | [.int i] => some (.int i)
  | [.bl b] => some (.int (if b then 1 else 0))
  | _ => none
def dBool : List D → Option D
  | [.int i] => some (.bl (i != 0))
  | [.bl b] => some (.bl b)
  | _ => none
def dTuple : List D → Option D
  | [.kt _] => none
  | [d] => (items d).map .tup
  | _ => none
def oList : List D → Option OO
  | [d] => (items d).map .lst
  | _ => none
def ints? : List D → Option (List Int)
  | [] => some []
  | .int i :: r => (ints? r).map (i :: ·)
  | _ :: _ => none
def bls? : List D → Option (List Bool)
  | [] => some []
  | .bl i :: r => (bls? r).map (i :: ·)
  | _ :: _ => none
def dSum : List D → Option D
  | [.lst ds] => (ints? ds).map fun ns => .int ns.sum
  | _ => none
def dAll : List D → Option D
  | [.lst ds] => (bls? ds).map fun ns => .bl (ns.all id)
  | _ => none
def dAny : List D → Option D
  | [.lst ds] => (bls? ds).map fun ns => .bl (ns.any id)
  | _ => none
def dGcd : List D → Option D
  | [.int a, .int b] => some (.int (Nat.gcd a.natAbs b.natAbs : Nat))
  | _ => none
def dIsqrt : List D → Option D
  | [.int a] => if 0 ≤ a ∧ a.toNat.log2 < 13000 then some (.int (Float64.isqrt a.toNat : Nat)) else none
  | _ => none
/-- a value's built-in class -/
def tyNm : D → String
  | .non => "NoneType"
  | .bl _ => "bool"
  | .int _ => "int"
  | .str _ => "str"
  | .tup _ => "tuple"
  | .lst _ => "list"
  | .fl _ => "list"
  | _ => ""
def isPlain : D → Bool
  | .ty _ => false
  | .kt _ => false
  | .adr _ => false
  | .ins _ _ _ => false
  | _ => true
def isTy (d : D) (n : String) : Option Bool := if isPlain d = true then kitB (tyNm d) n else none
def dIsi : List D → Option D
  | [d, .ty n] => (isTy d n).map .bl
  | _ => none
def isTys (d : D) : List String → Option Bool
  | [] => some false
  | n :: r => match isTy d n with
    | some true => some true
    | some false => isTys d r
    | none => none
theorem ints?_map : ∀ ns : List Int, ints? (ns.map D.int) = some ns
  | [] => rfl
  | n :: ns => by
    show (ints? (ns.map D.int)).map (n :: ·) = _
    rw [ints?_map ns]
    rfl
theorem ints?_eq : ∀ {ds : List D} {ns : List Int}, ints? ds = some ns → ds = ns.map D.int
  | [], ns, h => by cases h; rfl
  | .int i :: r, ns, h => by
    have h : (ints? r).map (i :: ·) = some ns := h
    cases q : ints? r with
    | none => rw [q] at h; cases h
    | some ms =>
      rw [q] at h
      cases h
      rw [ints?_eq q]
      rfl
  | .non :: r, ns, h => by cases h
  | .bl _ :: r, ns, h => by cases h
  | .str _ :: r, ns, h => by cases h
  | .ty _ :: r, ns, h => by cases h
  | .adr _ :: r, ns, h => by cases h
  | .tup _ :: r, ns, h => by cases h
  | .lst _ :: r, ns, h => by cases h
  | .fl _ :: r, ns, h => by cases h
  | .ins _ _ _ :: r, ns, h => by cases h
theorem bls?_map : ∀ ns : List Bool, bls? (ns.map D.bl) = some ns
  | [] => rfl
  | n :: ns => by
    show (bls? (ns.map D.bl)).map (n :: ·) = _
    rw [bls?_map ns]
    rfl
theorem bls?_eq : ∀ {ds : List D} {ns : List Bool}, bls? ds = some ns → ds = ns.map D.bl
  | [], ns, h => by cases h; rfl
  | .bl i :: r, ns, h => by
    have h : (bls? r).map (i :: ·) = some ns := h
    cases q : bls? r with
    | none => rw [q] at h; cases h
    | some ms =>
      rw [q] at h
      cases h
      rw [bls?_eq q]
      rfl
  | .non :: r, ns, h => by cases h
  | .int _ :: r, ns, h => by cases h
  | .str _ :: r, ns, h => by cases h
  | .ty _ :: r, ns, h => by cases h
  | .adr _ :: r, ns, h => by cases h
  | .tup _ :: r, ns, h => by cases h
  | .lst _ :: r, ns, h => by cases h
  | .fl _ :: r, ns, h => by cases h
  | .ins _ _ _ :: r, ns, h => by cases h
theorem Reps.bls {K : PySem.W.Frag} {G : Hp} : ∀ {ns : List Bool} {vs : List V}, Reps K G (ns.map D.bl) vs → vs = ns.map V.bl
  | [], vs, h => h.nil_inv
  | n :: ns, vs, h => by
    obtain ⟨v, r, rfl, h2, h3⟩ := Reps.cons_inv (ds := ns.map D.bl) (d := .bl n) h
    rw [repBl h2, Reps.bls h3]
    rfl
theorem reps1 {K : PySem.W.Frag} {G : Hp} {d : D} {vs : List V} (h : Reps K G [d] vs) : ∃ v, vs = [v] ∧ Rep K G d v := by
  obtain ⟨v, r, rfl, h1, h2⟩ := h.cons_inv
  rw [h2.nil_inv]
  exact ⟨v, rfl, h1⟩
theorem reps2 {K : PySem.W.Frag} {G : Hp} {d e : D} {vs : List V} (h : Reps K G [d, e] vs) : ∃ v w, vs = [v, w] ∧ Rep K G d v ∧ Rep K G e w := by
  obtain ⟨v, r, rfl, h1, h2⟩ := h.cons_inv
  obtain ⟨w, rfl, h3⟩ := reps1 h2
  exact ⟨v, w, rfl, h1, h3⟩
theorem tyx_of {K : PySem.W.Frag} {G H : Hp} {d : D} {v : V} (s : Sub G H) (p : isPlain d = true) (h : Rep K G d v) : TyX K H v (.type (tyNm d)) := by
  cases d with
  | non => unfold Rep at h; subst h; exact .base .non
  | bl b => rw [repBl h]; exact .base (.bl b)
  | int b => rw [repInt h]; exact .base (.int b)
  | str b => rw [repStr h]; exact .base (.str b)
  | lst ds => obtain ⟨a, vs, rfl, h1, _⟩ := repLst h; exact .base (.lst (s _ _ h1))
  | tup ds =>
    obtain ⟨a, vs, rfl, h1, _⟩ := repTup h
    rcases s.t (tsq h1) with (h2 | ⟨o, h2⟩) | ⟨o, its, n, h2, h3, _⟩
    · exact .base (.tup h2)
    · exact .fTuple h2
    · exact .kTuple h2 h3
  | fl ds =>
    obtain ⟨a, vs, rfl, h1, _⟩ := repFl h
    rcases s.l h1 with (h2 | ⟨o, h2⟩) | ⟨o, its, n, h2, h3, _⟩
    · exact .base (.lst h2)
    · exact .base (.frz h2)
    · exact .kList h2 h3
  | _ => cases p
section
variable {X : Cx}
theorem cd_len : CallD X (.builtin "len") dLen := by
  intro pins s σ H xs us Q I r h
  obtain ⟨G, ds, z, sb, rs, hz, k⟩ := h
  have main : ∀ (d : D) (es : List D), ds = [d] → items d = some es → z = .int es.length → wpAny (model X.prog X.w) X.A (PySem.call (.builtin "len") us) (EP X pins σ Q) X.xe s := by
    intro d es e1 e2 e3
    subst e1 e3
    obtain ⟨v, rfl, rv⟩ := reps1 rs
    obtain ⟨a, vs, rfl, hs, hr⟩ := items_rep e2 rv
    refine call_len_seq pins s σ H _ us Q I r ⟨a, vs, rfl, hs.imp (fun z => sb.l z) (fun z => sb.t z), ?_⟩
    rw [hr.length]
    exact out sb rep_int k
  cases ds with
  | nil => cases hz
  | cons d r0 => cases r0 with
    | cons _ _ => cases d <;> cases hz
    | nil =>
      cases d with
      | str x =>
        obtain ⟨hc, rfl⟩ := ite_some (show (if szOk x.length then some (D.int x.length) else none) = some z from hz)
        obtain ⟨v, rfl, rv⟩ := reps1 rs
        exact call_len_str pins s σ H _ us Q I r ⟨x, by rw [repStr rv], by rw [sizeLine_eq]; exact hc, out sb rep_int k⟩
      | tup es => exact main _ es rfl rfl (Option.some.inj hz).symm
      | lst es => exact main _ es rfl rfl (Option.some.inj hz).symm
      | fl es => exact main _ es rfl rfl (Option.some.inj hz).symm
      | kt es => exact main _ es rfl rfl (Option.some.inj hz).symm
      | _ => cases hz
theorem cd_abs : CallD X (.builtin "abs") dAbs := by
  intro pins s σ H xs us Q I r h
  obtain ⟨G, ds, z, sb, rs, hz, k⟩ := h
  unfold dAbs at hz
  split at hz
  · cases hz
    obtain ⟨v, rfl, rv⟩ := reps1 rs
    exact call_abs pins s σ H _ us Q I r ⟨_, by rw [repInt rv], out sb rep_int k⟩
  · cases hz
theorem cd_int : CallD X (.type "int") dInt := by
  intro pins s σ H xs us Q I r h
  obtain ⟨G, ds, z, sb, rs, hz, k⟩ := h
  unfold dInt at hz
  split at hz
  · cases hz
    obtain ⟨v, rfl, rv⟩ := reps1 rs
    exact call_int1 pins s σ H _ us Q I r (.inl ⟨_, by rw [repInt rv], out sb rep_int k⟩)
  · cases hz
    obtain ⟨v, rfl, rv⟩ := reps1 rs
    exact call_int1 pins s σ H _ us Q I r (.inr ⟨_, by rw [repBl rv], out sb rep_int k⟩)
  · cases hz
theorem cd_bool : CallD X (.type "bool") dBool := by
  intro pins s σ H xs us Q I r h
  obtain ⟨G, ds, z, sb, rs, hz, k⟩ := h
  unfold dBool at hz
  split at hz
  · cases hz
    obtain ⟨v, rfl, rv⟩ := reps1 rs
    exact call_bool1 pins s σ H _ us Q I r (.inl ⟨_, by rw [repInt rv], out sb rep_bl k⟩)
  · cases hz
    obtain ⟨v, rfl, rv⟩ := reps1 rs
    exact call_bool1 pins s σ H _ us Q I r (.inr ⟨_, by rw [repBl rv], out sb rep_bl k⟩)
  · cases hz
theorem cd_tuple : CallD X (.type "tuple") dTuple := by
  intro pins s σ H xs us Q I r h
  obtain ⟨G, ds, z, sb, rs, hz, k⟩ := h
  have main : ∀ (d : D) (es : List D), ds = [d] → items d = some es → z = .tup es → (∀ l, d ≠ .kt l) → wpAny (model X.prog X.w) X.A (call (.type "tuple") us) (EP X pins σ Q) X.xe s := by
    intro d es e1 e2 e3 e4
    subst e1 e3
    obtain ⟨v, rfl, rv⟩ := reps1 rs
    cases d with
    | tup l =>
      cases e2
      obtain ⟨a, vs, rfl, hs, hr⟩ := repTup rv
      exact call_tuple_of pins s σ H _ us Q I r ⟨a, vs, rfl, .inr ⟨sb.t (tsq hs), out sb (rep_tup hs hr) k⟩⟩
    | kt l => exact absurd rfl (e4 l)
    | lst l =>
      cases e2
      obtain ⟨a, vs, rfl, hs, hr⟩ := repLst rv
      refine call_tuple_of pins s σ H _ us Q I r ⟨a, vs, rfl, .inl ⟨sb.l (lsq hs), fun p hp => ?_⟩⟩
      have g := Grow.new (o := .tup vs) sb hp
      exact k _ _ _ g (rep_tup upd_same (hr.mono g.gg))
    | fl l =>
      cases e2
      obtain ⟨a, vs, rfl, hs, hr⟩ := repFl rv
      refine call_tuple_of pins s σ H _ us Q I r ⟨a, vs, rfl, .inl ⟨sb.l hs, fun p hp => ?_⟩⟩
      have g := Grow.new (o := .tup vs) sb hp
      exact k _ _ _ g (rep_tup upd_same (hr.mono g.gg))
    | _ => cases e2
  match ds, hz with
  | [.tup l], hz => exact main _ l rfl rfl (Option.some.inj hz).symm (fun l z => nomatch z)
  | [.lst l], hz => exact main _ l rfl rfl (Option.some.inj hz).symm (fun l z => nomatch z)
  | [.fl l], hz => exact main _ l rfl rfl (Option.some.inj hz).symm (fun l z => nomatch z)
  | [.kt l], hz => cases hz
  | [.non], hz => cases hz
  | [.bl _], hz => cases hz
  | [.int _], hz => cases hz
  | [.str _], hz => cases hz
  | [.ty _], hz => cases hz
  | [.adr _], hz => cases hz
  | [.ins _ _ _], hz => cases hz
  | [], hz => cases hz
  | d :: _ :: _, hz => cases d <;> cases hz
/-- a call that makes a new object of one's own -/
def rNs (K : PySem.W.Frag) (g : List D → Option OO) : List V → Hp → VK → Prop := fun xs H Q => ∃ G ds z, Sub G H ∧ Reps K G ds xs ∧ g ds = some z ∧ ∀ p u, H p = none → ORep K G (upd H p u) p z → Q (.ref p) (upd H p u)
theorem cn_list : CallR X (.type "list") (rNs X.K oList) := by
  intro pins s σ H xs us Q I r h
  obtain ⟨G, ds, z, sb, rs, hz, k⟩ := h
  unfold oList at hz
  split at hz
  · rename_i d
    cases q : items d with
    | none => rw [q] at hz; cases hz
    | some es =>
      rw [q] at hz
      cases hz
      obtain ⟨v, rfl, rv⟩ := reps1 rs
      obtain ⟨a, vs, rfl, hs, hr⟩ := items_rep q rv
      refine call_list_of pins s σ H _ us Q I r ⟨a, vs, rfl, hs.imp (fun z => sb.l z) (fun z => sb.t z), fun p hp => ?_⟩
      exact k p _ hp ⟨vs, upd_same, hr⟩
  · cases hz
theorem cd_sum (hc : X.calm = true) : CallD X (.builtin "sum") dSum := by
  intro pins s σ H xs us Q I r h
  obtain ⟨G, ds, z, sb, rs, hz, k⟩ := h
  unfold dSum at hz
  split at hz
  · rename_i es
    cases q : ints? es with
    | none => rw [q] at hz; cases hz
    | some ns =>
      rw [q] at hz
      cases hz
      obtain ⟨v, rfl, rv⟩ := reps1 rs
      obtain ⟨a, vs, rfl, hs, hr⟩ := repLst rv
      rw [ints?_eq q] at hr
      have e := hr.ints_inv
      subst e
      exact cr_sum hc pins s σ H _ us Q I r ⟨a, ns, rfl, lsq (sb _ _ hs), out sb rep_int k⟩
  · cases hz
theorem cd_all (hc : X.calm = true) : CallD X (.builtin "all") dAll := by
  intro pins s σ H xs us Q I r h
  obtain ⟨G, ds, z, sb, rs, hz, k⟩ := h
  unfold dAll at hz
  split at hz
  · rename_i es
    cases q : bls? es with
    | none => rw [q] at hz; cases hz
    | some ns =>
      rw [q] at hz
      cases hz
      obtain ⟨v, rfl, rv⟩ := reps1 rs
      obtain ⟨a, vs, rfl, hs, hr⟩ := repLst rv
      rw [bls?_eq q] at hr
      have e := hr.bls
      subst e
      exact cr_all hc pins s σ H _ us Q I r ⟨a, ns, rfl, lsq (sb _ _ hs), out sb rep_bl k⟩
  · cases hz
theorem cd_any (hc : X.calm = true) : CallD X (.builtin "any") dAny := by
  intro pins s σ H xs us Q I r h
  obtain ⟨G, ds, z, sb, rs, hz, k⟩ := h
  unfold dAny at hz
  split at hz
  · rename_i es
    cases q : bls? es with
    | none => rw [q] at hz; cases hz
    | some ns =>
      rw [q] at hz
      cases hz
      obtain ⟨v, rfl, rv⟩ := reps1 rs
      obtain ⟨a, vs, rfl, hs, hr⟩ := repLst rv
      rw [bls?_eq q] at hr
      have e := hr.bls
      subst e
      exact cr_any hc pins s σ H _ us Q I r ⟨a, ns, rfl, lsq (sb _ _ hs), out sb rep_bl k⟩
  · cases hz
theorem cd_gcd : CallD X (.builtin "math.gcd") dGcd := by
  intro pins s σ H xs us Q I r h
  obtain ⟨G, ds, z, sb, rs, hz, k⟩ := h
  unfold dGcd at hz
  split at hz
  · cases hz
    obtain ⟨v, w, rfl, rv, rw'⟩ := reps2 rs
    exact cr_gcd pins s σ H _ us Q I r ⟨_, _, by rw [repInt rv, repInt rw'], out sb rep_int k⟩
  · cases hz
theorem cr_isqrt : CallR X (.builtin "math.isqrt") (fun vs H Q => ∃ a : Int, vs = [.int a] ∧ (0 ≤ a ∧ a.toNat.log2 < 13000) ∧ Q (.int (Float64.isqrt a.toNat : Nat)) H) := by
  intro pins s σ H vs us Q I r h
  obtain ⟨a, rfl, hc, q⟩ := h
  obtain ⟨u, rfl, t, rfl⟩ := vals1 r
  exact call_function_meets PySem.W.MGF.kind_isqrt PySem.W.MGF.plain_isqrt PySem.W.MGF.entry_isqrt (PySem.W.MGF.args_isqrt _) (PySem.W.mg_run_isqrt a t (by omega) (by omega) (by omega)).meets ⟨.int _, H, I.tok _, ⟨_, rfl⟩, q⟩
theorem cd_isqrt : CallD X (.builtin "math.isqrt") dIsqrt := by
  intro pins s σ H xs us Q I r h
  obtain ⟨G, ds, z, sb, rs, hz, k⟩ := h
  unfold dIsqrt at hz
  split at hz
  · obtain ⟨hc, rfl⟩ := ite_some hz
    obtain ⟨v, rfl, rv⟩ := reps1 rs
    exact cr_isqrt pins s σ H _ us Q I r ⟨_, by rw [repInt rv], hc, out sb rep_int k⟩
  · cases hz
theorem cd_isi : CallD X (.builtin "isinstance") dIsi := by
  intro pins s σ H xs us Q I r h
  obtain ⟨G, ds, z, sb, rs, hz, k⟩ := h
  unfold dIsi at hz
  split at hz
  · rename_i d n
    unfold isTy at hz
    by_cases p : isPlain d = true
    · rw [if_pos p] at hz
      cases q : kitB (tyNm d) n with
      | none => rw [q] at hz; cases hz
      | some b =>
        rw [q] at hz
        cases hz
        obtain ⟨v, w, rfl, rv, rw'⟩ := reps2 rs
        exact call_isi pins s σ H _ us Q I r ⟨v, w, _, _, b, rfl, by rw [repTy rw']; exact .ty n, tyx_of sb p rv, kit_ty q, out sb rep_bl k⟩
    · rw [if_neg p] at hz
      cases hz
  · cases hz
variable {c : Cg} {B : Hp} {a b e : Expr} {es : List Expr} {ma mb : M D} {ra : M (List Pa)} {pos : Pos}
/-- a built-in function that the module has by an import -/
theorem pd_callF {id : String} {x : Str} {p : Pos} {g : List D → Option D} (hc : CallD X (.builtin id) g) (hg : Gl X x) (hm : X.mg x = some (.builtin id)) (ha : PA X (e :: es) (tA X.K c ra)) (hdb : (x == ("__debug__" : Str)) = false := by decide)
    (he : starEach (e :: es) X.env = (false, eval e X.env) :: starEach es X.env := by rfl) (hpl : (backTo pos (starEach es X.env)).any (·.1) = false := by rfl) : PE X (.Call (.Name x p) (e :: es) [] pos) (tD X.K c (mC ra g)) :=
  PE_imp (pe_callBfun hc hg hm ha hdb he hpl) fun _ _ _ h => mC_read h
def mNs (ra : M (List Pa)) (g : List D → Option OO) : M OO := bind (mAs ra) fun ds => lift (g ds)
theorem mNs_read {g : List D → Option OO} {σ : L2.St} {H : Hp} {Q : VK} (h : tN X.K c (mNs ra g) σ H Q) : tCB (rNs X.K g) (tA X.K c ra) σ H Q := by
  obtain ⟨B, G, ρ, r, h⟩ := h
  refine ⟨B, G, ρ, r, (mAs_read h).imp fun ps ρ1 G1 H1 s1 r1 ⟨ds, e, h1⟩ vs rvs => ?_⟩
  obtain ⟨z, hz, k⟩ := h1.lift
  refine ⟨G1, ds, z, r1.sub, datas_reps e rvs, hz, fun p u hp ho => ?_⟩
  obtain ⟨r2, n⟩ := r1.newOf (o := u) hp
  exact k _ _ (.refl _) r2 p n ho
theorem pdn_list {x : Str} {p : Pos} (hg : Gl X x) (hm : X.mg x = none) (hv : bootBuiltins x = some (.type "list")) (ha : PA X (e :: es) (tA X.K c ra)) (hn : x ≠ "__name__" := by decide) (hdb : (x == ("__debug__" : Str)) = false := by decide)
    (he : starEach (e :: es) X.env = (false, eval e X.env) :: starEach es X.env := by rfl) (hpl : (backTo pos (starEach es X.env)).any (·.1) = false := by rfl) : PE X (.Call (.Name x p) (e :: es) [] pos) (tN X.K c (mNs ra oList)) :=
  PE_imp (pe_callTy cn_list hg hm hv ha hn hdb he hpl) fun _ _ _ h => mNs_read h
/-- isinstance(x, (A, B)) of built-in classes -/
def mIsT (ma : M D) (ns : List String) : M D := bind ma fun d => lift ((isTys d ns).map .bl)
theorem kit_tys {K : PySem.W.Frag} {d : D} : ∀ {ns : List String} {b : Bool}, isPlain d = true → isTys d ns = some b → PySem.W.kitAny K (.type (tyNm d)) (ns.map Value.type) = some b
  | [], b, _, h => by cases h; exact kitAny_nil
  | n :: r, b, p, h => by
    unfold isTys at h
    have e : isTy d n = kitB (tyNm d) n := by unfold isTy; rw [if_pos p]
    rw [e] at h
    cases q : kitB (tyNm d) n with
    | none => rw [q] at h; cases h
    | some k =>
      rw [q] at h
      cases k with
      | true =>
        cases h
        exact kitAny_cons (kit_ty q) (fun z => nomatch z) fun _ => rfl
      | false => exact kitAny_cons (kit_ty q) (fun _ => kit_tys p h) fun z => nomatch z
theorem pd_isT {x y z : Str} {p p1 p2 pt pos : Pos} {T1 T2 : String} {i} (hg : Gl X x) (hm : X.mg x = none) (hv : bootBuiltins x = some (.builtin "isinstance")) (ha : PE X a (tD X.K c ma))
    (hy : PE X (.Name y p1) (tC (.ty T1))) (hz : PE X (.Name z p2) (tC (.ty T2))) (hn : x ≠ "__name__" := by decide) (hdb : (x == ("__debug__" : Str)) = false := by decide)
    (he : starEach [a, .Tuple [.Name y p1, .Name z p2] i pt] X.env = (false, eval a X.env) :: starEach [.Tuple [.Name y p1, .Name z p2] i pt] X.env := by rfl) (hpl : (backTo pos (starEach [.Tuple [.Name y p1, .Name z p2] i pt] X.env)).any (·.1) = false := by rfl)
    (he2 : starEach [.Tuple [.Name y p1, .Name z p2] i pt] X.env = (false, eval (.Tuple [.Name y p1, .Name z p2] i pt) X.env) :: starEach [] X.env := by rfl)
    (he3 : starEach [.Name y p1, .Name z p2] X.env = (false, eval (.Name y p1) X.env) :: starEach [.Name z p2] X.env := by rfl) (he4 : starEach [.Name z p2] X.env = (false, eval (.Name z p2) X.env) :: starEach [] X.env := by rfl) :
    PE X (.Call (.Name x p) [a, .Tuple [.Name y p1, .Name z p2] i pt] [] pos) (tD X.K c (mIsT ma [T1, T2])) :=
  PE_imp (pe_callB call_isiT hg hm hv (pa_cons ha (pa_cons (pe_tup (pa_cons hy (pa_cons hz pa_nil he4) he3)) pa_nil he2) he) hn hdb he hpl) fun σ H Q h => by
    obtain ⟨B, G, ρ, r, h⟩ := h
    refine ⟨B, G, ρ, r, h.bind.imp fun d ρ1 G1 H1 s1 r1 h1 v rv => ?_⟩
    obtain ⟨w, hw, k⟩ := h1.lift
    have pl : isPlain d = true := by
      cases q : isPlain d with
      | true => rfl
      | false =>
        have e : isTys d [T1, T2] = none := by
          unfold isTys isTy
          rw [if_neg (by rw [q]; exact Bool.false_ne_true)]
        rw [e] at hw
        cases hw
    cases q : isTys d [T1, T2] with
    | none => rw [q] at hw; cases hw
    | some b0 =>
      rw [q] at hw
      cases hw
      refine ⟨by show 2 ≤ sizeLine; decide, fun p hp => ?_⟩
      have g := Grow.new (o := .tup [.ty T1, .ty T2]) r1.sub hp
      refine ⟨v, p, [.ty T1, .ty T2], .type (tyNm d), [.type T1, .type T2], b0, rfl, upd_same, .cons (.ty T1) (.cons (.ty T2) .nil), tyx_of g.gh pl (rv.mono g.gg), kit_tys pl q, ?_⟩
      exact k _ _ g.gg (r1.grow g) _ rep_bl
/-! ### subscripts -/
def dIx : D → D → Option D
  | .str x, .int i => if szOk x.length then (atI x.cps.toList i).map fun k => .str ⟨#[k]⟩ else none
  | d, .int i => (items d).bind fun ds => atI ds i
  | _, _ => none
theorem atI_reps {K : PySem.W.Frag} {G : Hp} {ds : List D} {vs : List V} {i : Int} {d : D} (h : Reps K G ds vs) (e : atI ds i = some d) : ∃ v, atI vs i = some v ∧ Rep K G d v := by
  unfold atI at e ⊢
  rw [h.length]
  cases q : ixN ds.length i with
  | none => rw [q] at e; cases e
  | some j =>
    rw [q] at e
    exact h.get j d e
theorem id_ix : IxR X (rD2 X.K dIx) := by
  intro value slice pins s σ H x y v u Q I rx ry h hs
  obtain ⟨G, d, e, z, sb, h1, h2, hz, k⟩ := h
  cases e with
  | int i =>
    have main : ∀ ds, items d = some ds → atI ds i = some z → wpAny (model X.prog X.w) X.A (subscriptTail value slice v u) (EP X pins σ Q) X.xe s := by
      intro ds e1 e2
      obtain ⟨a, vs, rfl, h3, h4⟩ := items_rep e1 h1
      obtain ⟨w, h5, h6⟩ := atI_reps h4 e2
      rcases h3 with h3 | h3
      · exact ix_list value slice pins s σ H _ y v u Q I rx ry ⟨a, vs, i, w, rfl, repInt h2, sb.l h3, h5, out sb h6 k⟩ hs
      · exact ix_tup value slice pins s σ H _ y v u Q I rx ry ⟨a, vs, i, w, rfl, repInt h2, sb.t h3, h5, out sb h6 k⟩ hs
    cases d with
    | str x =>
      obtain ⟨hc, hz⟩ : szOk x.length ∧ ∃ k, atI x.cps.toList i = some k ∧ z = .str ⟨#[k]⟩ := by
        have hz : (if szOk x.length then (atI x.cps.toList i).map fun k => D.str ⟨#[k]⟩ else none) = some z := hz
        by_cases q : szOk x.length
        · rw [if_pos q] at hz
          refine ⟨q, ?_⟩
          cases w : atI x.cps.toList i with
          | none => rw [w] at hz; cases hz
          | some k => rw [w] at hz; exact ⟨k, rfl, (Option.some.inj hz).symm⟩
        · rw [if_neg q] at hz
          cases hz
      obtain ⟨k', h5, rfl⟩ := hz
      exact ix_str value slice pins s σ H _ y v u Q I rx ry ⟨x, i, k', repStr h1, repInt h2, by rw [sizeLine_eq]; exact hc, h5, out sb rep_str k⟩ hs
    | tup es => exact main es rfl hz
    | lst es => exact main es rfl hz
    | fl es => exact main es rfl hz
    | kt es => exact main es rfl hz
    | _ => cases hz
  | _ => cases d <;> cases hz
theorem pd_ix (ha : PE X a (tD X.K c ma)) (hb : PE X b (tD X.K c mb)) (hs : PlainIx b := by intro _ _; rfl) : PE X (.Subscript a b pos) (tD X.K c (m2 ma mb dIx)) :=
  PE_imp (pe_ix id_ix ha hb hs) fun _ _ _ h => m2_read h
/-- an item of one's own list, which stays one's own -/
def ownL (i : Nat) (ρ : Rho) : Option (List D) := match ρ[i]? with
  | some (some (.own (.lst ds))) => some ds
  | _ => none
def mIxO (i : Nat) (mb : M D) : M D := fun ρ => match ownL i ρ with
  | none => .no
  | some _ => bind mb (fun k ρ' => match ownL i ρ', k with
    | some ds, .int j => lift (atI ds j) ρ'
    | _, _ => .no) ρ
theorem ownL_at {K : PySem.W.Frag} {G H : Hp} {σ : L2.St} {ρ : Rho} {i : Nat} {ds : List D} (r : Rl K c B G H σ ρ) (h : ownL i ρ = some ds) : ∃ p vs, σ[i]? = some (some (.ref p)) ∧ H p = some (.lst vs) ∧ Reps K G ds vs ∧ G p = none ∧ B p = none ∧ ρ[i]? = some (some (.own (.lst ds))) := by
  unfold ownL at h
  split at h
  · rename_i es e
    cases h
    obtain ⟨v, hv, p, rfl, h1, h2, vs, h3, h4⟩ := r.slots i _ e
    exact ⟨p, vs, hv, h3, h4, h1, h2, e⟩
  · cases h
theorem pd_ixO (i : Nat) {x : Str} {p : Pos} (hb : PE X b (tD X.K c mb)) (hs : PlainIx b := by intro _ _; rfl) (hN : X.N[i]? = some x := by rfl) (hv : Vis X.env.scope x := by first | exact Or.inl rfl | exact Or.inr (Or.inl rfl) | exact Or.inr (Or.inr rfl)) (hd : (x == ("__debug__" : Str)) = false := by decide)
    (hcd : (x == ("__classdict__" : Str)) = false := by decide) : PE X (.Subscript (.Name x p) b pos) (tD X.K c (mIxO i mb)) :=
  PE_imp (pe_ix ix_list (pe_var (i := i) hN hv hd hcd) hb hs) fun σ H Q h => by
    obtain ⟨B, G, ρ, r, h⟩ := h
    unfold mIxO at h
    cases e : ownL i ρ with
    | none => rw [e] at h; exact h.elim
    | some ds =>
      rw [e] at h
      obtain ⟨p, vs, hv, _⟩ := ownL_at r e
      refine ⟨_, hv, B, G, ρ, r, XPost.imp (XPost.bind h) fun k ρ1 G1 H1 s1 r1 h1 w rw' => ?_⟩
      cases e1 : ownL i ρ1 with
      | none => rw [e1] at h1; exact h1.elim
      | some ds1 =>
        rw [e1] at h1
        cases k with
        | int j =>
          obtain ⟨z, hz, kk⟩ := XPost.lift (o := atI ds1 j) (ρ := ρ1) h1
          obtain ⟨p', vs', hv', h3, h4, _⟩ := ownL_at r1 e1
          rw [hv] at hv'
          cases hv'
          obtain ⟨y, hy, ry⟩ := atI_reps h4 hz
          exact ⟨p, vs', j, y, rfl, repInt rw', lsq h3, hy, kk G1 H1 (.refl G1) r1 y ry⟩
        | _ => exact h1.elim
/-- len of one's own list -/
def mLenO (i : Nat) : M D := fun ρ => match ownL i ρ with
  | none => .no
  | some ds => .ok (.int ds.length) ρ
theorem pd_lenO (i : Nat) {x y : Str} {p p2 : Pos} (hg : Gl X y) (hm : X.mg y = none) (hbt : bootBuiltins y = some (.builtin "len")) (hN : X.N[i]? = some x := by rfl) (hv : Vis X.env.scope x := by first | exact Or.inl rfl | exact Or.inr (Or.inl rfl) | exact Or.inr (Or.inr rfl)) (hd : (x == ("__debug__" : Str)) = false := by decide)
    (hcd : (x == ("__classdict__" : Str)) = false := by decide) (hn : y ≠ "__name__" := by decide) (hdb : (y == ("__debug__" : Str)) = false := by decide) (he : starEach [.Name x p] X.env = (false, eval (.Name x p) X.env) :: starEach [] X.env := by rfl)
    (hpl : (backTo pos (starEach [] X.env)).any (·.1) = false := by rfl) : PE X (.Call (.Name y p2) [.Name x p] [] pos) (tD X.K c (mLenO i)) :=
  PE_imp (pe_callB call_len_seq hg hm hbt (pa_cons (pe_var (i := i) hN hv hd hcd) pa_nil he) hn hdb he hpl) fun σ H Q h => by
    obtain ⟨B, G, ρ, r, h⟩ := h
    unfold mLenO at h
    cases e : ownL i ρ with
    | none => rw [e] at h; exact h.elim
    | some ds =>
      rw [e] at h
      obtain ⟨p, vs, hv, h3, h4, _⟩ := ownL_at r e
      refine ⟨_, hv, p, vs, rfl, .inl (lsq h3), ?_⟩
      rw [h4.length]
      exact h G H (.refl G) r _ rep_int
/-! ### slices -/
def cutD (xs : List D) (lo hi : Option Int) : List D := (xs.drop (HT.sIx xs.length 0 lo)).take (HT.sIx xs.length xs.length hi - HT.sIx xs.length 0 lo)
theorem cut_reps {K : PySem.W.Frag} {G : Hp} {ds : List D} {vs : List V} (h : Reps K G ds vs) (lo hi : Option Int) : Reps K G (cutD ds lo hi) (cutV vs lo hi) := by
  unfold cutD cutV
  rw [h.length]
  exact (h.drop _).take _
def oCut (d : D) (lo hi : Option Int) : Option D := match d with
  | .lst ds => some (.lst (cutD ds lo hi))
  | .fl ds => some (.lst (cutD ds lo hi))
  | .tup ds => some (.tup (cutD ds lo hi))
  | _ => none
def pNo : M (Option Int) := ret none
def pYes (ma : M D) : M (Option Int) := bind ma fun d => match d with
  | .int i => ret (some i)
  | _ => fail
def tP (K : PySem.W.Frag) (c : Cg) (m : M (Option Int)) : TO := fun σ H Q => ∃ B G ρ, Rl K c B G H σ ρ ∧ XPost K c B σ G (fun o _ G' H' => Q o H') (m ρ)
def tNoP (K : PySem.W.Frag) (c : Cg) : TO := tP K c pNo
theorem pdo_none : PO X none (tP X.K c pNo) := ⟨fun pins s σ H Q I h => by
  obtain ⟨B, G, ρ, r, h⟩ := h
  exact po_none.run pins s σ H Q I (h G H (.refl G) r)⟩
theorem pdo_some (ha : PE X a (tD X.K c ma)) : PO X (some a) (tP X.K c (pYes ma)) := ⟨fun pins s σ H Q I h => by
  refine (po_some ha).run pins s σ H Q I ?_
  obtain ⟨B, G, ρ, r, h⟩ := h
  refine ⟨B, G, ρ, r, h.bind.imp fun d ρ1 G1 H1 s1 r1 h1 v rv => ?_⟩
  cases d with
  | int i => exact ⟨i, repInt rv, h1 G1 H1 (.refl G1) r1⟩
  | _ => exact h1.elim⟩
def rCut (K : PySem.W.Frag) : V → Option Int → Option Int → Hp → VK → Prop := fun x lo hi H Q => ∃ G d z, Sub G H ∧ Rep K G d x ∧ oCut d lo hi = some z ∧ ∀ v G' H', Grow G H G' H' → Rep K G' z v → Q v H'
theorem sd_cut : SlR X (rCut X.K) := by
  intro pins s σ H x v vl vu lo hi sl Q I rx hs pl pu h
  obtain ⟨G, d, z, sb, h1, hz, k⟩ := h
  have main : ∀ (a : Addr) (vs : List V) (ds : List D), x = .ref a → SqL X.K H a vs → Reps X.K G ds vs → z = .lst (cutD ds lo hi) → ∃ T id, typeLookup (.type T) "__getitem__" = pure (some (.builtin id)) ∧ s.TypeIs v T ∧ wpAny (model X.prog X.w) X.A (getItem v (.ref sl)) (EP X pins σ Q) X.xe s := by
    intro a vs ds e1 e2 e3 e4
    subst e4
    refine sl_list pins s σ H x v vl vu lo hi sl Q I rx hs pl pu ⟨a, vs, e1, e2, fun p hp => ?_⟩
    have g := Grow.new (o := .lst (cutV vs lo hi)) sb hp
    exact k _ _ _ g (rep_lst upd_same ((cut_reps e3 lo hi).mono g.gg))
  cases d with
  | lst ds =>
    obtain ⟨a, vs, e1, e2, e3⟩ := repLst h1
    exact main a vs ds e1 (lsq (sb _ _ e2)) e3 (Option.some.inj hz).symm
  | fl ds =>
    obtain ⟨a, vs, e1, e2, e3⟩ := repFl h1
    exact main a vs ds e1 (sb.l e2) e3 (Option.some.inj hz).symm
  | tup ds =>
    cases hz
    obtain ⟨a, vs, e1, e2, e3⟩ := repTup h1
    refine sl_tupA pins s σ H x v vl vu lo hi sl Q I rx hs pl pu ⟨a, vs, e1, sb.t (tsq e2), fun w => ?_, fun w p hp => ?_⟩
    · refine out sb ?_ k
      have e : cutD ds lo hi = ds := by
        unfold cutD
        rw [e3.length] at w
        rw [w.1, w.2, List.drop_zero, Nat.sub_zero, List.take_length]
      rw [e]
      exact rep_tup e2 e3
    · have g := Grow.new (o := .tup (cutV vs lo hi)) sb hp
      exact k _ _ _ g (rep_tup upd_same ((cut_reps e3 lo hi).mono g.gg))
  | _ => cases hz
def mCut (ma : M D) (lo hi : M (Option Int)) : M D := bind ma fun d => bind lo fun l => bind hi fun u => lift (oCut d l u)
theorem pd_slice {lo hi : Option Expr} {ml mh : M (Option Int)} {p2 : Pos} (ha : PE X a (tD X.K c ma)) (hl : PO X lo (tP X.K c ml)) (hu : PO X hi (tP X.K c mh)) : PE X (.Subscript a (.Slice lo hi none p2) pos) (tD X.K c (mCut ma ml mh)) :=
  PE_imp (pe_slice sd_cut ha hl hu) fun σ H Q h => by
    obtain ⟨B, G, ρ, r, h⟩ := h
    refine ⟨B, G, ρ, r, h.bind.imp fun d ρ1 G1 H1 s1 r1 h1 v rv => ⟨B, G1, ρ1, r1, h1.bind.imp fun l ρ2 G2 H2 s2 r2 h2 => ⟨B, G2, ρ2, r2, h2.bind.imp fun u ρ3 G3 H3 s3 r3 h3 => ?_⟩⟩⟩
    obtain ⟨z, hz, k⟩ := h3.lift
    exact ⟨G3, d, z, r3.sub, rv.mono (s2.trans s3), hz, fun w G' H' g rz => k G' H' g.gg (r3.grow g) w rz⟩
/-! ### a op1 b op2 c -/
def chM (ma mb mc : M D) (g g' : D → D → Option D) : M D := bind ma fun x => bind mb fun y => bind (lift ((g x y).bind asB)) fun k => if k = true then bind mc fun z => lift (g' y z) else ret (.bl false)
theorem chM_read {mc : M D} {g g' : D → D → Option D} {σ : L2.St} {H : Hp} {Q : VK} (h : tD X.K c (chM ma mb mc g g') σ H Q) : tChain (rD2 X.K g) (rD2 X.K g') (tD X.K c ma) (tD X.K c mb) (tD X.K c mc) σ H Q := by
  obtain ⟨B, G, ρ, r, h⟩ := h
  refine ⟨B, G, ρ, r, h.bind.imp fun d ρ1 G1 H1 s1 r1 h1 v rv => ⟨B, G1, ρ1, r1, h1.bind.imp fun e ρ2 G2 H2 s2 r2 h2 w rw' => ?_⟩⟩
  obtain ⟨k, hk, h3⟩ := h2.bind.lift
  cases q : g d e with
  | none => rw [q] at hk; cases hk
  | some z =>
    rw [q] at hk
    cases z with
    | bl b0 =>
      cases hk
      refine ⟨G2, d, e, _, r2.sub, rv.mono s2, rw', q, fun u G3 H3 g3 ru => ⟨_, repBl ru, ?_⟩⟩
      have r3 := r2.grow g3
      have h4 := h3 G3 H3 g3.gg r3
      cases k with
      | true =>
        refine ⟨B, G3, ρ2, r3, h4.bind.imp fun f ρ4 G4 H4 s4 r4 h5 t rt => ?_⟩
        obtain ⟨z, hz, kk⟩ := h5.lift
        exact ⟨G4, e, f, z, r4.sub, (rw'.mono g3.gg).mono s4, rt, hz, fun u G' H' g rz => kk G' H' g.gg (r4.grow g) u rz⟩
      | false => exact h4 G3 H3 (.refl G3) r3 _ rep_bl
    | _ => cases hk
theorem pd_chain {e3 : Expr} {mc : M D} {op op' : CmpOp} {g g' : D → D → Option D} (ho : OpD X (compareOp op) g) (ho' : OpD X (compareOp op') g') (ha : PE X a (tD X.K c ma)) (hb : PE X b (tD X.K c mb)) (hc : PE X e3 (tD X.K c mc))
    (hm : lastMarks [op, op'] [b, e3] = false := by with_unfolding_all rfl) : PE X (.Compare a [op, op'] [b, e3] pos) (tD X.K c (chM ma mb mc g g')) :=
  PE_imp (pe_chain ho ho' ha hb hc hm) fun _ _ _ h => chM_read h
theorem pd_tchain {e3 : Expr} {mc : M D} {op op' : CmpOp} {g g' : D → D → Option D} (ho : OpD X (compareOp op) g) (ho' : OpD X (compareOp op') g') (ha : PE X a (tD X.K c ma)) (hb : PE X b (tD X.K c mb)) (hc : PE X e3 (tD X.K c mc))
    (hm : lastMarks [op, op'] [b, e3] = false := by with_unfolding_all rfl) : PT X (.Compare a [op, op'] [b, e3] pos) (tT X.K c (mB (chM ma mb mc g g'))) :=
  PT_imp (pt_chain ho ho' ha hb hc hm) fun _ _ _ h => chM_read (mB_read h)
/-! ### x.bit_length() -/
def dBits : D → Option D
  | .int i => some (.int (ib i : Nat))
  | _ => none
theorem pd_bits {apos : Pos} (ha : PE X a (tD X.K c ma)) (hbase : attributeBase a "bit_length" X.env (eval a X.env) = eval a X.env := by rfl) (hline : (apos.endLine == pos.line) = true := by rfl) : PE X (.Call (.Attribute a "bit_length" apos) [] [] pos) (tD X.K c (m1 ma dBits)) :=
  PE_imp (pe_bits ha hbase hline) fun σ H Q h => by
    obtain ⟨B, G, ρ, r, h⟩ := h
    refine ⟨B, G, ρ, r, h.bind.imp fun d ρ1 G1 H1 s1 r1 h1 v rv => ?_⟩
    obtain ⟨z, hz, k⟩ := h1.lift
    cases d with
    | int i =>
      cases hz
      exact ⟨i, repInt rv, k G1 H1 (.refl G1) r1 _ rep_int⟩
    | _ => cases hz
end
end Dn

set_option Elab.async false
set_option linter.all false
set_option maxRecDepth 100000
set_option maxHeartbeats 4000000
/-! Dn5: what is walked, by data: lists, tuples, ranges, zip and enumerate of lists and tuples in any mix. -/
namespace Dn
open PySem PySem.Spec PyProof.Rows L2

/-! ### sequences of either kind -/
def Sq (k : Bool) (K : PySem.W.Frag) (H : Hp) (a : Addr) (xs : List V) : Prop := match k with
  | true => SqL K H a xs
  | false => SqT K H a xs
def ItK (k : Bool) (h : Heap) (it a : Addr) (i : Nat) : Prop := match k with
  | true => h.IsListIter it a i
  | false => h.IsTupleIter it a i
def IsK (k : Bool) (h : Heap) (a : Addr) (its : Array Value) : Prop := match k with
  | true => h.IsList a its
  | false => h.IsTuple a its
def itO (k : Bool) (a : Addr) : Obj := match k with
  | true => { cls := .type "list_iterator", data := .fields #[.ref a, .int 0 0] }
  | false => { cls := .type "tuple_iterator", data := .fields #[.ref a, .int 0 0] }
theorem ItK.obj {k : Bool} {h : Heap} {it a : Addr} {i : Nat} (x : ItK k h it a i) : ∃ o, h.get? it = some o ∧ ∀ v, o.data ≠ .cell v := by
  cases k with
  | true => obtain ⟨o, e, _, d⟩ := x; exact ⟨o, e, fun v q => by rw [d] at q; cases q⟩
  | false => obtain ⟨o, e, _, d⟩ := x; exact ⟨o, e, fun v q => by rw [d] at q; cases q⟩
theorem ItK.at {k : Bool} {h h' : Heap} {it a : Addr} {i : Nat} (x : ItK k h it a i) (f : ∀ o, h.get? it = some o → h'.get? it = some o) : ItK k h' it a i := by
  cases k with
  | true => exact Heap.IsListIter.at x f
  | false => exact Heap.IsTupleIter.at x f
theorem itK_new {k : Bool} {h : Heap} {it a : Addr} (e : h.get? it = some (itO k a)) : ItK k h it a 0 := by
  cases k with
  | true => exact ⟨_, e, rfl, rfl⟩
  | false => exact ⟨_, e, rfl, rfl⟩
theorem beginsK (k : Bool) (a : Addr) (its : Array Value) : Begins (.ref a) (itO k a) fun h => IsK k h a its := by
  cases k with
  | true => exact begins_list a its
  | false => exact begins_tuple a its
theorem drawsK (k : Bool) {prog : Program} {w : World} {A : Around} (hh : A.handled = none) (it a : Addr) (hne : a ≠ it) (its : Array Value) :
    Draws prog w A it [it, a] its.size (fun i v => its[i]? = some v) (fun i h => ItK k h it a i ∧ IsK k h a its) := by
  cases k with
  | true => exact Draws.list hh it a hne its
  | false => exact Draws.tuple hh it a hne its
section
variable {X : Cx} {pins : List (Addr × Obj)} {σ : L2.St} {H : Hp} {s : Shared} {a : Addr} {xs ys : List V} {k : Bool}
theorem sq_read (I : Inv X pins σ H s) (h : Sq k X.K H a xs) : ∃ its : List Value, Vals xs its ∧ IsK k s.heap a its.toArray ∧ a < s.heap.objs.size ∧ xs.length ≤ sizeLine := by
  cases k with
  | true =>
    obtain ⟨its, r, p, z⟩ := I.list h
    exact ⟨its, r, p.isList, p.lt, z⟩
  | false =>
    obtain ⟨its, r, p, z⟩ := I.tuple h
    exact ⟨its, r, p, p.lt, z⟩
theorem sq_inj (I : Inv X pins σ H s) (h : Sq k X.K H a xs) (h' : Sq k X.K H a ys) : xs = ys := by
  cases k with
  | true => exact I.list_inj h h'
  | false => exact I.tuple_inj h h'
end
theorem Sub.sq {k : Bool} {K : PySem.W.Frag} {G H : Hp} {a : Addr} {xs : List V} (s : Sub G H) (h : Sq k K G a xs) : Sq k K H a xs := by
  cases k with
  | true => exact s.l h
  | false => exact s.t h

/-! ### zip -/
def ItzM (K : PySem.W.Frag) (k1 k2 : Bool) (a b : Addr) : It :=
  ⟨fun i H => ∃ (xs ys : List V), Sq k1 K H a xs ∧ Sq k2 K H b ys ∧ i < xs.length ∧ i < ys.length,
    fun i H v H' => ∃ T x y, v = .ref T ∧ H T = none ∧ H' = upd H T (.tup [x, y]) ∧ (∀ xs, Sq k1 K H a xs → xs[i]? = some x) ∧ ∀ ys, Sq k2 K H b ys → ys[i]? = some y,
    fun i H => ∃ xs ys : List V, Sq k1 K H a xs ∧ Sq k2 K H b ys ∧ i = min xs.length ys.length⟩
theorem turn_zipM {P : Program} {w : World} {K : PySem.W.Frag} {elts : List Expr} {kk : Nat} {tpos : Pos} {k1 k2 : Bool} {a b z TI TO i1 i2 : Addr} (S : ZipSep2 z TI TO i1 i2 [i1, a] [i2, b]) (n1 : a ≠ i1) (n2 : b ≠ i2) :
    Turn P w K (.Tuple elts kk tpos) (ItzM K k1 k2 a b) [z, TI, TO, i1, i2] z (fun i h => IsZip h z TI TO .none ∧ IsTupOf2 h TI (.ref i1) (.ref i2) ∧ (∃ x y, IsTupOf2 h TO x y) ∧ ItK k1 h i1 a i ∧ ItK k2 h i2 b i) where
  mem := by simp
  obj := fun i h st c hc => by
    obtain ⟨hz, hTI, ⟨x, y, hTO⟩, h1, h2⟩ := st
    have e' : c = z ∨ c = TI ∨ c = TO ∨ c = i1 ∨ c = i2 := by simpa using hc
    rcases e' with q | q | q | q | q
    · rw [q]; exact ⟨_, hz, fun v q => nomatch q⟩
    · rw [q]; exact ⟨_, hTI, fun v q => nomatch q⟩
    · rw [q]; exact ⟨_, hTO, fun v q => nomatch q⟩
    · rw [q]; exact h1.obj
    · rw [q]; exact h2.obj
  keep := fun i h h' st k => by
    obtain ⟨hz, hTI, ⟨x, y, hTO⟩, h1, h2⟩ := st
    exact ⟨k z (by simp) _ hz, k TI (by simp) _ hTI, ⟨x, y, k TO (by simp) _ hTO⟩, h1.at fun o q => k i1 (by simp) o q, h2.at fun o q => k i2 (by simp) o q⟩
  item := by
    intro X hP hw hK hc i pins s σ H E I hf st hg
    subst hP hw hK
    obtain ⟨hz, hTI, hTO, h1, h2⟩ := st
    obtain ⟨xs, ys, hqx, hqy, hx, hy⟩ := hg
    obtain ⟨its, rv, p, la, _⟩ := sq_read I hqx
    obtain ⟨its2, rv2, p2, lb, _⟩ := sq_read I hqy
    have l1 := rv.length
    have l2 := rv2.length
    have D1 := drawsK k1 (prog := X.prog) (w := X.w) (A := X.A.in1) (I.ok.hd hc) i1 a n1 its.toArray
    have D2 := drawsK k2 (prog := X.prog) (w := X.w) (A := X.A.in1) (I.ok.hd hc) i2 b n2 its2.toArray
    refine (GoesN.zip2 (elts := elts) (x1 := kk) (pos := tpos) S D1 D2).goes i s _ E (by simp only [List.size_toArray]; omega) ⟨hz, hTI, hTO, ⟨h1, p⟩, ⟨h2, p2⟩⟩ fun v h' tk hY st' hk htk => ?_
    obtain ⟨T, x, y, rfl, hT, hx1, hy1, hTt⟩ := hY
    obtain ⟨hz', hTI', hTO', ⟨h1', _⟩, ⟨h2', _⟩⟩ := st'
    have hTn : H T = none := I.hok.fresh hT
    have ex : its[i]? = some x := by simpa using hx1
    have ey : its2[i]? = some y := by simpa using hy1
    have gx : xs[i]? = some xs[i] := List.getElem?_eq_getElem hx
    have gy : ys[i]? = some ys[i] := List.getElem?_eq_getElem hy
    obtain ⟨u, hu, ru⟩ := rv.get gx
    obtain ⟨u2, hu2, ru2⟩ := rv2.get gy
    rw [ex] at hu
    rw [ey] at hu2
    cases hu
    cases hu2
    have new : ObjOk X.prog X.w (upd H T (.tup [xs[i], ys[i]])) h' T (.tup [xs[i], ys[i]]) := ⟨by show 2 ≤ sizeLine; decide, [x, y], .cons ru (.cons ru2 .nil), hTt⟩
    have sub : ∀ c ∈ [z, TO, i1, i2], c ∈ [z, TI, TO, i1, i2] := by
      intro c hc'
      simp only [List.mem_cons, List.not_mem_nil, or_false] at hc' ⊢
      rcases hc' with q | q | q | q <;> simp [q]
    have I1 : Inv X pins σ (upd H T (.tup [xs[i], ys[i]])) { s with heap := h', toks := tk } := I.turnedNew (t' := tk) (ch := [z, TO, i1, i2]) hk (fun c hc' => hf c (sub c hc')) hT new
    refine ⟨.ref T, _, I1, rfl, ⟨T, xs[i], ys[i], rfl, hTn, rfl, fun l hl => by rw [sq_inj I hl hqx]; exact gx, fun l hl => by rw [sq_inj I hl hqy]; exact gy⟩, ⟨hz', hTI', hTO', h1', h2'⟩, fun c hcm => ?_⟩
    have hlt : c < s.heap.objs.size := by
      have e' : c = z ∨ c = TI ∨ c = TO ∨ c = i1 ∨ c = i2 := by simpa using hcm
      obtain ⟨x0, y0, hTO0⟩ := hTO
      rcases e' with q | q | q | q | q
      · rw [q]; exact Heap.lt_size hz
      · rw [q]; exact Heap.lt_size hTI
      · rw [q]; exact Heap.lt_size hTO0
      · rw [q]; obtain ⟨_, e1, _⟩ := h1.obj; exact Heap.lt_size e1
      · rw [q]; obtain ⟨_, e1, _⟩ := h2.obj; exact Heap.lt_size e1
    rw [upd_ne (Nat.ne_of_lt (Nat.lt_of_lt_of_le hlt hT))]
    exact (hf c hcm).1
  done := by
    intro X hP hw hK hc i pins s σ H E I hf st hg
    subst hP hw hK
    obtain ⟨hz, hTI, hTO, h1, h2⟩ := st
    obtain ⟨xs, ys, hqx, hqy, hend⟩ := hg
    obtain ⟨its, rv, p, la, _⟩ := sq_read I hqx
    obtain ⟨its2, rv2, p2, lb, _⟩ := sq_read I hqy
    have l1 := rv.length
    have l2 := rv2.length
    have D1 := drawsK k1 (prog := X.prog) (w := X.w) (A := X.A.in1) (I.ok.hd hc) i1 a n1 its.toArray
    have D2 := drawsK k2 (prog := X.prog) (w := X.w) (A := X.A.in1) (I.ok.hd hc) i2 b n2 its2.toArray
    have en : i = min its.toArray.size its2.toArray.size := by simp only [List.size_toArray]; omega
    subst en
    have sub : ∀ c ∈ [z, TO, i1, i2], c ∈ [z, TI, TO, i1, i2] := by
      intro c hc'
      simp only [List.mem_cons, List.not_mem_nil, or_false] at hc' ⊢
      rcases hc' with q | q | q | q <;> simp [q]
    exact (GoesN.zip2 (elts := elts) (x1 := kk) (pos := tpos) S D1 D2).stops s _ E ⟨hz, hTI, hTO, ⟨h1, p⟩, ⟨h2, p2⟩⟩ fun h' tk hk htk => I.turnedL (t' := tk) (ch := [z, TO, i1, i2]) hk (fun c hc' => hf c (sub c hc'))
  self := fun A i s Q E st h => wpAny_pyIter_zip st.1 h
def iZipM (K : PySem.W.Frag) (ta : TA) : TI := fun σ H R => ta σ H fun vs H1 => ∃ k1 k2 a b xs ys, vs = [.ref a, .ref b] ∧ Sq k1 K H1 a xs ∧ Sq k2 K H1 b ys ∧ R (ItzM K k1 k2 a b) H1
theorem pi_zipM {X : Cx} {e e2 : Expr} {ta : TA} {p pos tpos : Pos} {elts : List Expr} {kk : Nat} (hg : Gl X "zip") (hm : X.mg "zip" = none) (ha : PA X [e, e2] ta)
    (hs : starEach [e, e2] X.env = (false, eval e X.env) :: starEach [e2] X.env := by rfl) (hpl : (backTo pos (starEach [e2] X.env)).any (·.1) = false := by rfl) :
    PI X (.Tuple elts kk tpos) (.Call (.Name "zip" p) [e, e2] [] pos) (iZipM X.K ta) := by
  refine ⟨fun pins s σ H R I h => ?_⟩
  refine Call_ (ld_blt I hg hm PyProof.Rows.boot_zip (PyProof.Rows.callWith_type1 (thn (ha.run pos pins s σ H _ I h) fun us s1 ⟨vs, H1, I1, r1, q1⟩ => ?_) hs hpl))
  obtain ⟨k1, k2, a, b, xs, ys, ex, hqx, hqy, q⟩ := q1
  subst ex
  cases r1 with
  | cons r rr =>
    cases rr with
    | cons r' rr =>
      cases rr
      cases r
      cases r'
      obtain ⟨its, rv, p1, la, _⟩ := sq_read I1 hqx
      obtain ⟨its2, rv2, p2, lb, _⟩ := sq_read I1 hqy
      refine zip_begins2 (beginsK k1 a its.toArray) (beginsK k2 b its2.toArray) p1 p2 fun h' hz hTI hTO h1 h2 hsz hk => wpAny_pyIter_zip hz ?_
      have I2 : Inv X pins σ H1 { s1 with heap := h' } := I1.kept (t' := s1.toks) hk
      refine ⟨s1.heap.objs.size + 4, [s1.heap.objs.size + 4, s1.heap.objs.size + 2, s1.heap.objs.size + 3, s1.heap.objs.size, s1.heap.objs.size + 1], _, _, H1, rfl, I2,
        turn_zipM (k1 := k1) (k2 := k2) (zip_sep2 (fp1 := [a]) (fp2 := [b]) (fun c hc => by simp at hc; rw [hc]; exact la) (fun c hc => by simp at hc; rw [hc]; exact lb)) (Nat.ne_of_lt la) (Nat.ne_of_lt (Nat.lt_succ_of_lt lb)),
        ⟨hz, hTI, ⟨_, _, hTO⟩, itK_new h1, itK_new h2⟩, fun c hcm => ?_, q⟩
      have e' : c = s1.heap.objs.size + 4 ∨ c = s1.heap.objs.size + 2 ∨ c = s1.heap.objs.size + 3 ∨ c = s1.heap.objs.size ∨ c = s1.heap.objs.size + 1 := by simpa using hcm
      have hle : s1.heap.objs.size ≤ c := by
        rcases e' with z | z | z | z | z
        · rw [z]; exact Nat.le_add_right _ _
        · rw [z]; exact Nat.le_add_right _ _
        · rw [z]; exact Nat.le_add_right _ _
        · rw [z]; exact Nat.le_refl _
        · rw [z]; exact Nat.le_add_right _ _
      exact I1.fpOk hle (I1.hok.fresh hle)

/-! ### enumerate -/
end Dn
namespace PySem
open Sem (wp)
set_option maxHeartbeats 4000000 in
theorem dn_meets_enum1 {v : Value} {o : Obj} {H : Heap → Prop} (B : Begins v o H) :
    Meets (Builtin.«enumerate.__new__» ⟨[.type "enumerate", v], []⟩) (fun _ R s => H s.heap ∧
      R (.ok (.ret (.ref (s.heap.push o).objs.size))) { s with heap := (s.heap.push o).push { cls := .type "enumerate", data := .fields #[.none, .bool false, .ref s.heap.objs.size, rawInt 0, .none, .none] } }) :=
  .of_wp fun prog w A R s h => by
    obtain ⟨hp, g, d, tk, os⟩ := s; obtain ⟨h1, h⟩ := h
    have hsub := sub_enumerate
    have q1 : ∀ {A' : Around} {E : Value → Shared → Prop} {Q : Value → Shared → Prop}, Q (.ref hp.objs.size) ⟨hp.push o, g, d, tk, os⟩ → wpAny (model prog w) A' (pyIter v) Q E ⟨hp, g, d, tk, os⟩ :=
      fun q => B.iter prog w _ _ ⟨hp, g, d, tk, os⟩ _ h1 q
    wp_walk using q1
    refine wpAny_stack_any fun st => wpAny_pure ?_
    split
    · rename_i c _ _ _ _ _
      cases (c == Value.type "enumerate")
      · wp_walk using q1
        exact ⟨_, rfl, h⟩
      · wp_walk using q1
        exact ⟨_, rfl, h⟩
    · wp_walk using q1
      exact ⟨_, rfl, h⟩
theorem dn_enum1 {prog : Program} {w : World} {A : Around} {E : Value → Shared → Prop} {s : Shared} {v : Value} {o : Obj} {H : Heap → Prop} {Q : Value → Shared → Prop} (B : Begins v o H) (h1 : H s.heap)
    (h : ∀ h', IsEnum h' (s.heap.objs.size + 1) s.heap.objs.size 0 .none → h'.get? s.heap.objs.size = some o → h'.objs.size = s.heap.objs.size + 2 →
      (∀ b o, s.heap.get? b = some o → h'.get? b = some o) → Q (.ref (s.heap.objs.size + 1)) { s with heap := h' }) :
    wpAny (model prog w) A (call (.type "enumerate") [v]) Q E s := by
  refine callType_new F.called_enumerate (by decide) (F.typeCall_enumerate_1 _) (F.newCall_enumerate_1 _) (fun obj => F.args_object_init_2 obj _) F.entry_enumerate_new
    (dn_meets_enum1 B) ⟨h1, ?_⟩
  have hz : (s.heap.push o).objs.size = s.heap.objs.size + 1 := Heap.size_push ..
  show _ ∧ _
  rw [hz]
  have he : IsEnum ((s.heap.push o).push { cls := .type "enumerate", data := .fields #[.none, .bool false, .ref s.heap.objs.size, rawInt 0, .none, .none] }) (s.heap.objs.size + 1) s.heap.objs.size 0 .none := by
    have := Heap.get?_push_size (s.heap.push o) (o := { cls := .type "enumerate", data := .fields #[.none, .bool false, .ref s.heap.objs.size, rawInt 0, .none, .none] }) rfl
    rw [hz] at this; exact this
  refine ⟨⟨_, he, rfl⟩, h _ he (Heap.get?_push_of_some _ (Heap.get?_push_size _ B.free)) (by rw [Heap.size_push, hz]) fun b o x => Heap.get?_push_of_some _ (Heap.get?_push_of_some _ x)⟩
end PySem
namespace Dn
open PySem PySem.Spec PyProof.Rows L2
def IteM (K : PySem.W.Frag) (k : Bool) (a : Addr) : It :=
  ⟨fun i H => ∃ (xs : List V), Sq k K H a xs ∧ i < xs.length,
    fun i H v H' => ∃ T x, v = .ref T ∧ H T = none ∧ H' = upd H T (.tup [.int (i : Nat), x]) ∧ ∀ xs, Sq k K H a xs → xs[i]? = some x,
    fun i H => ∃ xs : List V, Sq k K H a xs ∧ i = xs.length⟩
theorem turn_enumM {P : Program} {w : World} {K : PySem.W.Frag} {elts : List Expr} {kk : Nat} {tpos : Pos} {k : Bool} {a e it : Addr} (hei : e ≠ it) (hea : e ≠ a) (hai : a ≠ it) :
    Turn P w K (.Tuple elts kk tpos) (IteM K k a) [e, it] e (fun i h => (∃ old, IsEnum h e it (0 + (i : Int)) old) ∧ ItK k h it a i) where
  mem := by simp
  obj := fun i h st c hc => by
    obtain ⟨⟨old, he⟩, h1⟩ := st
    have e' : c = e ∨ c = it := by simpa using hc
    rcases e' with q | q
    · rw [q]; exact ⟨_, he, fun v q => nomatch q⟩
    · rw [q]; exact h1.obj
  keep := fun i h h' st kk => by
    obtain ⟨⟨old, he⟩, h1⟩ := st
    exact ⟨⟨old, kk e (by simp) _ he⟩, h1.at fun o q => kk it (by simp) o q⟩
  item := by
    intro X hP hw hK hc i pins s σ H E I hf st hg
    subst hP hw hK
    obtain ⟨he, h1⟩ := st
    obtain ⟨xs, hqx, hx⟩ := hg
    obtain ⟨its, rv, p, la, _⟩ := sq_read I hqx
    have l1 := rv.length
    have D1 := drawsK k (prog := X.prog) (w := X.w) (A := X.A.in1) (I.ok.hd hc) it a hai its.toArray
    refine (GoesN.enumFrom (elts := elts) (x1 := kk) (pos := tpos) 0 D1 e hei (by simp [hei, hea]) (by simp)).goes i s _ E (by simp only [List.size_toArray]; omega) ⟨he, ⟨h1, p⟩⟩ fun v h' tk hY st' hk htk => ?_
    obtain ⟨T, t, x, rfl, hT, hx1, hTt⟩ := hY
    obtain ⟨he', ⟨h1', _⟩⟩ := st'
    have hTn : H T = none := I.hok.fresh hT
    have ex : its[i]? = some x := by simpa using hx1
    have gx : xs[i]? = some xs[i] := List.getElem?_eq_getElem hx
    obtain ⟨u, hu, ru⟩ := rv.get gx
    rw [ex] at hu
    cases hu
    have e0 : (0 : Int) + (i : Int) = (i : Int) := Int.zero_add _
    have new : ObjOk X.prog X.w (upd H T (.tup [.int (i : Nat), xs[i]])) h' T (.tup [.int (i : Nat), xs[i]]) := ⟨by show 2 ≤ sizeLine; decide, [.int (0 + (i : Int)) t, x], .cons ⟨t, by rw [e0]⟩ (.cons ru .nil), hTt⟩
    have I1 : Inv X pins σ (upd H T (.tup [.int (i : Nat), xs[i]])) { s with heap := h', toks := tk } := I.turnedNew (t' := tk) (ch := [e, it]) hk hf hT new
    refine ⟨.ref T, _, I1, rfl, ⟨T, xs[i], rfl, hTn, rfl, fun l hl => by rw [sq_inj I hl hqx]; exact gx⟩, ⟨he', h1'⟩, fun c hcm => ?_⟩
    have hlt : c < s.heap.objs.size := by
      have e' : c = e ∨ c = it := by simpa using hcm
      obtain ⟨old, he0⟩ := he
      rcases e' with q | q
      · rw [q]; exact Heap.lt_size he0
      · rw [q]; obtain ⟨_, e1, _⟩ := h1.obj; exact Heap.lt_size e1
    rw [upd_ne (Nat.ne_of_lt (Nat.lt_of_lt_of_le hlt hT))]
    exact (hf c hcm).1
  done := by
    intro X hP hw hK hc i pins s σ H E I hf st hg
    subst hP hw hK
    obtain ⟨he, h1⟩ := st
    obtain ⟨xs, hqx, hend⟩ := hg
    obtain ⟨its, rv, p, la, _⟩ := sq_read I hqx
    have l1 := rv.length
    have D1 := drawsK k (prog := X.prog) (w := X.w) (A := X.A.in1) (I.ok.hd hc) it a hai its.toArray
    have en : i = its.toArray.size := by simp only [List.size_toArray]; omega
    subst en
    exact (GoesN.enumFrom (elts := elts) (x1 := kk) (pos := tpos) 0 D1 e hei (by simp [hei, hea]) (by simp)).stops s _ E ⟨he, ⟨h1, p⟩⟩ fun h' tk hk htk => I.turnedL (t' := tk) (ch := [e, it]) hk hf
  self := fun A i s Q E st h => let ⟨⟨_, he⟩, _⟩ := st; wpAny_pyIter_enum he h
def iEnumM (K : PySem.W.Frag) (ta : TA) : TI := fun σ H R => ta σ H fun vs H1 => ∃ k a xs, vs = [.ref a] ∧ Sq k K H1 a xs ∧ R (IteM K k a) H1
theorem pi_enumM {X : Cx} {e : Expr} {ta : TA} {p pos tpos : Pos} {elts : List Expr} {kk : Nat} (hg : Gl X "enumerate") (hm : X.mg "enumerate" = none) (ha : PA X [e] ta) (hs : starEach [e] X.env = [(false, eval e X.env)] := by rfl) :
    PI X (.Tuple elts kk tpos) (.Call (.Name "enumerate" p) [e] [] pos) (iEnumM X.K ta) := by
  refine ⟨fun pins s σ H R I h => ?_⟩
  refine Call_ (ld_blt I hg hm boot_enumerate (PyProof.Rows.callWith_type1 (thn (ha.run pos pins s σ H _ I h) fun us s1 ⟨vs, H1, I1, r1, q1⟩ => ?_) hs rfl))
  obtain ⟨k, a, xs, ex, hq, q⟩ := q1
  subst ex
  cases r1 with
  | cons r rr =>
    cases rr
    cases r
    obtain ⟨its, rv, p', la, _⟩ := sq_read I1 hq
    refine dn_enum1 (beginsK k a its.toArray) p' fun h' he h1 hsz hk => wpAny_pyIter_enum he ?_
    have I2 : Inv X pins σ H1 { s1 with heap := h' } := I1.kept (t' := s1.toks) hk
    refine ⟨s1.heap.objs.size + 1, [s1.heap.objs.size + 1, s1.heap.objs.size], _, _, H1, rfl, I2, turn_enumM (k := k) (a := a) (Nat.succ_ne_self _) (Ne.symm (Nat.ne_of_lt (Nat.lt_succ_of_lt la))) (Nat.ne_of_lt la), ⟨⟨.none, he⟩, itK_new h1⟩, fun b hb => ?_, q⟩
    have e' : b = s1.heap.objs.size + 1 ∨ b = s1.heap.objs.size := by simpa using hb
    have hle : s1.heap.objs.size ≤ b := by
      rcases e' with z | z
      · rw [z]; exact Nat.le_add_right _ _
      · rw [z]; exact Nat.le_refl _
    exact I1.fpOk hle (I1.hok.fresh hle)
end Dn

set_option Elab.async false
set_option linter.all false
set_option maxRecDepth 100000
set_option maxHeartbeats 4000000
/-! Dn6: walks, targets, loops, comprehensions, statements, by data. -/
namespace Dn
open PySem PySem.Spec PyProof.Rows L2

/-! ### walks by data -/
structure ItR (K : PySem.W.Frag) (G : Hp) (J : It) (ds : List D) : Prop where
  go : ∀ (i : Nat) (H : Hp), Sub G H → i < ds.length → J.go i H
  stop : ∀ (H : Hp), Sub G H → J.stop ds.length H
  yld : ∀ (i : Nat) (H : Hp) (x : V) (H' : Hp) (d : D), Sub G H → ds[i]? = some d → J.yld i H x H' → ∀ G1, Sub G G1 → Sub G1 H → ∃ G2, Grow G1 H G2 H' ∧ Rep K G2 d x
def tI (K : PySem.W.Frag) (c : Cg) (m : M (List D)) : TI := fun σ H R => ∃ B G ρ, Rl K c B G H σ ρ ∧ XPost K c B σ G (fun ds _ G' H' => ∀ J, ItR K G' J ds → R J H') (m ρ)
theorem PI_imp {X : Cx} {tg e : Expr} {t t' : TI} (h : PI X tg e t) (f : ∀ σ H R, t' σ H R → t σ H R) : PI X tg e t' := ⟨fun pins s σ H R I q => h.run pins s σ H R I (f σ H R q)⟩
theorem ItR.list {K : PySem.W.Frag} {G : Hp} {a : Addr} {vs : List V} {ds : List D} (h : SqL K G a vs) (r : Reps K G ds vs) : ItR K G (Itl K a) ds where
  go := fun i H s hi => ⟨vs, vs[i]'(by rw [r.length]; exact hi), s.l h, by simp [r.length, hi]⟩
  stop := fun H s => ⟨vs, s.l h, by rw [r.length]; exact Nat.le_refl _⟩
  yld := fun i H x H' d s e y G1 g1 g2 => by
    obtain ⟨rfl, y⟩ := y
    obtain ⟨v, hv, rv⟩ := r.get i d e
    have q := y vs (s.l h)
    rw [hv] at q
    cases q
    exact ⟨G1, .refl g2, rv.mono g1⟩
theorem ItR.tup {K : PySem.W.Frag} {G : Hp} {a : Addr} {vs : List V} {ds : List D} (h : SqT K G a vs) (r : Reps K G ds vs) : ItR K G (Itt K a) ds where
  go := fun i H s hi => ⟨vs, vs[i]'(by rw [r.length]; exact hi), s.t h, by simp [r.length, hi]⟩
  stop := fun H s => ⟨vs, s.t h, by rw [r.length]; exact Nat.le_refl _⟩
  yld := fun i H x H' d s e y G1 g1 g2 => by
    obtain ⟨rfl, y⟩ := y
    obtain ⟨v, hv, rv⟩ := r.get i d e
    have q := y vs (s.t h)
    rw [hv] at q
    cases q
    exact ⟨G1, .refl g2, rv.mono g1⟩
/-- lo, lo + c, .., n of them -/
def rngD (lo c : Int) (n : Nat) : List D := (List.range n).map fun (i : Nat) => D.int (lo + (i : Int) * c)
theorem rngD_length {lo c : Int} {n : Nat} : (rngD lo c n).length = n := by unfold rngD; rw [List.length_map, List.length_range]
theorem rngD_get {lo c : Int} {n i : Nat} {d : D} (h : (rngD lo c n)[i]? = some d) : i < n ∧ d = .int (lo + (i : Int) * c) := by
  unfold rngD at h
  rw [List.getElem?_map] at h
  by_cases hi : i < n
  · rw [List.getElem?_range hi] at h
    exact ⟨hi, (Option.some.inj h).symm⟩
  · rw [List.getElem?_eq_none (by rw [List.length_range]; omega)] at h
    cases h
theorem ItR.range {K : PySem.W.Frag} {G : Hp} {lo : Int} {n : Nat} : ItR K G (Itr lo n) (rngD lo 1 n) where
  go := fun i H s hi => by rw [rngD_length] at hi; exact hi
  stop := fun H s => by rw [rngD_length]; exact Nat.le_refl _
  yld := fun i H x H' d s e y G1 g1 g2 => by
    obtain ⟨rfl, rfl⟩ := y
    obtain ⟨_, rfl⟩ := rngD_get e
    exact ⟨G1, .refl g2, by rw [Int.mul_one]; exact rep_int⟩
theorem ItR.rangeC {K : PySem.W.Frag} {G : Hp} {lo c : Int} {n : Nat} : ItR K G (Itc lo c n) (rngD lo c n) where
  go := fun i H s hi => by rw [rngD_length] at hi; exact hi
  stop := fun H s => by rw [rngD_length]; exact Nat.le_refl _
  yld := fun i H x H' d s e y G1 g1 g2 => by
    obtain ⟨rfl, rfl⟩ := y
    obtain ⟨_, rfl⟩ := rngD_get e
    exact ⟨G1, .refl g2, rep_int⟩
def zipD : List D → List D → List D
  | a :: as, b :: bs => .tup [a, b] :: zipD as bs
  | _, _ => []
theorem zipD_length : ∀ (as bs : List D), (zipD as bs).length = min as.length bs.length
  | [], _ => by simp [zipD]
  | _ :: _, [] => by simp [zipD]
  | a :: as, b :: bs => by simp [zipD, zipD_length as bs]
theorem zipD_get : ∀ {as bs : List D} {i : Nat} {d : D}, (zipD as bs)[i]? = some d → ∃ a b, as[i]? = some a ∧ bs[i]? = some b ∧ d = .tup [a, b]
  | [], _, _, _, h => by simp [zipD] at h
  | _ :: _, [], _, _, h => by simp [zipD] at h
  | a :: as, b :: bs, 0, d, h => by
    simp [zipD] at h
    exact ⟨a, b, rfl, rfl, h.symm⟩
  | a :: as, b :: bs, i + 1, d, h => by
    obtain ⟨x, y, h1, h2, h3⟩ := zipD_get (as := as) (bs := bs) (i := i) (d := d) (by simpa [zipD] using h)
    exact ⟨x, y, by simpa using h1, by simpa using h2, h3⟩
theorem ItR.zip {K : PySem.W.Frag} {G : Hp} {k1 k2 : Bool} {a b : Addr} {vs ws : List V} {ds es : List D} (h1 : Sq k1 K G a vs) (r1 : Reps K G ds vs) (h2 : Sq k2 K G b ws) (r2 : Reps K G es ws) : ItR K G (ItzM K k1 k2 a b) (zipD ds es) where
  go := fun i H s hi => by
    rw [zipD_length] at hi
    exact ⟨vs, ws, s.sq h1, s.sq h2, by rw [r1.length]; omega, by rw [r2.length]; omega⟩
  stop := fun H s => by
    rw [zipD_length]
    exact ⟨vs, ws, s.sq h1, s.sq h2, by rw [r1.length, r2.length]⟩
  yld := fun i H x H' d s e y G1 g1 g2 => by
    obtain ⟨T, u, v, rfl, hT, rfl, hu, hv⟩ := y
    obtain ⟨d1, d2, e1, e2, rfl⟩ := zipD_get e
    obtain ⟨u', f1, q1⟩ := r1.get i d1 e1
    obtain ⟨v', f2, q2⟩ := r2.get i d2 e2
    have z1 := hu vs (s.sq h1)
    have z2 := hv ws (s.sq h2)
    rw [f1] at z1
    rw [f2] at z2
    cases z1
    cases z2
    have g := Grow.new (o := .tup [u, v]) g2 hT
    exact ⟨_, g, rep_tup upd_same (.cons ((q1.mono g1).mono g.gg) (.one ((q2.mono g1).mono g.gg)))⟩
def enumD : Nat → List D → List D
  | _, [] => []
  | n, d :: ds => .tup [.int (n : Nat), d] :: enumD (n + 1) ds
theorem enumD_length : ∀ (n : Nat) (ds : List D), (enumD n ds).length = ds.length
  | _, [] => rfl
  | n, d :: ds => by simp [enumD, enumD_length (n + 1) ds]
theorem enumD_get : ∀ {n : Nat} {ds : List D} {i : Nat} {d : D}, (enumD n ds)[i]? = some d → ∃ e, ds[i]? = some e ∧ d = .tup [.int ((n + i : Nat) : Int), e]
  | n, [], i, d, h => by simp [enumD] at h
  | n, x :: ds, 0, d, h => by
    simp [enumD] at h
    exact ⟨x, rfl, h.symm⟩
  | n, x :: ds, i + 1, d, h => by
    obtain ⟨e, h1, h2⟩ := enumD_get (n := n + 1) (ds := ds) (i := i) (d := d) (by simpa [enumD] using h)
    refine ⟨e, by simpa using h1, ?_⟩
    rw [h2, show n + 1 + i = n + (i + 1) by omega]
theorem ItR.enum {K : PySem.W.Frag} {G : Hp} {k : Bool} {a : Addr} {vs : List V} {ds : List D} (h1 : Sq k K G a vs) (r1 : Reps K G ds vs) : ItR K G (IteM K k a) (enumD 0 ds) where
  go := fun i H s hi => by
    rw [enumD_length] at hi
    exact ⟨vs, s.sq h1, by rw [r1.length]; exact hi⟩
  stop := fun H s => by
    rw [enumD_length]
    exact ⟨vs, s.sq h1, r1.length.symm⟩
  yld := fun i H x H' d s e y G1 g1 g2 => by
    obtain ⟨T, u, rfl, hT, rfl, hu⟩ := y
    obtain ⟨d1, e1, rfl⟩ := enumD_get e
    obtain ⟨u', f1, q1⟩ := r1.get i d1 e1
    have z1 := hu vs (s.sq h1)
    rw [f1] at z1
    cases z1
    have g := Grow.new (o := .tup [.int (i : Nat), u]) g2 hT
    rw [Nat.zero_add]
    exact ⟨_, g, rep_tup upd_same (.cons rep_int (.one ((q1.mono g1).mono g.gg)))⟩
section
variable {X : Cx} {c : Cg} {B : Hp} {a b e : Expr} {es : List Expr} {ma mb : M D} {ra : M (List Pa)} {pos p tpos : Pos} {tg : Expr} {elts : List Expr} {kk : Nat}
def itM (ma : M D) : M (List D) := bind ma fun d => lift (items d)
theorem pdi_seq (ha : PE X a (tD X.K c ma)) : PI X tg a (tI X.K c (itM ma)) := ⟨fun pins s σ H R I h => by
  obtain ⟨B, G, ρ, r, h⟩ := h
  have h := XPost.bind h
  cases e : ma ρ with
  | no => rw [e] at h; exact h.elim
  | err x ρ' =>
    refine (pi_list ha).run pins s σ H R I ⟨B, G, ρ, r, ?_⟩
    rw [e] at h ⊢
    exact h
  | ok d ρ' =>
    rw [e] at h
    have h : ∀ G' H', Sub G G' → Rl X.K c B G' H' σ ρ' → XPost X.K c B σ G' (fun ds _ G' H' => ∀ J, ItR X.K G' J ds → R J H') (lift (items d) ρ') := h
    cases d with
    | tup ds =>
      refine (pi_tup ha).run pins s σ H R I ⟨B, G, ρ, r, ?_⟩
      rw [e]
      intro G1 H1 s1 r1 v rv
      obtain ⟨a, vs, rfl, h1, h2⟩ := repTup rv
      exact ⟨a, rfl, ⟨vs, r1.sub.t (tsq h1)⟩, h G1 H1 s1 r1 G1 H1 (.refl G1) r1 _ (.tup (tsq h1) h2)⟩
    | kt ds =>
      refine (pi_tup ha).run pins s σ H R I ⟨B, G, ρ, r, ?_⟩
      rw [e]
      intro G1 H1 s1 r1 v rv
      obtain ⟨a, vs, rfl, h1, h2⟩ := repKt rv
      exact ⟨a, rfl, ⟨vs, r1.sub.t h1⟩, h G1 H1 s1 r1 G1 H1 (.refl G1) r1 _ (.tup h1 h2)⟩
    | lst ds =>
      refine (pi_list ha).run pins s σ H R I ⟨B, G, ρ, r, ?_⟩
      rw [e]
      intro G1 H1 s1 r1 v rv
      obtain ⟨a, vs, rfl, h1, h2⟩ := repLst rv
      exact ⟨a, rfl, ⟨vs, r1.sub.l (lsq h1)⟩, h G1 H1 s1 r1 G1 H1 (.refl G1) r1 _ (.list (lsq h1) h2)⟩
    | fl ds =>
      refine (pi_list ha).run pins s σ H R I ⟨B, G, ρ, r, ?_⟩
      rw [e]
      intro G1 H1 s1 r1 v rv
      obtain ⟨a, vs, rfl, h1, h2⟩ := repFl rv
      exact ⟨a, rfl, ⟨vs, r1.sub.l h1⟩, h G1 H1 s1 r1 G1 H1 (.refl G1) r1 _ (.list h1 h2)⟩
    | _ =>
      refine (pi_list ha).run pins s σ H R I ⟨B, G, ρ, r, ?_⟩
      rw [e]
      intro G1 H1 s1 r1 v rv
      exact (h G1 H1 s1 r1).elim⟩
/-! ### ranges, zip, enumerate -/
def lim (i : Int) : Prop := -(2 ^ 62) ≤ i ∧ i < 2 ^ 62
instance (i : Int) : Decidable (lim i) := inferInstanceAs (Decidable (_ ∧ _))
def dRng : List D → Option (List D)
  | [.int j] => if lim j then some (rngD 0 1 j.toNat) else none
  | [.int i, .int j] => if lim i ∧ lim j then some (rngD i 1 (j - i).toNat) else none
  | [.int i, .int j, .int c] => if lim i ∧ lim j ∧ c = -1 then some (rngD i (-1) (i - j).toNat) else none
  | _ => none
def rngM (ra : M (List Pa)) : M (List D) := bind (mAs ra) fun ds => lift (dRng ds)
theorem rngM_read {σ : L2.St} {H : Hp} {R : It → Hp → Prop} (h : tI X.K c (rngM ra) σ H R) : tA X.K c ra σ H fun vs H1 => ∃ ds zs, (∃ G, Sub G H1 ∧ Reps X.K G ds vs) ∧ dRng ds = some zs ∧ ∀ J, (∀ G, ItR X.K G J zs) → R J H1 := by
  obtain ⟨B, G, ρ, r, h⟩ := h
  refine ⟨B, G, ρ, r, (mAs_read h).imp fun ps ρ1 G1 H1 s1 r1 ⟨ds, e, h1⟩ vs rvs => ?_⟩
  obtain ⟨z, hz, k⟩ := h1.lift
  exact ⟨ds, z, ⟨G1, r1.sub, datas_reps e rvs⟩, hz, fun J hJ => k G1 H1 (.refl G1) r1 J (hJ G1)⟩
theorem tA_imp {σ : L2.St} {H : Hp} {Q Q' : List V → Hp → Prop} (h : tA X.K c ra σ H Q) (f : ∀ vs H', Q vs H' → Q' vs H') : tA X.K c ra σ H Q' := by
  obtain ⟨B, G, ρ, r, h⟩ := h
  exact ⟨B, G, ρ, r, h.imp fun ps ρ1 G1 H1 s1 r1 h1 vs rvs => f vs H1 (h1 vs rvs)⟩
def rng1 : List D → Option (List D)
  | [.int j] => if lim j then some (rngD 0 1 j.toNat) else none
  | _ => none
theorem rng1_inv {ds z : List D} (h : rng1 ds = some z) : ∃ j, ds = [.int j] ∧ lim j ∧ z = rngD 0 1 j.toNat := by
  unfold rng1 at h
  split at h
  · obtain ⟨hc, rfl⟩ := ite_some h
    exact ⟨_, rfl, hc, rfl⟩
  · cases h
def rngM1 (ra : M (List Pa)) : M (List D) := bind (mAs ra) fun ds => lift (rng1 ds)
theorem pdi_range1 (hg : Gl X "range") (hm : X.mg "range" = none) (ha : PA X [a] (tA X.K c ra)) (hs : starEach [a] X.env = [(false, eval a X.env)] := by rfl) : PI X tg (.Call (.Name "range" p) [a] [] pos) (tI X.K c (rngM1 ra)) :=
  PI_imp (pi_range1 hg hm ha hs) fun σ H R h => by
    obtain ⟨B, G, ρ, r, h⟩ := h
    refine ⟨B, G, ρ, r, (mAs_read h).imp fun ps ρ1 G1 H1 s1 r1 ⟨ds, e, h1⟩ vs rvs => ?_⟩
    have rs := datas_reps e rvs
    obtain ⟨z, hz, k⟩ := h1.lift
    obtain ⟨j, rfl, hc, rfl⟩ := rng1_inv hz
    obtain ⟨v, rfl, rv⟩ := reps1 rs
    exact ⟨j, by rw [repInt rv], hc.1, hc.2, k G1 H1 (.refl G1) r1 _ .range⟩
def rng2 : List D → Option (List D)
  | [.int i, .int j] => if lim i ∧ lim j then some (rngD i 1 (j - i).toNat) else none
  | _ => none
def rng3 : List D → Option (List D)
  | [.int i, .int j, .int k] => if lim i ∧ lim j ∧ k = -1 then some (rngD i (-1) (i - j).toNat) else none
  | _ => none
def rngM2 (ra : M (List Pa)) : M (List D) := bind (mAs ra) fun ds => lift (rng2 ds)
def rngM3 (ra : M (List Pa)) : M (List D) := bind (mAs ra) fun ds => lift (rng3 ds)
theorem rng2_inv {ds z : List D} (h : rng2 ds = some z) : ∃ i j, ds = [.int i, .int j] ∧ (lim i ∧ lim j) ∧ z = rngD i 1 (j - i).toNat := by
  unfold rng2 at h
  split at h
  · obtain ⟨hc, rfl⟩ := ite_some h
    exact ⟨_, _, rfl, hc, rfl⟩
  · cases h
theorem rng3_inv {ds z : List D} (h : rng3 ds = some z) : ∃ i j, ds = [.int i, .int j, .int (-1)] ∧ (lim i ∧ lim j) ∧ z = rngD i (-1) (i - j).toNat := by
  unfold rng3 at h
  split at h
  · obtain ⟨hc, rfl⟩ := ite_some h
    obtain ⟨h1, h2, rfl⟩ := hc
    exact ⟨_, _, rfl, ⟨h1, h2⟩, rfl⟩
  · cases h
theorem pdi_range2 (hg : Gl X "range") (hm : X.mg "range" = none) (ha : PA X [a, b] (tA X.K c ra)) (hs : starEach [a, b] X.env = [(false, eval a X.env), (false, eval b X.env)] := by rfl) (hs2 : starEach [b] X.env = [(false, eval b X.env)] := by rfl) :
    PI X tg (.Call (.Name "range" p) [a, b] [] pos) (tI X.K c (rngM2 ra)) :=
  PI_imp (pi_range2 hg hm ha hs hs2) fun σ H R h => by
    obtain ⟨B, G, ρ, r, h⟩ := h
    refine ⟨B, G, ρ, r, (mAs_read h).imp fun ps ρ1 G1 H1 s1 r1 ⟨ds, e, h1⟩ vs rvs => ?_⟩
    have rs := datas_reps e rvs
    obtain ⟨z, hz, k⟩ := h1.lift
    obtain ⟨i, j, rfl, hc, rfl⟩ := rng2_inv hz
    obtain ⟨v, w, rfl, rv, rw'⟩ := reps2 rs
    exact ⟨i, j, by rw [repInt rv, repInt rw'], ⟨hc.1.1, hc.1.2, hc.2.1, hc.2.2⟩, k G1 H1 (.refl G1) r1 _ .range⟩
/-- downwards by ones -/
theorem pdi_range3 {e3 : Expr} (hg : Gl X "range") (hm : X.mg "range" = none) (ha : PA X [a, b, e3] (tA X.K c ra)) (hs : starEach [a, b, e3] X.env = (false, eval a X.env) :: starEach [b, e3] X.env := by rfl) (hpl : (backTo pos (starEach [b, e3] X.env)).any (·.1) = false := by rfl) :
    PI X tg (.Call (.Name "range" p) [a, b, e3] [] pos) (tI X.K c (rngM3 ra)) :=
  PI_imp (pi_range3 hg hm ha hs hpl) fun σ H R h => by
    obtain ⟨B, G, ρ, r, h⟩ := h
    refine ⟨B, G, ρ, r, (mAs_read h).imp fun ps ρ1 G1 H1 s1 r1 ⟨ds, e, h1⟩ vs rvs => ?_⟩
    have rs := datas_reps e rvs
    obtain ⟨z, hz, k⟩ := h1.lift
    obtain ⟨i, j, rfl, hc, rfl⟩ := rng3_inv hz
    obtain ⟨h1', h2'⟩ := hc
    obtain ⟨v, r0, rfl, rv, rr⟩ := rs.cons_inv
    obtain ⟨w, u, rfl, rw', ru⟩ := reps2 rr
    exact ⟨i, j, -1, _, by rw [repInt rv, repInt rw', repInt ru], RgC.neg h1'.1 h1'.2 h2'.1 h2'.2, k G1 H1 (.refl G1) r1 _ .rangeC⟩
def zipM (ra : M (List Pa)) : M (List D) := bind (mAs ra) fun ds => match ds with
  | [d, e] => lift ((items d).bind fun xs => (items e).map fun ys => zipD xs ys)
  | _ => fail
theorem items_sq {K : PySem.W.Frag} {G : Hp} {d : D} {ds : List D} {v : V} (e : items d = some ds) (h : Rep K G d v) : ∃ k a vs, v = .ref a ∧ Sq k K G a vs ∧ Reps K G ds vs := by
  obtain ⟨a, vs, h1, h2, h3⟩ := items_rep e h
  rcases h2 with h2 | h2
  · exact ⟨true, a, vs, h1, h2, h3⟩
  · exact ⟨false, a, vs, h1, h2, h3⟩
theorem pdi_zip {e2 : Expr} (hg : Gl X "zip") (hm : X.mg "zip" = none) (ha : PA X [e, e2] (tA X.K c ra)) (hs : starEach [e, e2] X.env = (false, eval e X.env) :: starEach [e2] X.env := by rfl) (hpl : (backTo pos (starEach [e2] X.env)).any (·.1) = false := by rfl) :
    PI X (.Tuple elts kk tpos) (.Call (.Name "zip" p) [e, e2] [] pos) (tI X.K c (zipM ra)) :=
  PI_imp (pi_zipM hg hm ha hs hpl) fun σ H R h => by
    obtain ⟨B, G, ρ, r, h⟩ := h
    refine ⟨B, G, ρ, r, (mAs_read h).imp fun ps ρ1 G1 H1 s1 r1 ⟨ds, e, h1⟩ vs rvs => ?_⟩
    have rs := datas_reps e rvs
    split at h1
    · rename_i d1 d2
      obtain ⟨z, hz, k⟩ := h1.lift
      cases q1 : items d1 with
      | none => rw [q1] at hz; cases hz
      | some xs =>
        rw [q1] at hz
        cases q2 : items d2 with
        | none => rw [Option.bind_some, q2] at hz; cases hz
        | some ys =>
          rw [Option.bind_some, q2] at hz
          cases hz
          obtain ⟨v, w, rfl, rv, rw'⟩ := reps2 rs
          obtain ⟨k1, a1, vs1, rfl, g1, g2⟩ := items_sq q1 rv
          obtain ⟨k2, a2, vs2, rfl, g3, g4⟩ := items_sq q2 rw'
          exact ⟨k1, k2, a1, a2, vs1, vs2, rfl, r1.sub.sq g1, r1.sub.sq g3, k G1 H1 (.refl G1) r1 _ (.zip g1 g2 g3 g4)⟩
    · exact h1.elim
def enumM (ra : M (List Pa)) : M (List D) := bind (mAs ra) fun ds => match ds with
  | [d] => lift ((items d).map fun xs => enumD 0 xs)
  | _ => fail
theorem pdi_enum (hg : Gl X "enumerate") (hm : X.mg "enumerate" = none) (ha : PA X [e] (tA X.K c ra)) (hs : starEach [e] X.env = [(false, eval e X.env)] := by rfl) : PI X (.Tuple elts kk tpos) (.Call (.Name "enumerate" p) [e] [] pos) (tI X.K c (enumM ra)) :=
  PI_imp (pi_enumM hg hm ha hs) fun σ H R h => by
    obtain ⟨B, G, ρ, r, h⟩ := h
    refine ⟨B, G, ρ, r, (mAs_read h).imp fun ps ρ1 G1 H1 s1 r1 ⟨ds, e, h1⟩ vs rvs => ?_⟩
    have rs := datas_reps e rvs
    split at h1
    · rename_i d1
      obtain ⟨z, hz, k⟩ := h1.lift
      cases q1 : items d1 with
      | none => rw [q1] at hz; cases hz
      | some xs =>
        rw [q1] at hz
        cases hz
        obtain ⟨v, rfl, rv⟩ := reps1 rs
        obtain ⟨k1, a1, vs1, rfl, g1, g2⟩ := items_sq q1 rv
        exact ⟨k1, a1, vs1, rfl, r1.sub.sq g1, k G1 H1 (.refl G1) r1 _ (.enum g1 g2)⟩
    · exact h1.elim

/-! ### targets -/
abbrev Tg := D → Rho → Option Rho
/-- what an assignment to a target comes to; ts: the slots that it may change -/
def gD (K : PySem.W.Frag) (c : Cg) (t : Tg) (ts : List Nat) : TG := fun x σ H Q => ∃ B G ρ d ρ', Rl K c B G H σ ρ ∧ Rep K G d x ∧ t d ρ = some ρ' ∧ ∀ σ', Rl K c B G H σ' ρ' → σ'.length = σ.length → (∀ (j : Nat), j ∉ ts → σ'[j]? = σ[j]?) → Q σ' H
def npin (c : Cg) (i : Nat) : Bool := match c.Pn[i]? with
  | some (some _) => false
  | _ => true
theorem npin_ok {c : Cg} {i : Nat} (h : npin c i = true) : ∀ w, c.Pn[i]? ≠ some (some w) := fun w e => by
  unfold npin at h
  rw [e] at h
  cases h
theorem PG_imp {t t' : TG} (h : PG X tg t) (f : ∀ x σ H Q, t' x σ H Q → t x σ H Q) : PG X tg t' := ⟨fun pins s σ H x u Q I rx q => h.run pins s σ H x u Q I rx (f x σ H Q q)⟩
def tgN (i : Nat) : Tg := fun d ρ => some (ρ.set i (some (.fz d)))
theorem pdg_name {i : Nat} {x : Str} (hN : X.N.Nodup) (hi : X.N[i]? = some x := by rfl) (hx : Loc X.env.scope x := by first | exact Or.inl rfl | exact Or.inr rfl) (hp : npin c i = true := by rfl) (hf : X.fn x = true ∨ X.env.scope.names.lookup x = some .local := by first | exact .inl rfl | exact .inr rfl) : PG X (.Name x pos) (gD X.K c (tgN i) [i]) :=
  PG_imp (pg_name hN hi hx hf) fun x σ H Q h => by
    obtain ⟨B, G, ρ, d, ρ', r, rx, e, k⟩ := h
    cases e
    exact k _ (r.put (npin_ok hp) rx) (by rw [List.length_set]) fun j hj => by
      rw [List.getElem?_set_ne (fun z => hj (by rw [z]; exact List.mem_singleton_self _))]
abbrev Tgs := List D → Rho → Option Rho
def gDs (K : PySem.W.Frag) (c : Cg) (t : Tgs) (ts : List Nat) : TGs := fun xs σ H Q => ∃ B G ρ ds ρ', Rl K c B G H σ ρ ∧ Reps K G ds xs ∧ t ds ρ = some ρ' ∧ ∀ σ', Rl K c B G H σ' ρ' → σ'.length = σ.length → (∀ (j : Nat), j ∉ ts → σ'[j]? = σ[j]?) → Q σ' H
def tgsNil : Tgs := fun ds ρ => match ds with
  | [] => some ρ
  | _ => none
def tgsCons (t : Tg) (u : Tgs) : Tgs := fun ds ρ => match ds with
  | d :: r => (t d ρ).bind fun ρ1 => u r ρ1
  | [] => none
theorem PGs_imp {ts : List Expr} {t t' : TGs} (h : PGs X ts t) (f : ∀ x σ H Q, t' x σ H Q → t x σ H Q) : PGs X ts t' := ⟨fun pins s σ H x u Q I rx q => h.run pins s σ H x u Q I rx (f x σ H Q q)⟩
theorem pdgs_nil : PGs X [] (gDs X.K c tgsNil []) := PGs_imp pgs_nil fun xs σ H Q h => by
  obtain ⟨B, G, ρ, ds, ρ', r, rx, e, k⟩ := h
  cases ds with
  | nil =>
    cases e
    exact ⟨rx.nil_inv, k σ r rfl fun _ _ => rfl⟩
  | cons _ _ => cases e
theorem pdgs_cons {t1 : Expr} {ts : List Expr} {t : Tg} {u : Tgs} {l1 l2 : List Nat} (h1 : PG X t1 (gD X.K c t l1)) (h2 : PGs X ts (gDs X.K c u l2)) (hg : PGs X (t1 :: ts) (gCons (gD X.K c t l1) (gDs X.K c u l2))) : PGs X (t1 :: ts) (gDs X.K c (tgsCons t u) (l1 ++ l2)) :=
  PGs_imp hg fun xs σ H Q h => by
    obtain ⟨B, G, ρ, ds, ρ', r, rx, e, k⟩ := h
    cases ds with
    | nil => cases e
    | cons d ds =>
      obtain ⟨v, w, rfl, r1, r2⟩ := rx.cons_inv
      have e : (t d ρ).bind (fun ρ1 => u ds ρ1) = some ρ' := e
      cases q : t d ρ with
      | none => rw [q] at e; cases e
      | some ρ1 =>
        rw [q] at e
        exact ⟨v, w, rfl, B, G, ρ, d, ρ1, r, r1, q, fun σ1 rl1 hl1 ho1 => ⟨B, G, ρ1, ds, ρ', rl1, r2, e, fun σ2 rl2 hl2 ho2 => k σ2 rl2 (hl2.trans hl1) fun j hj => by
          rw [List.mem_append, not_or] at hj
          exact (ho2 j hj.2).trans (ho1 j hj.1)⟩⟩
/-- a tuple or a list into names -/
def tgT (n : Nat) (t : Tgs) : Tg := fun d ρ => (items d).bind fun ds => if ds.length = n then t ds ρ else none
theorem pdg_tup {es : List Expr} {k n : Nat} {t : Tgs} {l : List Nat} (hT : PG X (.Tuple es k pos) (gTup X.K n (gDs X.K c t l))) (hU : PG X (.Tuple es k pos) (gUnl X.K n (gDs X.K c t l))) : PG X (.Tuple es k pos) (gD X.K c (tgT n t) l) := ⟨fun pins s σ H x u Q I rx h => by
  obtain ⟨B, G, ρ, d, ρ', r, rd, e, k⟩ := h
  cases q : items d with
  | none =>
    unfold tgT at e
    rw [q] at e
    cases e
  | some ds =>
    unfold tgT at e
    rw [q] at e
    have e : (if ds.length = n then t ds ρ else none) = some ρ' := e
    by_cases hl : ds.length = n
    · rw [if_pos hl] at e
      obtain ⟨a, vs, rfl, h1, h2⟩ := items_rep q rd
      rcases h1 with h1 | h1
      · exact hU.run pins s σ H _ u Q I rx ⟨a, vs, rfl, r.sub.l h1, by rw [h2.length]; exact hl, B, G, ρ, ds, ρ', r, h2, e, k⟩
      · exact hT.run pins s σ H _ u Q I rx ⟨a, vs, rfl, r.sub.t h1, by rw [h2.length]; exact hl, B, G, ρ, ds, ρ', r, h2, e, k⟩
    · rw [if_neg hl] at e
      cases e⟩
theorem pdgs_c {t1 : Expr} {ts : List Expr} {t : Tg} {u : Tgs} {l1 l2 : List Nat} (h1 : PG X t1 (gD X.K c t l1)) (h2 : PGs X ts (gDs X.K c u l2)) (hs : (assignEach (t1 :: ts) X.env).map (·.2) = assign t1 X.env :: (assignEach ts X.env).map (·.2) := by rfl) :
    PGs X (t1 :: ts) (gDs X.K c (tgsCons t u) (l1 ++ l2)) := pdgs_cons h1 h2 (pgs_cons h1 h2 hs)
theorem pdg_t {es : List Expr} {k n : Nat} {t : Tgs} {l : List Nat} (hc : X.calm = true) (h : PGs X es (gDs X.K c t l)) (hn : (assignEach es X.env).length = n := by rfl) (hst : (assignEach es X.env).findIdx? (·.1) = none := by rfl) :
    PG X (.Tuple es k pos) (gD X.K c (tgT n t) l) := pdg_tup (pg_tup hc h hn hst) (pg_unl hc h hn hst)
end
end Dn

set_option Elab.async false
set_option linter.all false
set_option maxRecDepth 100000
set_option maxHeartbeats 4000000
/-! Dn7: statements, loops and comprehensions, by data. -/
namespace Dn
open PySem PySem.Spec PyProof.Rows L2

/-- how a statement goes on: to the next one, out of a loop, to its next turn; a value comes back, or a new object of one's own -/
inductive Fl where
  | nx | bk | ct
  | rt (d : D)
  | rn (o : OO)
def SPost (K : PySem.W.Frag) (c : Cg) (B G : Hp) (De : Ends) : Rs Fl → Prop
  | .ok .nx ρ' => ∀ σ' G' H', Sub G G' → Rl K c B G' H' σ' ρ' → De.nx σ' H'
  | .ok .bk ρ' => ∀ σ' G' H', Sub G G' → Rl K c B G' H' σ' ρ' → De.bk σ' H'
  | .ok .ct ρ' => ∀ σ' G' H', Sub G G' → Rl K c B G' H' σ' ρ' → De.ct σ' H'
  | .ok (.rt d) ρ' => ∀ σ' G' H' v, Sub G G' → Rl K c B G' H' σ' ρ' → Rep K G' d v → De.rt v H'
  | .ok (.rn o) ρ' => ∀ σ' G' H' p, Sub G G' → Rl K c B G' H' σ' ρ' → New B G' σ' ρ' p → ORep K G' H' p o → De.rt (.ref p) H'
  | .err x ρ' => ∀ σ' dx G' H', Sub G G' → Rl K c B G' H' σ' ρ' → XRep K G' H' x dx → c.W (.ref x.cls) dx σ' H'
  | .no => False
def tS (K : PySem.W.Frag) (c : Cg) (m : M Fl) : TS := fun De σ H => ∃ B G ρ, Rl K c B G H σ ρ ∧ SPost K c B G De (m ρ)
theorem SPost.at {K : PySem.W.Frag} {c : Cg} {B G G1 : Hp} {De : Ends} {r : Rs Fl} (h : SPost K c B G De r) (s : Sub G G1) : SPost K c B G1 De r := by
  cases r with
  | ok f ρ' => cases f with
    | nx => exact fun σ' G' H' z r => h σ' G' H' (s.trans z) r
    | bk => exact fun σ' G' H' z r => h σ' G' H' (s.trans z) r
    | ct => exact fun σ' G' H' z r => h σ' G' H' (s.trans z) r
    | rt d => exact fun σ' G' H' v z r rv => h σ' G' H' v (s.trans z) r rv
    | rn d => exact fun σ' G' H' v z r n rv => h σ' G' H' v (s.trans z) r n rv
  | err x ρ' => exact fun σ' dx G' H' z r x => h σ' dx G' H' (s.trans z) r x
  | no => exact h
/-- an expression, then a statement's rest -/
theorem SPost.bind {α : Type} {K : PySem.W.Frag} {c : Cg} {B G : Hp} {σ : L2.St} {De : Ends} {m : M α} {f : α → M Fl} {ρ : Rho} (h : SPost K c B G De (Dn.bind m f ρ)) :
    XPost K c B σ G (fun a ρ' G' H' => SPost K c B G' De (f a ρ')) (m ρ) := by
  unfold Dn.bind at h
  cases e : m ρ with
  | ok a ρ' =>
    rw [e] at h
    exact fun G' H' s r => SPost.at h s
  | err x ρ' =>
    rw [e] at h
    exact fun dx G' H' s r xr => h σ dx G' H' s r xr
  | no =>
    rw [e] at h
    exact h
def seqM (a b : M Fl) : M Fl := fun ρ => match a ρ with
  | .ok .nx ρ' => b ρ'
  | r => r
def nextM : M Fl := ret .nx
section
variable {X : Cx} {c : Cg} {B : Hp} {st : Stmt} {rest : List Stmt} {ms mr : M Fl} {a b e : Expr} {es : List Expr} {ma mb : M D} {mn : M OO} {ra : M (List Pa)} {pos p tpos : Pos} {tg : Expr} {elts : List Expr} {kk : Nat}
theorem pds_nil : PSs X [] (tS X.K c nextM) := PSs_imp pss_nil fun De σ H h => by
  obtain ⟨B, G, ρ, r, h⟩ := h
  exact h σ G H (.refl G) r
theorem pds_cons (h1 : PS X st (tS X.K c ms)) (h2 : PSs X rest (tS X.K c mr)) : PSs X (st :: rest) (tS X.K c (seqM ms mr)) := PSs_imp (pss_cons h1 h2) fun De σ H h => by
  obtain ⟨B, G, ρ, r, h⟩ := h
  refine ⟨B, G, ρ, r, ?_⟩
  unfold seqM at h
  cases e : ms ρ with
  | ok f ρ' =>
    rw [e] at h
    cases f with
    | nx => exact fun σ' G' H' s r' => ⟨B, G', ρ', r', SPost.at h s⟩
    | bk => exact h
    | ct => exact h
    | rt d => exact h
    | rn d => exact h
  | err x ρ' =>
    rw [e] at h
    exact h
  | no =>
    rw [e] at h
    exact h
theorem pds_one (h1 : PS X st (tS X.K c ms)) : PSs X [st] (tS X.K c ms) := PSs_imp (pss_one h1) fun De σ H h => h
theorem pds_pass : PS X (.Pass pos) (tS X.K c nextM) := PS_imp ps_pass fun De σ H h => by
  obtain ⟨B, G, ρ, r, h⟩ := h
  exact h σ G H (.refl G) r
theorem pds_break : PS X (.Break pos) (tS X.K c (ret .bk)) := PS_imp ps_break fun De σ H h => by
  obtain ⟨B, G, ρ, r, h⟩ := h
  exact h σ G H (.refl G) r
theorem pds_continue : PS X (.Continue pos) (tS X.K c (ret .ct)) := PS_imp ps_continue fun De σ H h => by
  obtain ⟨B, G, ρ, r, h⟩ := h
  exact h σ G H (.refl G) r
/-- return e -/
def retM (ma : M D) : M Fl := bind ma fun d => ret (.rt d)
def retN (mn : M OO) : M Fl := bind mn fun o => ret (.rn o)
theorem pds_ret (ha : PE X a (tD X.K c ma)) : PS X (.Return (some a) pos) (tS X.K c (retM ma)) := PS_imp (ps_ret ha) fun De σ H h => by
  obtain ⟨B, G, ρ, r, h⟩ := h
  exact ⟨B, G, ρ, r, (SPost.bind (σ := σ) h).imp fun d ρ1 G1 H1 s1 r1 h1 v rv => h1 σ G1 H1 v (.refl G1) r1 rv⟩
theorem pds_retN (ha : PE X a (tN X.K c mn)) : PS X (.Return (some a) pos) (tS X.K c (retN mn)) := PS_imp (ps_ret ha) fun De σ H h => by
  obtain ⟨B, G, ρ, r, h⟩ := h
  exact ⟨B, G, ρ, r, (SPost.bind (σ := σ) h).imp fun d ρ1 G1 H1 s1 r1 h1 v n rv => h1 σ G1 H1 v (.refl G1) r1 n rv⟩
theorem pds_ret0 : PS X (.Return none pos) (tS X.K c (ret (.rt .non))) := PS_imp ps_retN fun De σ H h => by
  obtain ⟨B, G, ρ, r, h⟩ := h
  exact h σ G H .non (.refl G) r rep_non
/-- an expression alone -/
def dropM (ma : M D) : M Fl := bind ma fun _ => ret .nx
theorem pds_expr (ha : PE X a (tD X.K c ma)) (hs : swapsWith a none pos.line X.env = pure false := by rfl) : PS X (.Expr a pos) (tS X.K c (dropM ma)) := PS_imp (ps_expr ha hs) fun De σ H h => by
  obtain ⟨B, G, ρ, r, h⟩ := h
  exact ⟨B, G, ρ, r, (SPost.bind (σ := σ) h).imp fun d ρ1 G1 H1 s1 r1 h1 v rv => h1 σ G1 H1 (.refl G1) r1⟩
/-- if -/
def ifS (t : M Bool) (ms mr : M Fl) : M Fl := bind t fun k => if k = true then ms else mr
theorem pds_if {mt : M Bool} {s1 s2 : List Stmt} (ht : PT X a (tT X.K c mt)) (h1 : PSs X s1 (tS X.K c ms)) (h2 : PSs X s2 (tS X.K c mr)) : PS X (.If a s1 s2 pos) (tS X.K c (ifS mt ms mr)) := PS_imp (ps_if ht h1 h2) fun De σ H h => by
  obtain ⟨B, G, ρ, r, h⟩ := h
  refine ⟨B, G, ρ, r, (SPost.bind (σ := σ) h).imp fun k ρ1 G1 H1 s1 r1 h1 => ?_⟩
  cases k with
  | true => exact ⟨B, G1, ρ1, r1, h1⟩
  | false => exact ⟨B, G1, ρ1, r1, h1⟩
/-! ### assignments -/
def asgM (i : Nat) (ma : M D) : M Fl := bind ma fun d ρ => .ok .nx (ρ.set i (some (.fz d)))
def asgN (i : Nat) (mn : M OO) : M Fl := bind mn fun o ρ => .ok .nx (ρ.set i (some (.own o)))
theorem asg_read {i : Nat} (hp : npin c i = true) {De : Ends} {σ : L2.St} {H : Hp} (h : tS X.K c (asgM i ma) De σ H) : tAsg (tD X.K c ma) (gName i) De σ H := by
  obtain ⟨B, G, ρ, r, h⟩ := h
  exact ⟨B, G, ρ, r, (SPost.bind (σ := σ) h).imp fun d ρ1 G1 H1 s1 r1 h1 v rv => h1 _ G1 H1 (.refl G1) (r1.put (npin_ok hp) rv)⟩
theorem asgN_read {i : Nat} (hp : npin c i = true) {De : Ends} {σ : L2.St} {H : Hp} (h : tS X.K c (asgN i mn) De σ H) : tAsg (tN X.K c mn) (gName i) De σ H := by
  obtain ⟨B, G, ρ, r, h⟩ := h
  exact ⟨B, G, ρ, r, (SPost.bind (σ := σ) h).imp fun d ρ1 G1 H1 s1 r1 h1 q n rv => h1 _ G1 H1 (.refl G1) (r1.putN (npin_ok hp) n rv)⟩
theorem pds_set {i : Nat} {x : Str} {pos' : Pos} (hN : X.N.Nodup) (ha : PE X a (tD X.K c ma)) (hi : X.N[i]? = some x := by rfl) (hx : Loc X.env.scope x := by first | exact Or.inl rfl | exact Or.inr rfl) (hp : npin c i = true := by rfl) (hs : swapsWith a (some (.Name x pos')) pos.line X.env = pure false := by rfl)
    (hf : X.fn x = true ∨ X.env.scope.names.lookup x = some .local := by first | exact .inl rfl | exact .inr rfl) : PS X (.Assign [.Name x pos'] a pos) (tS X.K c (asgM i ma)) := PS_imp (ps_set (i := i) hN hi hx ha hs hf) fun De σ H h => asg_read hp h
theorem pds_setN {i : Nat} {x : Str} {pos' : Pos} (hN : X.N.Nodup) (ha : PE X a (tN X.K c mn)) (hi : X.N[i]? = some x := by rfl) (hx : Loc X.env.scope x := by first | exact Or.inl rfl | exact Or.inr rfl) (hp : npin c i = true := by rfl) (hs : swapsWith a (some (.Name x pos')) pos.line X.env = pure false := by rfl)
    (hf : X.fn x = true ∨ X.env.scope.names.lookup x = some .local := by first | exact .inl rfl | exact .inr rfl) : PS X (.Assign [.Name x pos'] a pos) (tS X.K c (asgN i mn)) := PS_imp (ps_set (i := i) hN hi hx ha hs hf) fun De σ H h => asgN_read hp h
/-- any target -/
def tgS (t : Tg) (ma : M D) : M Fl := bind ma fun d ρ => match t d ρ with
  | some ρ' => .ok .nx ρ'
  | none => .no
theorem pds_asg {t : Tg} {l : List Nat} (ha : PE X a (tD X.K c ma)) (hg : PG X tg (gD X.K c t l)) (hs : swapsWithSole [tg] a pos.line X.env = pure false := by rfl) (hw : swappedStores [tg] a X.env = pure none := by rfl) (h1 : (assignEach [tg] X.env).map (·.2) = [assign tg X.env] := by rfl) :
    PS X (.Assign [tg] a pos) (tS X.K c (tgS t ma)) := PS_imp (ps_asg ha hg hs hw h1) fun De σ H h => by
  obtain ⟨B, G, ρ, r, h⟩ := h
  refine ⟨B, G, ρ, r, (SPost.bind (σ := σ) h).imp fun d ρ1 G1 H1 s1 r1 h1 v rv => ?_⟩
  cases q : t d ρ1 with
  | none => rw [q] at h1; exact h1.elim
  | some ρ2 =>
    rw [q] at h1
    exact ⟨B, G1, ρ1, d, ρ2, r1, rv, q, fun σ' r2 _ _ => h1 σ' G1 H1 (.refl G1) r2⟩
/-! ### for -/
def forL (t : Tg) (body : M Fl) : List D → M Fl
  | [], ρ => .ok .nx ρ
  | d :: ds, ρ => match t d ρ with
    | none => .no
    | some ρ1 => match body ρ1 with
      | .ok .nx ρ2 => forL t body ds ρ2
      | .ok .ct ρ2 => forL t body ds ρ2
      | .ok .bk ρ2 => .ok .nx ρ2
      | r => r
def forM (it : M (List D)) (t : Tg) (body : M Fl) : M Fl := bind it fun ds => forL t body ds
theorem pds_for {it : M (List D)} {t : Tg} {l : List Nat} {body : List Stmt} (hpo : PassesOwn (model X.prog X.w) X.A X.env X.xe) (hc : X.calm = true) (hi : PI X tg e (tI X.K c it)) (hg : PG X tg (gD X.K c t l)) (hb : PSs X body (tS X.K c ms))
    (hs : ∀ x, foldedSetIterable e X.env x = pure x := by intro _; rfl) : PS X (.For tg e body [] pos) (tS X.K c (forM it t ms)) := PS_imp (ps_for hpo hc hi hg hb hs) fun De σ H h => by
  obtain ⟨B, G, ρ, r, h⟩ := h
  refine ⟨B, G, ρ, r, (SPost.bind (σ := σ) h).imp fun ds ρ1 G1 H1 s1 r1 h1 J hJ => ?_⟩
  refine ⟨fun i m σ' H' => m = ds.length - i ∧ i ≤ ds.length ∧ ∃ G' ρ', Sub G1 G' ∧ Rl X.K c B G' H' σ' ρ' ∧ SPost X.K c B G' De (forL t ms (ds.drop i) ρ'), ⟨ds.length, by simp, Nat.zero_le _, G1, ρ1, .refl G1, r1, by rw [List.drop_zero]; exact h1⟩, ?_⟩
  rintro i m σ' H' ⟨rfl, hi, G', ρ', s', r', h'⟩
  by_cases hlt : i < ds.length
  · have hd : ds.drop i = ds[i] :: ds.drop (i + 1) := List.drop_eq_getElem_cons hlt
    rw [hd] at h'
    unfold forL at h'
    refine .inr ⟨hJ.go i H' (s'.trans r'.sub) hlt, fun σ2 H2 => ∃ G2 ρ2, Sub G1 G2 ∧ Rl X.K c B G2 H2 σ2 ρ2 ∧ SPost X.K c B G2 De (forL t ms (ds.drop (i + 1)) ρ2), fun σ2 H2 ⟨G2, ρ2, s2, r2, h2⟩ => ⟨ds.length - (i + 1), by omega, rfl, hlt, G2, ρ2, s2, r2, h2⟩, fun x H2 y => ?_⟩
    obtain ⟨G2, g, rx⟩ := hJ.yld i H' x H2 ds[i] (s'.trans r'.sub) (List.getElem?_eq_getElem hlt) y G' s' r'.sub
    have r2 := r'.grow g
    cases q : t ds[i] ρ' with
    | none => rw [q] at h'; exact h'.elim
    | some ρ3 =>
      rw [q] at h'
      refine ⟨B, G2, ρ', ds[i], ρ3, r2, rx, q, fun σ3 r3 _ _ => ⟨B, G2, ρ3, r3, ?_⟩⟩
      have h' : SPost X.K c B G' De (match ms ρ3 with
        | .ok .nx ρ2 => forL t ms (ds.drop (i + 1)) ρ2
        | .ok .ct ρ2 => forL t ms (ds.drop (i + 1)) ρ2
        | .ok .bk ρ2 => .ok .nx ρ2
        | r => r) := h'
      have s2 : Sub G1 G2 := s'.trans g.gg
      cases q2 : ms ρ3 with
      | ok f ρ4 =>
        rw [q2] at h'
        cases f with
        | nx => exact fun σ4 G4 H4 z4 r4 => ⟨G4, ρ4, s2.trans z4, r4, SPost.at h' (g.gg.trans z4)⟩
        | ct => exact fun σ4 G4 H4 z4 r4 => ⟨G4, ρ4, s2.trans z4, r4, SPost.at h' (g.gg.trans z4)⟩
        | bk => exact fun σ4 G4 H4 z4 r4 => h' σ4 G4 H4 (g.gg.trans z4) r4
        | rt d => exact fun σ4 G4 H4 v z4 r4 rv => h' σ4 G4 H4 v (g.gg.trans z4) r4 rv
        | rn d => exact fun σ4 G4 H4 v z4 r4 n rv => h' σ4 G4 H4 v (g.gg.trans z4) r4 n rv
      | err x ρ4 =>
        rw [q2] at h'
        exact fun σ4 dx G4 H4 z4 r4 xr => h' σ4 dx G4 H4 (g.gg.trans z4) r4 xr
      | no =>
        rw [q2] at h'
        exact h'.elim
  · have hd : i = ds.length := by omega
    subst hd
    rw [List.drop_length] at h'
    exact .inl ⟨hJ.stop H' (s'.trans r'.sub), h' σ' G' H' (.refl G') r'⟩
/-! ### while, with fuel -/
def whileL (t : M Bool) (body : M Fl) : Nat → M Fl
  | 0, _ => .no
  | n + 1, ρ => match t ρ with
    | .ok true ρ1 => (match body ρ1 with
      | .ok .nx ρ2 => whileL t body n ρ2
      | .ok .ct ρ2 => whileL t body n ρ2
      | .ok .bk ρ2 => .ok .nx ρ2
      | r => r)
    | .ok false ρ1 => .ok .nx ρ1
    | .err x ρ1 => .err x ρ1
    | .no => .no
theorem pds_while {n : Nat} {mt : M Bool} {body : List Stmt} (hpo : PassesOwn (model X.prog X.w) X.A X.env X.xe) (ht : PT X a (tT X.K c mt)) (hb : PSs X body (tS X.K c ms)) : PS X (.While a body [] pos) (tS X.K c (whileL mt ms n)) := PS_imp (ps_while hpo ht hb) fun De σ H h => by
  obtain ⟨B, G, ρ, r, h⟩ := h
  refine ⟨fun m σ' H' => ∃ G' ρ', Rl X.K c B G' H' σ' ρ' ∧ SPost X.K c B G' De (whileL mt ms m ρ'), ⟨n, G, ρ, r, h⟩, ?_⟩
  rintro m σ' H' ⟨G', ρ', r', h'⟩
  cases m with
  | zero => exact h'.elim
  | succ m =>
    refine ⟨B, G', ρ', r', ?_⟩
    have h' : SPost X.K c B G' De (match mt ρ' with
      | .ok true ρ1 => (match ms ρ1 with
        | .ok .nx ρ2 => whileL mt ms m ρ2
        | .ok .ct ρ2 => whileL mt ms m ρ2
        | .ok .bk ρ2 => .ok .nx ρ2
        | r => r)
      | .ok false ρ1 => .ok .nx ρ1
      | .err x ρ1 => .err x ρ1
      | .no => .no) := h'
    cases q : mt ρ' with
    | ok k ρ1 =>
      rw [q] at h'
      cases k with
      | true =>
        intro G1 H1 s1 r1
        refine iteT ?_
        refine ⟨fun σ2 H2 => ∃ G2 ρ2, Rl X.K c B G2 H2 σ2 ρ2 ∧ SPost X.K c B G2 De (whileL mt ms m ρ2), fun σ2 H2 x => ⟨m, Nat.lt_succ_self m, x⟩, B, G1, ρ1, r1, ?_⟩
        have h' : SPost X.K c B G' De (match ms ρ1 with
          | .ok .nx ρ2 => whileL mt ms m ρ2
          | .ok .ct ρ2 => whileL mt ms m ρ2
          | .ok .bk ρ2 => .ok .nx ρ2
          | r => r) := h'
        cases q2 : ms ρ1 with
        | ok f ρ4 =>
          rw [q2] at h'
          cases f with
          | nx => exact fun σ4 G4 H4 z4 r4 => ⟨G4, ρ4, r4, SPost.at h' (s1.trans z4)⟩
          | ct => exact fun σ4 G4 H4 z4 r4 => ⟨G4, ρ4, r4, SPost.at h' (s1.trans z4)⟩
          | bk => exact fun σ4 G4 H4 z4 r4 => h' σ4 G4 H4 (s1.trans z4) r4
          | rt d => exact fun σ4 G4 H4 v z4 r4 rv => h' σ4 G4 H4 v (s1.trans z4) r4 rv
          | rn d => exact fun σ4 G4 H4 v z4 r4 n rv => h' σ4 G4 H4 v (s1.trans z4) r4 n rv
        | err x ρ4 =>
          rw [q2] at h'
          exact fun σ4 dx G4 H4 z4 r4 xr => h' σ4 dx G4 H4 (s1.trans z4) r4 xr
        | no =>
          rw [q2] at h'
          exact h'.elim
      | false =>
        intro G1 H1 s1 r1
        exact iteF (h' σ' G1 H1 s1 r1)
    | err x ρ1 =>
      rw [q] at h'
      exact fun dx G1 H1 s1 r1 xr => h' σ' dx G1 H1 s1 r1 xr
    | no =>
      rw [q] at h'
      exact h'.elim
end
end Dn

set_option Elab.async false
set_option linter.all false
set_option maxRecDepth 100000
set_option maxHeartbeats 4000000
/-! Dn8: list comprehensions, by data. -/
namespace Dn
open PySem PySem.Spec PyProof.Rows L2

/-! ### slots that a block forgets -/
def wipeR (ρ : Rho) : List Nat → Rho
  | [] => ρ
  | v :: vs => (wipeR ρ vs).set v none
theorem wipeR_length (ρ : Rho) : ∀ vs : List Nat, (wipeR ρ vs).length = ρ.length
  | [] => rfl
  | v :: vs => by unfold wipeR; rw [List.length_set, wipeR_length ρ vs]
theorem wipeR_some {ρ : Rho} {i : Nat} {x : Sl} : ∀ {vs : List Nat}, (wipeR ρ vs)[i]? = some (some x) → ρ[i]? = some (some x) ∧ i ∉ vs
  | [], h => ⟨h, by simp⟩
  | v :: vs, h => by
    unfold wipeR at h
    by_cases hi : v = i
    · subst hi
      by_cases hv : v < (wipeR ρ vs).length
      · rw [List.getElem?_set_self hv] at h; cases h
      · rw [List.getElem?_eq_none (by simpa using hv)] at h; cases h
    · rw [List.getElem?_set_ne hi] at h
      obtain ⟨h1, h2⟩ := wipeR_some h
      exact ⟨h1, by simp only [List.mem_cons, not_or]; exact ⟨fun e => hi e.symm, h2⟩⟩
theorem wipe_in {σ : L2.St} {i : Nat} : ∀ {vs : List Nat}, i ∈ vs → (wipe σ vs)[i]? = if i < σ.length then some none else none
  | v :: vs, h => by
    unfold wipe
    by_cases hi : v = i
    · subst hi
      rw [List.getElem?_set]
      simp only [if_true, wipe_length]
    · rw [List.getElem?_set_ne hi]
      exact wipe_in ((List.mem_cons.mp h).resolve_left fun e => hi e.symm)
theorem wipe_agree {σ σ' : L2.St} {vs ts : List Nat} (hl : σ'.length = σ.length) (h : ∀ (j : Nat), j ∉ ts → σ'[j]? = σ[j]?) (hs : ∀ j ∈ ts, j ∈ vs) : wipe σ' vs = wipe σ vs := by
  apply List.ext_getElem?
  intro i
  by_cases hi : i ∈ vs
  · rw [wipe_in hi, wipe_in hi, hl]
  · rw [wipe_out hi, wipe_out hi]
    exact h i fun z => hi (hs i z)
theorem wipe_wipe {σ : L2.St} {vs : List Nat} : wipe (wipe σ vs) vs = wipe σ vs := by
  apply List.ext_getElem?
  intro i
  by_cases hi : i ∈ vs
  · rw [wipe_in hi, wipe_in hi, wipe_length]
  · rw [wipe_out hi]
theorem Rl.nox {K : PySem.W.Frag} {c : Cg} {B G H : Hp} {σ : L2.St} {ρ : Rho} {W : WX} (r : Rl K c B G H σ ρ) : Rl K { c with W := W } B G H σ ρ := ⟨r.sub, r.base, r.ext, r.fresh, r.len, r.slots, r.dist, r.pin⟩
theorem Rl.xon {K : PySem.W.Frag} {c : Cg} {B G H : Hp} {σ : L2.St} {ρ : Rho} {W : WX} (r : Rl K { c with W := W } B G H σ ρ) : Rl K c B G H σ ρ := ⟨r.sub, r.base, r.ext, r.fresh, r.len, r.slots, r.dist, r.pin⟩
theorem Rl.wipe {K : PySem.W.Frag} {c : Cg} {B G H : Hp} {σ : L2.St} {ρ : Rho} {vs : List Nat} (r : Rl K c B G H σ ρ) (hp : ∀ i ∈ vs, npin c i = true) : Rl K c B G H (L2.wipe σ vs) (wipeR ρ vs) where
  sub := r.sub
  base := r.base
  ext := r.ext
  fresh := r.fresh
  len := by rw [wipeR_length, wipe_length]; exact r.len
  slots := fun i s e => by
    obtain ⟨h1, h2⟩ := wipeR_some e
    obtain ⟨v, h3, h4⟩ := r.slots i s h1
    exact ⟨v, by rw [wipe_out h2]; exact h3, h4⟩
  dist := fun i j o o' v hij h1 h2 h3 h4 => by
    obtain ⟨a1, a2⟩ := wipeR_some h1
    obtain ⟨b1, b2⟩ := wipeR_some h2
    rw [wipe_out a2] at h3
    rw [wipe_out b2] at h4
    exact r.dist i j o o' v hij a1 b1 h3 h4
  pin := fun i v e => by
    by_cases hi : i ∈ vs
    · exact absurd e (npin_ok (hp i hi) v)
    · rw [wipe_out hi]
      exact r.pin i v e
def unwipe (ρ0 ρ : Rho) : List Nat → Rho
  | [] => ρ
  | v :: vs => (unwipe ρ0 ρ vs).set v (ρ0[v]?.join)
theorem unwipe_length (ρ0 ρ : Rho) : ∀ vs : List Nat, (unwipe ρ0 ρ vs).length = ρ.length
  | [] => rfl
  | v :: vs => by unfold unwipe; rw [List.length_set, unwipe_length ρ0 ρ vs]
theorem unwipe_at {ρ0 ρ : Rho} {i : Nat} {x : Sl} : ∀ {vs : List Nat}, (unwipe ρ0 ρ vs)[i]? = some (some x) → (i ∈ vs ∧ ρ0[i]? = some (some x)) ∨ (i ∉ vs ∧ ρ[i]? = some (some x))
  | [], h => .inr ⟨by simp, h⟩
  | v :: vs, h => by
    unfold unwipe at h
    by_cases hi : v = i
    · subst hi
      by_cases hv : v < (unwipe ρ0 ρ vs).length
      · rw [List.getElem?_set_self hv] at h
        have h := Option.some.inj h
        refine .inl ⟨List.mem_cons_self, ?_⟩
        cases q : ρ0[v]? with
        | none => rw [q] at h; cases h
        | some y => rw [q] at h; rw [show y = some x from h]
      · rw [List.getElem?_eq_none (by simpa using hv)] at h; cases h
    · rw [List.getElem?_set_ne hi] at h
      rcases unwipe_at h with ⟨h1, h2⟩ | ⟨h1, h2⟩
      · exact .inl ⟨List.mem_cons_of_mem _ h1, h2⟩
      · exact .inr ⟨by simp only [List.mem_cons, not_or]; exact ⟨fun e => hi e.symm, h1⟩, h2⟩
def noOwn (ρ : Rho) (vs : List Nat) : Bool := vs.all fun v => match ρ[v]? with
  | some (some (.own _)) => false
  | _ => true
theorem noOwn_at {ρ : Rho} {vs : List Nat} {i : Nat} {o : OO} (h : noOwn ρ vs = true) (hi : i ∈ vs) (e : ρ[i]? = some (some (.own o))) : False := by
  have q := List.all_eq_true.mp h i hi
  rw [e] at q
  cases q
theorem Rl.unwipe {K : PySem.W.Frag} {c : Cg} {B G0 H0 G H : Hp} {σ : L2.St} {ρ0 ρ : Rho} {vs : List Nat} (r0 : Rl K c B G0 H0 σ ρ0) (r : Rl K c B G H (L2.wipe σ vs) ρ) (s : Sub G0 G) (no : noOwn ρ0 vs = true) : Rl K c B G H σ (Dn.unwipe ρ0 ρ vs) where
  sub := r.sub
  base := r.base
  ext := r.ext
  fresh := r.fresh
  len := by rw [unwipe_length, r.len, wipe_length]
  slots := fun i x e => by
    rcases unwipe_at e with ⟨h1, h2⟩ | ⟨h1, h2⟩
    · obtain ⟨v, h3, h4⟩ := r0.slots i x h2
      cases x with
      | fz d => exact ⟨v, h3, Rep.mono s h4⟩
      | own o => exact (noOwn_at no h1 h2).elim
    · obtain ⟨v, h3, h4⟩ := r.slots i x h2
      rw [wipe_out h1] at h3
      exact ⟨v, h3, h4⟩
  dist := fun i j o o' v hij h1 h2 h3 => by
    rcases unwipe_at h1 with ⟨a1, a2⟩ | ⟨a1, a2⟩
    · exact (noOwn_at no a1 a2).elim
    · rcases unwipe_at h2 with ⟨b1, b2⟩ | ⟨b1, b2⟩
      · exact (noOwn_at no b1 b2).elim
      · rw [← wipe_out a1] at h3
        rw [← wipe_out b1]
        exact r.dist i j o o' v hij a2 b2 h3
  pin := r0.pin
/-- an object beside the frame is kept apart while a piece runs -/
theorem Rl.guard {K : PySem.W.Frag} {c : Cg} {B G H : Hp} {σ : L2.St} {ρ : Rho} {p : Addr} {u : HO} (r : Rl K c B G H σ ρ) (n : New B G σ ρ p) (hp : H p = some u) : Rl K c (upd B p u) G H σ ρ where
  sub := r.sub
  base := fun a o e => by
    by_cases h : a = p
    · rw [h, upd_same] at e
      rw [h, hp]
      exact e
    · rw [upd_ne h] at e
      exact r.base a o e
  ext := r.ext
  fresh := fun a h => by
    rcases r.fresh a h with q | q
    · exact .inl q
    · by_cases z : a = p
      · rw [z] at h
        exact absurd n.1 h
      · exact .inr (by rw [upd_ne z]; exact q)
  len := r.len
  slots := fun i s e => by
    obtain ⟨v, h1, h2⟩ := r.slots i s e
    refine ⟨v, h1, ?_⟩
    cases s with
    | fz d => exact h2
    | own o =>
      obtain ⟨q, rfl, h3, h4, h5⟩ := h2
      have ne : q ≠ p := fun z => n.2.2 i o e (by rw [h1, z])
      exact ⟨q, rfl, h3, by rw [upd_ne ne]; exact h4, h5⟩
  dist := r.dist
  pin := r.pin
theorem Rl.unguard {K : PySem.W.Frag} {c : Cg} {B G H : Hp} {σ : L2.St} {ρ : Rho} {p : Addr} {u : HO} (r : Rl K c (upd B p u) G H σ ρ) (h0 : c.G0 p = none) (hB : B p = none) : Rl K c B G H σ ρ ∧ New B G σ ρ p ∧ H p = some u := by
  have gp : G p = none := by
    cases q : G p with
    | none => rfl
    | some z =>
      rcases r.fresh p (by rw [q]; exact fun e => nomatch e) with h | h
      · exact absurd h0 h
      · rw [upd_same] at h
        cases h
  refine ⟨⟨r.sub, fun a o e => r.base a o ?_, r.ext, fun a h => ?_, r.len, fun i s e => ?_, r.dist, r.pin⟩, ⟨gp, hB, fun i o e z => ?_⟩, r.base p u upd_same⟩
  · rw [upd_ne (ne_of_none e hB)]
    exact e
  · rcases r.fresh a h with q | q
    · exact .inl q
    · by_cases z : a = p
      · rw [z]
        exact .inr hB
      · rw [upd_ne z] at q
        exact .inr q
  · obtain ⟨v, h1, h2⟩ := r.slots i s e
    refine ⟨v, h1, ?_⟩
    cases s with
    | fz d => exact h2
    | own o =>
      obtain ⟨q, rfl, h3, h4, h5⟩ := h2
      have ne : q ≠ p := fun z => by
        rw [z, upd_same] at h4
        cases h4
      rw [upd_ne ne] at h4
      exact ⟨q, rfl, h3, h4, h5⟩
  · obtain ⟨v, h1, q, h2, h3, h4, h5⟩ := r.slots i _ e
    rw [h1] at z
    cases z
    cases h2
    rw [upd_same] at h4
    cases h4
/-- the object beside it changes -/
theorem Rl.mutAt {K : PySem.W.Frag} {c : Cg} {B G H : Hp} {σ : L2.St} {ρ : Rho} {p : Addr} {u : HO} (r : Rl K c B G H σ ρ) (n : New B G σ ρ p) : Rl K c B G (upd H p u) σ ρ where
  sub := r.sub.mut n.1
  base := r.base.mut n.2.1
  ext := r.ext
  fresh := r.fresh
  len := r.len
  slots := fun i s e => by
    obtain ⟨v, h1, h2⟩ := r.slots i s e
    refine ⟨v, h1, ?_⟩
    cases s with
    | fz d => exact h2
    | own o =>
      obtain ⟨q, rfl, h3, h4, h5⟩ := h2
      have ne : q ≠ p := fun z => n.2.2 i o e (by rw [h1, z])
      exact ⟨q, rfl, h3, h4, h5.mono (.refl G) (upd_ne ne)⟩
  dist := r.dist
  pin := r.pin
theorem New.wipe {B G : Hp} {σ : L2.St} {ρ : Rho} {p : Addr} {vs : List Nat} (n : New B G σ ρ p) : New B G (L2.wipe σ vs) (wipeR ρ vs) p := ⟨n.1, n.2.1, fun i o e z => by
  obtain ⟨h1, h2⟩ := wipeR_some e
  rw [wipe_out h2] at z
  exact n.2.2 i o h1 z⟩

/-! ### a comprehension's loop -/
def lcLoop (t : Tg) (cond : M Bool) (elt : M D) (vs : List Nat) : List D → List D → M (List D)
  | [], acc, ρ => .ok acc ρ
  | d :: ds, acc, ρ => match t d ρ with
    | none => .no
    | some ρ1 => match cond ρ1 with
      | .ok true ρ2 => (match elt ρ2 with
        | .ok x ρ3 => lcLoop t cond elt vs ds (acc ++ [x]) (wipeR ρ3 vs)
        | _ => .no)
      | .ok false ρ2 => lcLoop t cond elt vs ds acc (wipeR ρ2 vs)
      | _ => .no
def lcM (it : M (List D)) (t : Tg) (cond : M Bool) (elt : M D) (vs : List Nat) : M OO := bind it fun ds ρ => if szOk ds.length ∧ noOwn ρ vs = true then (match lcLoop t cond elt vs ds [] (wipeR ρ vs) with
  | .ok acc ρ' => .ok (.lst acc) (unwipe ρ ρ' vs)
  | _ => .no) else .no
abbrev Cg.nox (c : Cg) : Cg := { c with W := fun _ _ _ _ => False }
def yesM : M Bool := ret true
/-- the state of a comprehension's block: the frame, the list that is made at D -/
structure Bk (K : PySem.W.Frag) (c : Cg) (B G H : Hp) (σ : L2.St) (ρ : Rho) (p : Addr) (acc : List D) : Prop where
  rl : Rl K c.nox B G H σ ρ
  new : New B G σ ρ p
  at_ : ∃ vs, H p = some (.lst vs) ∧ Reps K G acc vs
section
variable {K : PySem.W.Frag} {c : Cg} {B G H : Hp} {σ : L2.St} {ρ : Rho} {p : Addr} {acc : List D}
theorem Bk.run {α : Type} {m : M α} {P : α → Rho → Hp → Hp → Prop} (b : Bk K c B G H σ ρ p acc)
    (h : ∀ a ρ', m ρ = .ok a ρ' → ∀ G' H', Sub G G' → Bk K c B G' H' σ ρ' p acc → P a ρ' G' H') (no : ∃ a ρ', m ρ = .ok a ρ') : ∃ B', Rl K c.nox B' G H σ ρ ∧ XPost K c.nox B' σ G P (m ρ) := by
  obtain ⟨vs, hp, rs⟩ := b.at_
  refine ⟨upd B p (.lst vs), b.rl.guard b.new hp, ?_⟩
  obtain ⟨a, ρ', e⟩ := no
  rw [e]
  intro G' H' s r
  obtain ⟨r1, n1, hp1⟩ := r.unguard (b.rl.ext.free b.new.1) b.new.2.1
  exact h a ρ' e G' H' s ⟨r1, n1, vs, hp1, rs.mono s⟩
theorem Bk.mono {G' H' : Hp} (b : Bk K c B G H σ ρ p acc) (g : Grow G H G' H') : Bk K c B G' H' σ ρ p acc := by
  obtain ⟨vs, hp, rs⟩ := b.at_
  refine ⟨b.rl.grow g, ⟨?_, b.new.2.1, b.new.2.2⟩, vs, g.hh _ _ hp, rs.mono g.gg⟩
  cases q : G' p with
  | none => rfl
  | some z =>
    rcases g.fr p (by rw [q]; exact fun e => nomatch e) with h | h
    · exact absurd b.new.1 h
    · rw [hp] at h
      cases h
theorem Bk.push {y : V} {d : D} (b : Bk K c B G H σ ρ p acc) (ry : Rep K G d y) : ∃ vs, H p = some (.lst vs) ∧ vs.length = acc.length ∧ Bk K c B G (upd H p (.lst (vs ++ [y]))) σ ρ p (acc ++ [d]) := by
  obtain ⟨vs, hp, rs⟩ := b.at_
  exact ⟨vs, hp, rs.length, b.rl.mutAt b.new, b.new, vs ++ [y], upd_same, rs.append (.one ry)⟩
theorem Bk.wipe {vs : List Nat} (b : Bk K c B G H σ ρ p acc) (hp : ∀ i ∈ vs, npin c i = true) : Bk K c B G H (L2.wipe σ vs) (wipeR ρ vs) p acc := ⟨b.rl.wipe hp, b.new.wipe, b.at_⟩
/-- a target within a block -/
theorem Bk.tgt {t : Tg} {ts : List Nat} {d : D} {x : V} {ρ1 : Rho} {Q : L2.St → Hp → Prop} (b : Bk K c B G H σ ρ p acc) (rx : Rep K G d x) (e : t d ρ = some ρ1)
    (h : ∀ σ', Bk K c B G H σ' ρ1 p acc → σ'.length = σ.length → (∀ (j : Nat), j ∉ ts → σ'[j]? = σ[j]?) → Q σ' H) : gD K c.nox t ts x σ H Q := by
  obtain ⟨vs, hp, rs⟩ := b.at_
  refine ⟨upd B p (.lst vs), G, ρ, d, ρ1, b.rl.guard b.new hp, rx, e, fun σ' r hl ho => ?_⟩
  obtain ⟨r1, n1, hp1⟩ := r.unguard (b.rl.ext.free b.new.1) b.new.2.1
  exact h σ' ⟨r1, n1, vs, hp1, rs⟩ hl ho
end
section
variable {X : Cx} {c : Cg} {B : Hp}
/-- one turn's test and element, from a block to the next turn -/
theorem lc_turn {K : PySem.W.Frag} {cond : M Bool} {elt : M D} {vs : List Nat} {p : Addr} {acc : List D} {G1 G H : Hp} {σ2 : L2.St} {ρ1 : Rho} {Nx : Hp → Prop} (hp : ∀ i ∈ vs, npin c i = true) (b : Bk K c B G H σ2 ρ1 p acc) (hz : acc.length < 16777216)
    (ht : ∃ k ρ2, cond ρ1 = .ok k ρ2 ∧ (k = true → ∃ x ρ3, elt ρ2 = .ok x ρ3 ∧ ∀ G' H', Sub G G' → Bk K c B G' H' (wipe σ2 vs) (wipeR ρ3 vs) p (acc ++ [x]) → Nx H') ∧ (k = false → ∀ G' H', Sub G G' → Bk K c B G' H' (wipe σ2 vs) (wipeR ρ2 vs) p acc → Nx H')) :
    tT K c.nox cond σ2 H fun b H3 => if b = true then tD K c.nox elt σ2 H3 fun y H4 => ∃ acc, H4 p = some (.lst acc) ∧ acc.length < sizeLine ∧ Nx (upd H4 p (.lst (acc ++ [y]))) else Nx H3 := by
  obtain ⟨k, ρ2, e2, h1, h2⟩ := ht
  obtain ⟨B', r', x'⟩ := b.run (m := cond) (P := fun b _ _ H3 => if b = true then tD K c.nox elt σ2 H3 fun y H4 => ∃ acc, H4 p = some (.lst acc) ∧ acc.length < sizeLine ∧ Nx (upd H4 p (.lst (acc ++ [y]))) else Nx H3) (fun k' ρ' e' G' H' s b' => by
    rw [e2] at e'
    cases e'
    cases k with
    | true =>
      refine iteT ?_
      obtain ⟨x, ρ3, e3, h3⟩ := h1 rfl
      obtain ⟨B2, r2, x2⟩ := b'.run (m := elt) (P := fun d _ G' H4 => ∀ y, Rep K G' d y → ∃ acc, H4 p = some (.lst acc) ∧ acc.length < sizeLine ∧ Nx (upd H4 p (.lst (acc ++ [y])))) (fun d ρ' e' G2 H2 s2 b2 y ry => by
        rw [e3] at e'
        cases e'
        obtain ⟨ws, q1, q2, q3⟩ := b2.push ry
        exact ⟨ws, q1, by rw [q2, sizeLine_eq]; exact hz, h3 G2 _ (s.trans s2) (q3.wipe hp)⟩) ⟨x, ρ3, e3⟩
      exact ⟨B2, G', ρ2, r2, x2⟩
    | false =>
      refine iteF ?_
      exact h2 rfl G' H' s (b'.wipe hp)) ⟨k, ρ2, e2⟩
  exact ⟨B', G, ρ1, r', x'⟩
theorem lc_read {it : M (List D)} {t : Tg} {ts : List Nat} {cond : M Bool} {elt : M D} {vs : List Nat} (hp : ∀ i ∈ vs, npin c i = true) (hts : ∀ i ∈ ts, i ∈ vs) {σ : L2.St} {H : Hp} {Q : VK} (h : tN X.K c (lcM it t cond elt vs) σ H Q) :
    tLc (tI X.K c it) (gD X.K c.nox t ts) (tT X.K c.nox cond) (tD X.K c.nox elt) vs σ H Q := by
  obtain ⟨B, G, ρ, r, h⟩ := h
  refine ⟨B, G, ρ, r, h.bind.imp fun ds ρ1 G1 H1 s1 r1 h1 J hJ p hD => ?_⟩
  by_cases hc : szOk ds.length ∧ noOwn ρ1 vs = true
  · rw [if_pos hc] at h1
    obtain ⟨hz, no⟩ := hc
    cases q : lcLoop t cond elt vs ds [] (wipeR ρ1 vs) with
    | no => rw [q] at h1; exact h1.elim
    | err x ρ' => rw [q] at h1; exact h1.elim
    | ok accF ρF =>
      rw [q] at h1
      obtain ⟨rD, nD⟩ := r1.newOf (o := .lst []) hD
      have b0 : Bk X.K c B G1 (upd H1 p (.lst [])) (wipe σ vs) (wipeR ρ1 vs) p [] := ⟨(rD.nox).wipe (c := c.nox) hp, nD.wipe, [], upd_same, .nil⟩
      refine ⟨fun i m H' => m = ds.length - i ∧ i ≤ ds.length ∧ ∃ G' ρ' acc, Sub G1 G' ∧ Bk X.K c B G' H' (wipe σ vs) ρ' p acc ∧ acc.length ≤ i ∧ lcLoop t cond elt vs (ds.drop i) acc ρ' = .ok accF ρF,
        ⟨ds.length, by simp, Nat.zero_le _, G1, _, [], .refl G1, b0, Nat.le_refl _, by rw [List.drop_zero]; exact q⟩, ?_⟩
      rintro i m H' ⟨rfl, hi, G', ρ', acc, s', b, hacc, e'⟩
      by_cases hlt : i < ds.length
      · have hd : ds.drop i = ds[i] :: ds.drop (i + 1) := List.drop_eq_getElem_cons hlt
        rw [hd] at e'
        have e' : (match t ds[i] ρ' with
          | none => .no
          | some ρ1 => match cond ρ1 with
            | .ok true ρ2 => (match elt ρ2 with
              | .ok x ρ3 => lcLoop t cond elt vs (ds.drop (i + 1)) (acc ++ [x]) (wipeR ρ3 vs)
              | _ => .no)
            | .ok false ρ2 => lcLoop t cond elt vs (ds.drop (i + 1)) acc (wipeR ρ2 vs)
            | _ => .no) = Rs.ok accF ρF := e'
        refine .inr ⟨hJ.go i H' (s'.trans b.rl.sub) hlt, fun H2 => ∃ G2 ρ2 acc2, Sub G1 G2 ∧ Bk X.K c B G2 H2 (wipe σ vs) ρ2 p acc2 ∧ acc2.length ≤ i + 1 ∧ lcLoop t cond elt vs (ds.drop (i + 1)) acc2 ρ2 = .ok accF ρF,
          fun H2 x => ⟨ds.length - (i + 1), by omega, rfl, hlt, x⟩, fun x H2 y => ?_⟩
        obtain ⟨G2, g, rx⟩ := hJ.yld i H' x H2 ds[i] (s'.trans b.rl.sub) (List.getElem?_eq_getElem hlt) y G' s' b.rl.sub
        have b2 := b.mono g
        cases qt : t ds[i] ρ' with
        | none => rw [qt] at e'; cases e'
        | some ρ3 =>
          rw [qt] at e'
          refine b2.tgt rx qt fun σ2 b3 hl ho => ⟨?_, ?_⟩
          · rw [wipe_agree (vs := vs) hl ho hts, wipe_wipe]
          · have hw : wipe σ2 vs = wipe σ vs := by rw [wipe_agree (vs := vs) hl ho hts, wipe_wipe]
            refine lc_turn (G1 := G1) hp b3 (by unfold szOk at hz; omega) ?_
            have e' : (match cond ρ3 with
              | .ok true ρ2 => (match elt ρ2 with
                | .ok x ρ3 => lcLoop t cond elt vs (ds.drop (i + 1)) (acc ++ [x]) (wipeR ρ3 vs)
                | _ => .no)
              | .ok false ρ2 => lcLoop t cond elt vs (ds.drop (i + 1)) acc (wipeR ρ2 vs)
              | _ => .no) = Rs.ok accF ρF := e'
            cases qc : cond ρ3 with
            | no => rw [qc] at e'; cases e'
            | err _ _ => rw [qc] at e'; cases e'
            | ok k ρ4 =>
              rw [qc] at e'
              refine ⟨k, ρ4, rfl, fun hk => ?_, fun hk G5 H5 s5 b5 => ?_⟩
              · subst hk
                have e' : (match elt ρ4 with
                  | .ok x ρ3 => lcLoop t cond elt vs (ds.drop (i + 1)) (acc ++ [x]) (wipeR ρ3 vs)
                  | _ => .no) = Rs.ok accF ρF := e'
                cases qe : elt ρ4 with
                | no => rw [qe] at e'; cases e'
                | err _ _ => rw [qe] at e'; cases e'
                | ok x5 ρ5 =>
                  rw [qe] at e'
                  exact ⟨x5, ρ5, rfl, fun G5 H5 s5 b5 => ⟨G5, wipeR ρ5 vs, acc ++ [x5], (s'.trans g.gg).trans s5, by rw [← hw]; exact b5, by simp only [List.length_append, List.length_singleton]; omega, e'⟩⟩
              · subst hk
                exact ⟨G5, wipeR ρ4 vs, acc, (s'.trans g.gg).trans s5, by rw [← hw]; exact b5, by omega, e'⟩
      · have hd : i = ds.length := by omega
        subst hd
        rw [List.drop_length] at e'
        cases e'
        refine .inl ⟨hJ.stop H' (s'.trans b.rl.sub), ?_⟩
        obtain ⟨ws, hp', rs⟩ := b.at_
        have rU : Rl X.K c B G' H' σ (unwipe ρ1 ρF vs) := Rl.unwipe r1 (b.rl.xon) s' no
        refine h1 G' H' s' rU p ⟨b.new.1, b.new.2.1, fun j o e z => ?_⟩ ⟨ws, hp', rs⟩
        rcases unwipe_at e with ⟨a1, a2⟩ | ⟨a1, a2⟩
        · exact noOwn_at no a1 a2
        · rw [← wipe_out (vs := vs) a1] at z
          exact b.new.2.2 j o a2 z
  · rw [if_neg hc] at h1
    exact h1.elim
theorem pts_yes : PTs X [] (tT X.K c yesM) := ⟨fun pins s σ H Q I h => by
  obtain ⟨B, G, ρ, r, h⟩ := h
  exact pts_nil.run pins s σ H Q I (h G H (.refl G) r)⟩
theorem fz_read {m : M OO} {σ : L2.St} {H : Hp} {Q : VK} (h : tD X.K c (fzM m) σ H Q) : tN X.K c m σ H Q := by
  obtain ⟨B, G, ρ, r, h⟩ := h
  refine ⟨B, G, ρ, r, h.bind.imp fun o ρ1 G1 H1 s1 r1 h1 p n ro => ?_⟩
  obtain ⟨d, hd, k⟩ := h1.lift
  obtain ⟨G2, s2, r2, rp⟩ := r1.freeze n ro hd
  exact k G2 H1 s2 r2 _ rp
def memB (ts vs : List Nat) : Bool := ts.all fun i => vs.contains i
theorem memB_ok {ts vs : List Nat} (h : memB ts vs = true) : ∀ i ∈ ts, i ∈ vs := fun i hi => by
  have q := List.all_eq_true.mp h i hi
  exact List.contains_iff_mem.mp q
def npins (c : Cg) (vs : List Nat) : Bool := vs.all fun i => npin c i
theorem npins_ok {c : Cg} {vs : List Nat} (h : npins c vs = true) : ∀ i ∈ vs, npin c i = true := fun i hi => List.all_eq_true.mp h i hi
/-- the comprehension's parts, in its block -/
abbrev InBlk (X : Cx) (scope : Scope) (P : Cx → Prop) : Prop := ∀ (s : Shared) (H : Hp) (C : Addr) (cl : List (Str × Addr)) (fp : List Addr), P (X.blk s H scope (compEnvC scope cl C X.env) fp)
variable {elt tg iter tg1 iter1 : Expr} {ifs ifs1 : List Expr} {scope : Scope} {own : List (Str × Nat)} {vs1 : List Nat} {pos spos py : Pos} {it it1 : M (List D)} {t t1 : Tg} {ts ts1 : List Nat} {cond cond1 : M Bool} {em : M D}
theorem pdn_lc (hc : X.calm = true) (hN : X.N.Nodup) (hi : PI X tg iter (tI X.K c it)) (ok : BlkOk X.N X.env.scope scope own) (hg : InBlk X scope fun Y => PG Y tg (gD X.K c.nox t ts)) (ht : InBlk X scope fun Y => PTs Y ifs (tT X.K c.nox cond)) (he : InBlk X scope fun Y => PE Y elt (tD X.K c.nox em))
    (hp : npins c (own.map (·.2)) = true := by rfl) (hts : memB ts (own.map (·.2)) = true := by rfl) (hs : ∀ x, foldedSetIterable iter X.env x = pure x := by intro _; rfl) : PE X (.ListComp elt [⟨tg, iter, ifs, 0⟩] scope pos) (tN X.K c (lcM it t cond em (own.map (·.2)))) :=
  PE_imp (pe_lc hc hN hi ok hg ht he hs) fun σ H Q h => lc_read (npins_ok hp) (memB_ok hts) h
/-- y = [..] -/
theorem setLc {i : Nat} {y : Str} (hc : X.calm = true) (hN : X.N.Nodup) (hi : PI X tg iter (tI X.K c it)) (ok : BlkOk X.N X.env.scope scope own) (hg : InBlk X scope fun Y => PG Y tg (gD X.K c.nox t ts)) (ht : InBlk X scope fun Y => PTs Y ifs (tT X.K c.nox cond)) (he : InBlk X scope fun Y => PE Y elt (tD X.K c.nox em))
    (hy : X.N[i]? = some y) (hyl : X.env.scope.names.lookup y = some .local) (hsw : swapsWith (.ListComp elt [⟨tg, iter, ifs, 0⟩] scope pos) (some (.Name y py)) spos.line X.env = pure true)
    (hp : npins c (own.map (·.2)) = true) (hts : memB ts (own.map (·.2)) = true) (hs : ∀ x, foldedSetIterable iter X.env x = pure x) : PS X (.Assign [.Name y py] (.ListComp elt [⟨tg, iter, ifs, 0⟩] scope pos) spos) (tAsg (tN X.K c (lcM it t cond em (own.map (·.2)))) (gName i)) :=
  PS_imp (ps_setLc hc hN hy hyl hsw hi ok hg ht he hs) fun De σ H h => lc_read (npins_ok hp) (memB_ok hts) h
theorem pds_lcN {i : Nat} {y : Str} (hc : X.calm = true) (hN : X.N.Nodup) (hi : PI X tg iter (tI X.K c it)) (ok : BlkOk X.N X.env.scope scope own) (hg : InBlk X scope fun Y => PG Y tg (gD X.K c.nox t ts)) (ht : InBlk X scope fun Y => PTs Y ifs (tT X.K c.nox cond)) (he : InBlk X scope fun Y => PE Y elt (tD X.K c.nox em))
    (hsw : swapsWith (.ListComp elt [⟨tg, iter, ifs, 0⟩] scope pos) (some (.Name y py)) spos.line X.env = pure true) (hy : X.N[i]? = some y := by rfl) (hyl : X.env.scope.names.lookup y = some .local := by rfl)
    (hpi : npin c i = true := by rfl) (hp : npins c (own.map (·.2)) = true := by rfl) (hts : memB ts (own.map (·.2)) = true := by rfl) (hs : ∀ x, foldedSetIterable iter X.env x = pure x := by intro _; rfl) :
    PS X (.Assign [.Name y py] (.ListComp elt [⟨tg, iter, ifs, 0⟩] scope pos) spos) (tS X.K c (asgN i (lcM it t cond em (own.map (·.2))))) :=
  PS_imp (setLc hc hN hi ok hg ht he hy hyl hsw hp hts hs) fun De σ H h => asgN_read hpi h
theorem pds_lc {i : Nat} {y : Str} (hc : X.calm = true) (hN : X.N.Nodup) (hi : PI X tg iter (tI X.K c it)) (ok : BlkOk X.N X.env.scope scope own) (hg : InBlk X scope fun Y => PG Y tg (gD X.K c.nox t ts)) (ht : InBlk X scope fun Y => PTs Y ifs (tT X.K c.nox cond)) (he : InBlk X scope fun Y => PE Y elt (tD X.K c.nox em))
    (hsw : swapsWith (.ListComp elt [⟨tg, iter, ifs, 0⟩] scope pos) (some (.Name y py)) spos.line X.env = pure true) (hy : X.N[i]? = some y := by rfl) (hyl : X.env.scope.names.lookup y = some .local := by rfl)
    (hpi : npin c i = true := by rfl) (hp : npins c (own.map (·.2)) = true := by rfl) (hts : memB ts (own.map (·.2)) = true := by rfl) (hs : ∀ x, foldedSetIterable iter X.env x = pure x := by intro _; rfl) :
    PS X (.Assign [.Name y py] (.ListComp elt [⟨tg, iter, ifs, 0⟩] scope pos) spos) (tS X.K c (asgM i (fzM (lcM it t cond em (own.map (·.2)))))) :=
  PS_imp (setLc hc hN hi ok hg ht he hy hyl hsw hp hts hs) fun De σ H h => fz_read (asg_read hpi h)
/-! ### two for clauses -/
def lcOut (t : Tg) (cond : M Bool) (it1 : M (List D)) (t1 : Tg) (cond1 : M Bool) (elt : M D) (vs vs1 : List Nat) : List D → List D → M (List D)
  | [], acc, ρ => .ok acc ρ
  | d :: ds, acc, ρ => match t d ρ with
    | none => .no
    | some ρ1 => match cond ρ1 with
      | .ok true ρ2 => (match it1 ρ2 with
        | .ok ds2 ρ3 => (match lcLoop t1 cond1 elt vs1 ds2 acc (wipeR ρ3 vs1) with
          | .ok acc' ρ4 => lcOut t cond it1 t1 cond1 elt vs vs1 ds acc' (wipeR ρ4 vs)
          | _ => .no)
        | _ => .no)
      | .ok false ρ2 => lcOut t cond it1 t1 cond1 elt vs vs1 ds acc (wipeR ρ2 vs)
      | _ => .no
def lcM2 (it : M (List D)) (t : Tg) (cond : M Bool) (it1 : M (List D)) (t1 : Tg) (cond1 : M Bool) (elt : M D) (vs vs1 : List Nat) : M OO := bind it fun ds ρ => if noOwn ρ vs = true then (match lcOut t cond it1 t1 cond1 elt vs vs1 ds [] (wipeR ρ vs) with
  | .ok acc ρ' => if szOk acc.length then .ok (.lst acc) (unwipe ρ ρ' vs) else .no
  | _ => .no) else .no
theorem lcLoop_grows {t : Tg} {cond : M Bool} {elt : M D} {vs : List Nat} : ∀ {ds acc : List D} {ρ : Rho} {accF : List D} {ρF : Rho}, lcLoop t cond elt vs ds acc ρ = .ok accF ρF → acc.length ≤ accF.length
  | [], acc, ρ, accF, ρF, h => by
    cases h
    exact Nat.le_refl _
  | d :: ds, acc, ρ, accF, ρF, h => by
    unfold lcLoop at h
    split at h
    · cases h
    · split at h
      · split at h
        · have q := lcLoop_grows h
          rw [List.length_append, List.length_singleton] at q
          omega
        · cases h
      · exact lcLoop_grows h
      · cases h
theorem lcOut_grows {t : Tg} {cond : M Bool} {it1 : M (List D)} {t1 : Tg} {cond1 : M Bool} {elt : M D} {vs vs1 : List Nat} : ∀ {ds acc : List D} {ρ : Rho} {accF : List D} {ρF : Rho}, lcOut t cond it1 t1 cond1 elt vs vs1 ds acc ρ = .ok accF ρF → acc.length ≤ accF.length
  | [], acc, ρ, accF, ρF, h => by
    cases h
    exact Nat.le_refl _
  | d :: ds, acc, ρ, accF, ρF, h => by
    unfold lcOut at h
    split at h
    · cases h
    · split at h
      · split at h
        · split at h
          · rename_i q
            exact Nat.le_trans (lcLoop_grows q) (lcOut_grows h)
          · cases h
        · cases h
      · exact lcOut_grows h
      · cases h
theorem lc2_read {vs : List Nat} {elt : M D} (hp : ∀ i ∈ vs, npin c i = true) (hts : ∀ i ∈ ts, i ∈ vs) (hts1 : ∀ i ∈ ts1, i ∈ vs1) (hv : ∀ i ∈ vs1, i ∈ vs) {σ : L2.St} {H : Hp} {Q : VK} (h : tN X.K c (lcM2 it t cond it1 t1 cond1 elt vs vs1) σ H Q) :
    tLc2 (tI X.K c it) (gD X.K c.nox t ts) (tT X.K c.nox cond) (tI X.K c.nox it1) (gD X.K c.nox t1 ts1) (tT X.K c.nox cond1) (tD X.K c.nox elt) vs vs1 σ H Q := by
  have hp1 : ∀ i ∈ vs1, npin c i = true := fun i hi => hp i (hv i hi)
  obtain ⟨B, G, ρ, r, h⟩ := h
  refine ⟨B, G, ρ, r, h.bind.imp fun ds ρ1 G1 H1 s1 r1 h1 J hJ p hD => ?_⟩
  by_cases no : noOwn ρ1 vs = true
  · rw [if_pos no] at h1
    cases q : lcOut t cond it1 t1 cond1 elt vs vs1 ds [] (wipeR ρ1 vs) with
    | no => rw [q] at h1; exact h1.elim
    | err x ρ' => rw [q] at h1; exact h1.elim
    | ok accF ρF =>
      rw [q] at h1
      by_cases hz : szOk accF.length
      · have h1 : XPost X.K c B σ G1 (fun o ρ' G' H' => ∀ p, New B G' σ ρ' p → ORep X.K G' H' p o → Q (.ref p) H') (if szOk accF.length then .ok (.lst accF) (unwipe ρ1 ρF vs) else .no) := h1
        rw [if_pos hz] at h1
        obtain ⟨rD, nD⟩ := r1.newOf (o := .lst []) hD
        have b0 : Bk X.K c B G1 (upd H1 p (.lst [])) (wipe σ vs) (wipeR ρ1 vs) p [] := ⟨(rD.nox).wipe (c := c.nox) hp, nD.wipe, [], upd_same, .nil⟩
        refine ⟨fun i m H' => m = ds.length - i ∧ i ≤ ds.length ∧ ∃ G' ρ' acc, Sub G1 G' ∧ Bk X.K c B G' H' (wipe σ vs) ρ' p acc ∧ lcOut t cond it1 t1 cond1 elt vs vs1 (ds.drop i) acc ρ' = .ok accF ρF,
          ⟨ds.length, by simp, Nat.zero_le _, G1, _, [], .refl G1, b0, by rw [List.drop_zero]; exact q⟩, ?_⟩
        rintro i m H' ⟨rfl, hi, G', ρ', acc, s', b, e'⟩
        by_cases hlt : i < ds.length
        · have hd : ds.drop i = ds[i] :: ds.drop (i + 1) := List.drop_eq_getElem_cons hlt
          rw [hd] at e'
          have e' : (match t ds[i] ρ' with
            | none => .no
            | some ρ1 => match cond ρ1 with
              | .ok true ρ2 => (match it1 ρ2 with
                | .ok ds2 ρ3 => (match lcLoop t1 cond1 elt vs1 ds2 acc (wipeR ρ3 vs1) with
                  | .ok acc' ρ4 => lcOut t cond it1 t1 cond1 elt vs vs1 (ds.drop (i + 1)) acc' (wipeR ρ4 vs)
                  | _ => .no)
                | _ => .no)
              | .ok false ρ2 => lcOut t cond it1 t1 cond1 elt vs vs1 (ds.drop (i + 1)) acc (wipeR ρ2 vs)
              | _ => .no) = Rs.ok accF ρF := e'
          refine .inr ⟨hJ.go i H' (s'.trans b.rl.sub) hlt, fun H2 => ∃ G2 ρ2 acc2, Sub G1 G2 ∧ Bk X.K c B G2 H2 (wipe σ vs) ρ2 p acc2 ∧ lcOut t cond it1 t1 cond1 elt vs vs1 (ds.drop (i + 1)) acc2 ρ2 = .ok accF ρF,
            fun H2 x => ⟨ds.length - (i + 1), by omega, rfl, hlt, x⟩, fun x H2 y => ?_⟩
          obtain ⟨G2, g, rx⟩ := hJ.yld i H' x H2 ds[i] (s'.trans b.rl.sub) (List.getElem?_eq_getElem hlt) y G' s' b.rl.sub
          have b2 := b.mono g
          cases qt : t ds[i] ρ' with
          | none => rw [qt] at e'; cases e'
          | some ρ3 =>
            rw [qt] at e'
            refine b2.tgt rx qt fun σ2 b3 hl ho => ⟨?_, ?_⟩
            · rw [wipe_agree (vs := vs) hl ho hts, wipe_wipe]
            · have hw : wipe σ2 vs = wipe σ vs := by rw [wipe_agree (vs := vs) hl ho hts, wipe_wipe]
              have hw1 : wipe (wipe σ2 vs1) vs = wipe σ vs := by
                rw [← hw]
                exact wipe_agree (ts := vs1) (wipe_length _ _) (fun j hj => wipe_out hj) hv
              have e' : (match cond ρ3 with
                | .ok true ρ2 => (match it1 ρ2 with
                  | .ok ds2 ρ3 => (match lcLoop t1 cond1 elt vs1 ds2 acc (wipeR ρ3 vs1) with
                    | .ok acc' ρ4 => lcOut t cond it1 t1 cond1 elt vs vs1 (ds.drop (i + 1)) acc' (wipeR ρ4 vs)
                    | _ => .no)
                  | _ => .no)
                | .ok false ρ2 => lcOut t cond it1 t1 cond1 elt vs vs1 (ds.drop (i + 1)) acc (wipeR ρ2 vs)
                | _ => .no) = Rs.ok accF ρF := e'
              cases qc : cond ρ3 with
              | no => rw [qc] at e'; cases e'
              | err _ _ => rw [qc] at e'; cases e'
              | ok k ρ4 =>
                rw [qc] at e'
                obtain ⟨B', r', x'⟩ := b3.run (m := cond) (P := fun b _ _ H3 => if b = true then tI X.K c.nox it1 σ2 H3 fun J1 H4 => ∃ W1 : Nat → Nat → Hp → Prop, (∃ m, W1 0 m H4) ∧ ∀ j k H, W1 j k H →
                    (J1.stop j H ∧ ∃ G2 ρ2 acc2, Sub G1 G2 ∧ Bk X.K c B G2 H (wipe σ vs) ρ2 p acc2 ∧ lcOut t cond it1 t1 cond1 elt vs vs1 (ds.drop (i + 1)) acc2 ρ2 = .ok accF ρF) ∨ (J1.go j H ∧ ∃ Nx1 : Hp → Prop, (∀ H', Nx1 H' → ∃ k', k' < k ∧ W1 (j + 1) k' H') ∧ ∀ x H', J1.yld j H x H' → gD X.K c.nox t1 ts1 x (wipe σ2 vs1) H' fun σ3 H5 => wipe σ3 vs1 = wipe σ2 vs1 ∧ tT X.K c.nox cond1 σ3 H5 fun b H6 =>
                      if b = true then tD X.K c.nox elt σ3 H6 fun y H7 => ∃ acc, H7 p = some (.lst acc) ∧ acc.length < sizeLine ∧ Nx1 (upd H7 p (.lst (acc ++ [y]))) else Nx1 H6)
                    else ∃ G2 ρ2 acc2, Sub G1 G2 ∧ Bk X.K c B G2 H3 (wipe σ vs) ρ2 p acc2 ∧ lcOut t cond it1 t1 cond1 elt vs vs1 (ds.drop (i + 1)) acc2 ρ2 = .ok accF ρF) (fun k' ρ'' e'' G4 H4 s4 b4 => by
                  rw [qc] at e''
                  cases e''
                  cases k with
                  | false => exact iteF ⟨G4, wipeR ρ4 vs, acc, (s'.trans g.gg).trans s4, by rw [← hw]; exact b4.wipe hp, e'⟩
                  | true =>
                    refine iteT ?_
                    have e' : (match it1 ρ4 with
                      | .ok ds2 ρ3 => (match lcLoop t1 cond1 elt vs1 ds2 acc (wipeR ρ3 vs1) with
                        | .ok acc' ρ4 => lcOut t cond it1 t1 cond1 elt vs vs1 (ds.drop (i + 1)) acc' (wipeR ρ4 vs)
                        | _ => .no)
                      | _ => .no) = Rs.ok accF ρF := e'
                    cases qi : it1 ρ4 with
                    | no => rw [qi] at e'; cases e'
                    | err _ _ => rw [qi] at e'; cases e'
                    | ok ds2 ρ5 =>
                      rw [qi] at e'
                      have e' : (match lcLoop t1 cond1 elt vs1 ds2 acc (wipeR ρ5 vs1) with
                        | .ok acc' ρ4 => lcOut t cond it1 t1 cond1 elt vs vs1 (ds.drop (i + 1)) acc' (wipeR ρ4 vs)
                        | _ => .no) = Rs.ok accF ρF := e'
                      cases ql : lcLoop t1 cond1 elt vs1 ds2 acc (wipeR ρ5 vs1) with
                      | no => rw [ql] at e'; cases e'
                      | err _ _ => rw [ql] at e'; cases e'
                      | ok acc6 ρ6 =>
                        rw [ql] at e'
                        have e' : lcOut t cond it1 t1 cond1 elt vs vs1 (ds.drop (i + 1)) acc6 (wipeR ρ6 vs) = Rs.ok accF ρF := e'
                        have z6 : acc6.length ≤ accF.length := lcOut_grows e'
                        obtain ⟨B5, r5, x5⟩ := b4.run (m := it1) (P := fun ds3 _ G' H' => ∀ J1, ItR X.K G' J1 ds3 → ∃ W1 : Nat → Nat → Hp → Prop, (∃ m, W1 0 m H') ∧ ∀ j k H, W1 j k H →
                            (J1.stop j H ∧ ∃ G2 ρ2 acc2, Sub G1 G2 ∧ Bk X.K c B G2 H (wipe σ vs) ρ2 p acc2 ∧ lcOut t cond it1 t1 cond1 elt vs vs1 (ds.drop (i + 1)) acc2 ρ2 = .ok accF ρF) ∨ (J1.go j H ∧ ∃ Nx1 : Hp → Prop, (∀ H', Nx1 H' → ∃ k', k' < k ∧ W1 (j + 1) k' H') ∧ ∀ x H', J1.yld j H x H' → gD X.K c.nox t1 ts1 x (wipe σ2 vs1) H' fun σ3 H5 => wipe σ3 vs1 = wipe σ2 vs1 ∧ tT X.K c.nox cond1 σ3 H5 fun b H6 =>
                              if b = true then tD X.K c.nox elt σ3 H6 fun y H7 => ∃ acc, H7 p = some (.lst acc) ∧ acc.length < sizeLine ∧ Nx1 (upd H7 p (.lst (acc ++ [y]))) else Nx1 H6)) (fun ds3 ρ7 e7 G7 H7 s7 b7 J1 hJ1 => by
                          rw [qi] at e7
                          cases e7
                          refine ⟨fun j m H8 => m = ds2.length - j ∧ j ≤ ds2.length ∧ ∃ G8 ρ8 acc8, Sub G7 G8 ∧ Bk X.K c B G8 H8 (wipe σ2 vs1) ρ8 p acc8 ∧ lcLoop t1 cond1 elt vs1 (ds2.drop j) acc8 ρ8 = .ok acc6 ρ6,
                            ⟨ds2.length, by simp, Nat.zero_le _, G7, _, acc, .refl G7, b7.wipe hp1, by rw [List.drop_zero]; exact ql⟩, ?_⟩
                          rintro j m H8 ⟨rfl, hj, G8, ρ8, acc8, s8, b8, e8⟩
                          by_cases hlt2 : j < ds2.length
                          · have hd2 : ds2.drop j = ds2[j] :: ds2.drop (j + 1) := List.drop_eq_getElem_cons hlt2
                            rw [hd2] at e8
                            have e8 : (match t1 ds2[j] ρ8 with
                              | none => .no
                              | some ρ1 => match cond1 ρ1 with
                                | .ok true ρ2 => (match elt ρ2 with
                                  | .ok x ρ3 => lcLoop t1 cond1 elt vs1 (ds2.drop (j + 1)) (acc8 ++ [x]) (wipeR ρ3 vs1)
                                  | _ => .no)
                                | .ok false ρ2 => lcLoop t1 cond1 elt vs1 (ds2.drop (j + 1)) acc8 (wipeR ρ2 vs1)
                                | _ => .no) = Rs.ok acc6 ρ6 := e8
                            refine .inr ⟨hJ1.go j H8 (s8.trans b8.rl.sub) hlt2, fun H2 => ∃ G2 ρ2 acc2, Sub G7 G2 ∧ Bk X.K c B G2 H2 (wipe σ2 vs1) ρ2 p acc2 ∧ lcLoop t1 cond1 elt vs1 (ds2.drop (j + 1)) acc2 ρ2 = .ok acc6 ρ6,
                              fun H2 x => ⟨ds2.length - (j + 1), by omega, rfl, hlt2, x⟩, fun x H9 y => ?_⟩
                            obtain ⟨G9, g9, rx9⟩ := hJ1.yld j H8 x H9 ds2[j] (s8.trans b8.rl.sub) (List.getElem?_eq_getElem hlt2) y G8 s8 b8.rl.sub
                            have b9 := b8.mono g9
                            cases qt9 : t1 ds2[j] ρ8 with
                            | none => rw [qt9] at e8; cases e8
                            | some ρ9 =>
                              rw [qt9] at e8
                              refine b9.tgt rx9 qt9 fun σ3 b10 hl3 ho3 => ⟨?_, ?_⟩
                              · rw [wipe_agree (vs := vs1) hl3 ho3 hts1, wipe_wipe]
                              · have hw3 : wipe σ3 vs1 = wipe σ2 vs1 := by rw [wipe_agree (vs := vs1) hl3 ho3 hts1, wipe_wipe]
                                have e8 : (match cond1 ρ9 with
                                  | .ok true ρ2 => (match elt ρ2 with
                                    | .ok x ρ3 => lcLoop t1 cond1 elt vs1 (ds2.drop (j + 1)) (acc8 ++ [x]) (wipeR ρ3 vs1)
                                    | _ => .no)
                                  | .ok false ρ2 => lcLoop t1 cond1 elt vs1 (ds2.drop (j + 1)) acc8 (wipeR ρ2 vs1)
                                  | _ => .no) = Rs.ok acc6 ρ6 := e8
                                cases qc9 : cond1 ρ9 with
                                | no => rw [qc9] at e8; cases e8
                                | err _ _ => rw [qc9] at e8; cases e8
                                | ok k9 ρ10 =>
                                  rw [qc9] at e8
                                  cases k9 with
                                  | true =>
                                    have e8 : (match elt ρ10 with
                                      | .ok x ρ3 => lcLoop t1 cond1 elt vs1 (ds2.drop (j + 1)) (acc8 ++ [x]) (wipeR ρ3 vs1)
                                      | _ => .no) = Rs.ok acc6 ρ6 := e8
                                    cases qe9 : elt ρ10 with
                                    | no => rw [qe9] at e8; cases e8
                                    | err _ _ => rw [qe9] at e8; cases e8
                                    | ok x9 ρ11 =>
                                      rw [qe9] at e8
                                      have e8 : lcLoop t1 cond1 elt vs1 (ds2.drop (j + 1)) (acc8 ++ [x9]) (wipeR ρ11 vs1) = Rs.ok acc6 ρ6 := e8
                                      have z8 := lcLoop_grows e8
                                      rw [List.length_append, List.length_singleton] at z8
                                      refine lc_turn (G1 := G1) hp1 b10 (by unfold szOk at hz; omega) ⟨true, ρ10, qc9, fun _ => ⟨x9, ρ11, qe9, fun G12 H12 s12 b12 => ⟨G12, wipeR ρ11 vs1, acc8 ++ [x9], (s8.trans g9.gg).trans s12, by rw [← hw3]; exact b12, e8⟩⟩, fun z => nomatch z⟩
                                  | false =>
                                    have e8 : lcLoop t1 cond1 elt vs1 (ds2.drop (j + 1)) acc8 (wipeR ρ10 vs1) = Rs.ok acc6 ρ6 := e8
                                    obtain ⟨B11, r11, x11⟩ := b10.run (m := cond1) (P := fun b _ _ H6 => if b = true then tD X.K c.nox elt σ3 H6 fun y H7 => ∃ acc, H7 p = some (.lst acc) ∧ acc.length < sizeLine ∧ (fun H2 => ∃ G2 ρ2 acc2, Sub G7 G2 ∧ Bk X.K c B G2 H2 (wipe σ2 vs1) ρ2 p acc2 ∧ lcLoop t1 cond1 elt vs1 (ds2.drop (j + 1)) acc2 ρ2 = .ok acc6 ρ6) (upd H7 p (.lst (acc ++ [y]))) else (fun H2 => ∃ G2 ρ2 acc2, Sub G7 G2 ∧ Bk X.K c B G2 H2 (wipe σ2 vs1) ρ2 p acc2 ∧ lcLoop t1 cond1 elt vs1 (ds2.drop (j + 1)) acc2 ρ2 = .ok acc6 ρ6) H6) (fun k' ρ'' e'' G12 H12 s12 b12 => by
                                      rw [qc9] at e''
                                      cases e''
                                      exact iteF ⟨G12, wipeR ρ10 vs1, acc8, (s8.trans g9.gg).trans s12, by rw [← hw3]; exact b12.wipe hp1, e8⟩) ⟨false, ρ10, qc9⟩
                                    exact ⟨B11, G9, ρ9, r11, x11⟩
                          · have hd2 : j = ds2.length := by omega
                            subst hd2
                            rw [List.drop_length] at e8
                            cases e8
                            refine .inl ⟨hJ1.stop H8 (s8.trans b8.rl.sub), G8, wipeR ρ6 vs, acc6, (((s'.trans g.gg).trans s4).trans s7).trans s8, by rw [← hw1]; exact b8.wipe hp, e'⟩) ⟨ds2, ρ5, qi⟩
                        exact ⟨B5, G4, ρ4, r5, x5⟩) ⟨k, ρ4, qc⟩
                exact ⟨B', G2, ρ3, r', x'⟩
        · have hd : i = ds.length := by omega
          subst hd
          rw [List.drop_length] at e'
          cases e'
          refine .inl ⟨hJ.stop H' (s'.trans b.rl.sub), ?_⟩
          obtain ⟨ws, hp', rs⟩ := b.at_
          have rU : Rl X.K c B G' H' σ (unwipe ρ1 ρF vs) := Rl.unwipe r1 (b.rl.xon) s' no
          refine h1 G' H' s' rU p ⟨b.new.1, b.new.2.1, fun j o e z => ?_⟩ ⟨ws, hp', rs⟩
          rcases unwipe_at e with ⟨a1, a2⟩ | ⟨a1, a2⟩
          · exact noOwn_at no a1 a2
          · rw [← wipe_out (vs := vs) a1] at z
            exact b.new.2.2 j o a2 z
      · have h1 : XPost X.K c B σ G1 (fun o ρ' G' H' => ∀ p, New B G' σ ρ' p → ORep X.K G' H' p o → Q (.ref p) H') (if szOk accF.length then .ok (.lst accF) (unwipe ρ1 ρF vs) else .no) := h1
        rw [if_neg hz] at h1
        exact h1.elim
  · rw [if_neg no] at h1
    exact h1.elim
theorem pdn_lc2 (hc : X.calm = true) (hN : X.N.Nodup) (hi : PI X tg iter (tI X.K c it)) (ok : BlkOk X.N X.env.scope scope own) (hg : InBlk X scope fun Y => PG Y tg (gD X.K c.nox t ts)) (ht : InBlk X scope fun Y => PTs Y ifs (tT X.K c.nox cond))
    (hi1 : InBlk X scope fun Y => PI Y tg1 iter1 (tI X.K c.nox it1)) (hg1 : InBlk X scope fun Y => PG Y tg1 (gD X.K c.nox t1 ts1)) (ht1 : InBlk X scope fun Y => PTs Y ifs1 (tT X.K c.nox cond1)) (he : InBlk X scope fun Y => PE Y elt (tD X.K c.nox em))
    (hv : memB vs1 (own.map (·.2)) = true := by rfl) (hp : npins c (own.map (·.2)) = true := by rfl) (hts : memB ts (own.map (·.2)) = true := by rfl) (hts1 : memB ts1 vs1 = true := by rfl) (hs : ∀ x, foldedSetIterable iter X.env x = pure x := by intro _; rfl) (hs1 : ∀ env x, foldedSetIterable iter1 env x = pure x := by intro _ _; rfl) :
    PE X (.ListComp elt [⟨tg, iter, ifs, 0⟩, ⟨tg1, iter1, ifs1, 0⟩] scope pos) (tN X.K c (lcM2 it t cond it1 t1 cond1 em (own.map (·.2)) vs1)) :=
  PE_imp (pe_lc2 hc hN hi ok (memB_ok hv) hg ht hi1 hg1 ht1 he hs hs1) fun σ H Q h => lc2_read (npins_ok hp) (memB_ok hts) (memB_ok hts1) (memB_ok hv) h
end
end Dn

set_option Elab.async false
set_option linter.all false
set_option maxRecDepth 100000
set_option maxHeartbeats 4000000
/-! Dn9: defs and their calls, by data. -/
namespace Dn
open PySem PySem.Spec PyProof.Rows L2

/-- what a call gives back: data, or a new object -/
inductive Out where
  | rt (d : D)
  | rn (o : OO)
inductive DR where
  | ok (r : Out) (os : List (Option OO))
  | err (x : Exn) (os : List (Option OO))
  | no
/-- what a def computes: from its arguments, the objects that are owned among them -/
abbrev Den := List Sl → DR

def OwnAt (sls : List Sl) (vs : List V) (a : Addr) : Prop := ∃ (i : Nat) (o : OO), sls[i]? = some (.own o) ∧ vs[i]? = some (.ref a)
open Classical in
noncomputable def Keep (H : Hp) (sls : List Sl) (vs : List V) : Hp := fun a => if OwnAt sls vs a then none else H a
theorem keep_sub {H : Hp} {sls : List Sl} {vs : List V} : Sub (Keep H sls vs) H := fun a o e => by
  unfold Keep at e
  split at e
  · cases e
  · exact e
theorem keep_own {H : Hp} {sls : List Sl} {vs : List V} {a : Addr} (h : OwnAt sls vs a) : Keep H sls vs a = none := by
  unfold Keep
  rw [if_pos h]
theorem keep_not {H : Hp} {sls : List Sl} {vs : List V} {a : Addr} (h : ¬ OwnAt sls vs a) : Keep H sls vs a = H a := by
  unfold Keep
  rw [if_neg h]
structure ArgRel (K : PySem.W.Frag) (G H : Hp) (sls : List Sl) (vs : List V) : Prop where
  len : vs.length = sls.length
  sub : Sub G H
  at_ : ∀ (i : Nat) (s : Sl), sls[i]? = some s → ∃ v, vs[i]? = some v ∧ SRep K (Keep H sls vs) G H s v
  dist : ∀ (i j : Nat) (o o' : OO) (v : V), i ≠ j → sls[i]? = some (.own o) → sls[j]? = some (.own o') → vs[i]? = some v → vs[j]? ≠ some v
structure After (K : PySem.W.Frag) (G H : Hp) (sls : List Sl) (vs : List V) (os : List (Option OO)) (G' H' : Hp) : Prop where
  sub : Sub G' H'
  gg : Sub G G'
  keep : Sub (Keep H sls vs) H'
  fresh : ∀ a, G' a ≠ none → G a ≠ none ∨ Keep H sls vs a = none
  own : ∀ (i : Nat) (o : OO), os[i]? = some (some o) → (∃ o0, sls[i]? = some (.own o0)) ∧ ∃ p, vs[i]? = some (.ref p) ∧ G' p = none ∧ ORep K G' H' p o
def DPost (K : PySem.W.Frag) (G H : Hp) (sls : List Sl) (vs : List V) (Q : VK) (E : XK) : DR → Prop
  | .ok (.rt d) os => ∀ G' H' v, After K G H sls vs os G' H' → Rep K G' d v → Q v H'
  | .ok (.rn o) os => ∀ G' H' p, After K G H sls vs os G' H' → G' p = none → Keep H sls vs p = none → (∀ (i : Nat) (o' : OO), os[i]? = some (some o') → vs[i]? ≠ some (.ref p)) → ORep K G' H' p o → Q (.ref p) H'
  | .err x os => ∀ G' H' dx, After K G H sls vs os G' H' → XRep K G' H' x dx → E (.ref x.cls) dx H'
  | .no => False
def spD (K : PySem.W.Frag) (n : Nat) (den : Den) : Sp := fun vs H Q E => vs.length = n ∧ ∃ G sls, ArgRel K G H sls vs ∧ DPost K G H sls vs Q E (den sls)

/-! ### a def from its body -/
def okM : List Bool → List Sl → Bool
  | [], [] => true
  | true :: m, .own _ :: s => okM m s
  | false :: m, .fz _ :: s => okM m s
  | _, _ => false
def ends : List Bool → Rho → Option (List (Option OO))
  | [], _ => some []
  | true :: m, some (.own o) :: ρ => (ends m ρ).map (some o :: ·)
  | false :: m, _ :: ρ => (ends m ρ).map (none :: ·)
  | _, _ => none
def pinAt : List Bool → List V → List (Option V)
  | [], _ => []
  | true :: m, vs => vs.head? :: pinAt m vs.tail
  | false :: m, vs => none :: pinAt m vs.tail
def endM (msk : List Bool) (r : Out) (ρ : Rho) : DR := match ends msk ρ with
  | some os => .ok r os
  | none => .no
def fnDen (msk : List Bool) (n : Nat) (mb : M Fl) : Den := fun sls => if okM msk sls = true then (match mb (sls.map some ++ List.replicate (n - sls.length) none) with
  | .ok .nx ρ => endM msk (.rt .non) ρ
  | .ok (.rt d) ρ => endM msk (.rt d) ρ
  | .ok (.rn o) ρ => endM msk (.rn o) ρ
  | .err x ρ => (match ends msk ρ with
    | some os => .err x os
    | none => .no)
  | _ => .no) else .no
theorem okM_len : ∀ {m : List Bool} {s : List Sl}, okM m s = true → s.length = m.length
  | [], [], _ => rfl
  | true :: m, .own _ :: s, h => by simp [okM_len (m := m) (s := s) h]
  | false :: m, .fz _ :: s, h => by simp [okM_len (m := m) (s := s) h]
  | [], _ :: _, h => by cases h
  | true :: m, [], h => by cases h
  | false :: m, [], h => by cases h
  | true :: m, .fz _ :: s, h => by cases h
  | false :: m, .own _ :: s, h => by cases h
theorem okM_own : ∀ {m : List Bool} {s : List Sl} {i : Nat}, okM m s = true → m[i]? = some true → ∃ o, s[i]? = some (.own o)
  | true :: m, .own o :: s, 0, h, e => ⟨o, rfl⟩
  | true :: m, .own _ :: s, i + 1, h, e => by
    obtain ⟨o, q⟩ := okM_own (m := m) (s := s) (i := i) h (by simpa using e)
    exact ⟨o, by simpa using q⟩
  | false :: m, .fz _ :: s, i + 1, h, e => by
    obtain ⟨o, q⟩ := okM_own (m := m) (s := s) (i := i) h (by simpa using e)
    exact ⟨o, by simpa using q⟩
  | false :: m, .fz _ :: s, 0, h, e => by simp at e
  | [], _, i, h, e => by simp at e
  | true :: m, [], i, h, e => by cases h
  | false :: m, [], i, h, e => by cases h
  | true :: m, .fz _ :: s, i, h, e => by cases h
  | false :: m, .own _ :: s, i, h, e => by cases h
theorem ends_at : ∀ {m : List Bool} {ρ : Rho} {os : List (Option OO)} {i : Nat} {o : OO}, ends m ρ = some os → os[i]? = some (some o) → m[i]? = some true ∧ ρ[i]? = some (some (.own o))
  | [], ρ, os, i, o, h, e => by
    cases h
    simp at e
  | true :: m, some (.own o1) :: ρ, os, i, o, h, e => by
    have h : (ends m ρ).map (some o1 :: ·) = some os := h
    cases q : ends m ρ with
    | none => rw [q] at h; cases h
    | some r =>
      rw [q] at h
      cases h
      cases i with
      | zero =>
        simp at e
        subst e
        exact ⟨rfl, rfl⟩
      | succ i =>
        obtain ⟨a, b⟩ := ends_at (i := i) q (by simpa using e)
        exact ⟨by simpa using a, by simpa using b⟩
  | false :: m, y :: ρ, os, i, o, h, e => by
    have h : (ends m ρ).map (none :: ·) = some os := h
    cases q : ends m ρ with
    | none => rw [q] at h; cases h
    | some r =>
      rw [q] at h
      cases h
      cases i with
      | zero => simp at e
      | succ i =>
        obtain ⟨a, b⟩ := ends_at (i := i) q (by simpa using e)
        exact ⟨by simpa using a, by simpa using b⟩
  | true :: m, some (.fz d) :: ρ, os, i, o, h, e => by cases h
  | true :: m, none :: ρ, os, i, o, h, e => by cases h
  | true :: m, [], os, i, o, h, e => by cases h
  | false :: m, [], os, i, o, h, e => by cases h
theorem pinAt_at : ∀ {m : List Bool} {vs : List V} {i : Nat} {v : V}, (pinAt m vs)[i]? = some (some v) → vs[i]? = some v
  | [], vs, i, v, h => by simp [pinAt] at h
  | true :: m, vs, 0, v, h => by
    cases vs with
    | nil => simp [pinAt] at h
    | cons a r => simpa [pinAt] using h
  | true :: m, vs, i + 1, v, h => by
    have h : (pinAt m vs.tail)[i]? = some (some v) := by simpa [pinAt] using h
    have q := pinAt_at h
    cases vs with
    | nil => simp at q
    | cons a r => simpa using q
  | false :: m, vs, 0, v, h => by simp [pinAt] at h
  | false :: m, vs, i + 1, v, h => by
    have h : (pinAt m vs.tail)[i]? = some (some v) := by simpa [pinAt] using h
    have q := pinAt_at h
    cases vs with
    | nil => simp at q
    | cons a r => simpa using q
theorem pinAt_is : ∀ {m : List Bool} {vs : List V} {i : Nat}, m[i]? = some true → vs.length = m.length → ∃ v, vs[i]? = some v ∧ (pinAt m vs)[i]? = some (some v)
  | [], vs, i, h, l => by simp at h
  | b :: m, [], i, h, l => by simp at l
  | true :: m, v :: vs, 0, h, l => ⟨v, rfl, rfl⟩
  | false :: m, v :: vs, 0, h, l => by simp at h
  | true :: m, v :: vs, i + 1, h, l => by
    obtain ⟨w, a, b⟩ := pinAt_is (m := m) (vs := vs) (i := i) (by simpa using h) (by simpa using l)
    exact ⟨w, by simpa using a, by simpa [pinAt] using b⟩
  | false :: m, v :: vs, i + 1, h, l => by
    obtain ⟨w, a, b⟩ := pinAt_is (m := m) (vs := vs) (i := i) (by simpa using h) (by simpa using l)
    exact ⟨w, by simpa using a, by simpa [pinAt] using b⟩
section
variable {K : PySem.W.Frag} {G H : Hp} {sls : List Sl} {vs : List V} {W : WX}
theorem pad_get {α : Type} {l : List α} {k i : Nat} {s : α} (h : (l.map some ++ List.replicate k none)[i]? = some (some s)) : l[i]? = some s := by
  by_cases hi : i < l.length
  · rw [List.getElem?_append_left (by simpa using hi), List.getElem?_map] at h
    cases q : l[i]? with
    | none => rw [q] at h; cases h
    | some x => rw [q] at h; cases h; rfl
  · rw [List.getElem?_append_right (by simp; omega), List.getElem?_replicate] at h
    split at h
    · cases h
    · cases h
theorem pad_put {α : Type} {l : List α} {k i : Nat} {s : α} (h : l[i]? = some s) : (l.map some ++ List.replicate k none)[i]? = some (some s) := by
  have hi := (List.getElem?_eq_some_iff.mp h).1
  rw [List.getElem?_append_left (by simpa using hi), List.getElem?_map, h]
  rfl
theorem ArgRel.begin (a : ArgRel K G H sls vs) {msk : List Bool} {N : List Str} (hl : sls.length = msk.length) : Rl K ⟨G, pinAt msk vs, W⟩ (Keep H sls vs) G H (L2.start N vs) (sls.map some ++ List.replicate (N.length - sls.length) none) where
  sub := a.sub
  base := keep_sub
  ext := .refl G
  fresh := fun x h => .inl h
  len := by unfold L2.start; simp [a.len]
  slots := fun i s e => by
    obtain ⟨v, h1, h2⟩ := a.at_ i s (pad_get e)
    exact ⟨v, by unfold L2.start; exact pad_put h1, h2⟩
  dist := fun i j o o' v hij h1 h2 h3 h4 => by
    unfold L2.start at h3 h4
    exact a.dist i j o o' v hij (pad_get h1) (pad_get h2) (pad_get h3) (pad_get h4)
  pin := fun i v e => by unfold L2.start; exact pad_put (pinAt_at e)
theorem Rl.after {msk : List Bool} {os : List (Option OO)} {G' H' : Hp} {σ' : L2.St} {ρ' : Rho} (hm : okM msk sls = true) (hl : vs.length = sls.length) (r : Rl K ⟨G, pinAt msk vs, W⟩ (Keep H sls vs) G' H' σ' ρ') (e : ends msk ρ' = some os) :
    After K G H sls vs os G' H' ∧ ∀ p, New (Keep H sls vs) G' σ' ρ' p → ∀ (i : Nat) (o' : OO), os[i]? = some (some o') → vs[i]? ≠ some (.ref p) := by
  have key : ∀ (i : Nat) (o : OO), os[i]? = some (some o) → ∃ v, vs[i]? = some v ∧ σ'[i]? = some (some v) ∧ ρ'[i]? = some (some (.own o)) ∧ msk[i]? = some true := fun i o q => by
    obtain ⟨h1, h2⟩ := ends_at e q
    obtain ⟨v, h3, h4⟩ := pinAt_is (vs := vs) h1 (by rw [hl, okM_len hm])
    exact ⟨v, h3, r.pin i v h4, h2, h1⟩
  refine ⟨⟨r.sub, r.ext, r.base, r.fresh, fun i o q => ?_⟩, fun p n i o q z => ?_⟩
  · obtain ⟨v, h1, h2, h3, h4⟩ := key i o q
    refine ⟨okM_own hm h4, ?_⟩
    obtain ⟨v', h5, p, rfl, h6, h7, h8⟩ := r.slots i _ h3
    rw [h2] at h5
    cases h5
    exact ⟨p, h1, h6, h8⟩
  · obtain ⟨v, h1, h2, h3, h4⟩ := key i o q
    rw [h1] at z
    cases z
    exact n.2.2 i o h3 h2
end
section
variable {P : Program} {w : World} {K : PySem.W.Frag} {mg : Str → Option Value} {base : Heap}
theorem fn_den {x qual : Str} {st : Stmt} {f : Addr} {fd : FuncData} {N ps : List Str} {k : Nat} {msk : List Bool} {mb : M Fl} (F : Fun K x qual st f fd) (S : FnScope N ps (defScope st)) (hm : ps.length = msk.length)
    (hb : ∀ (cdv : Value) (A : Around) (outer : List Env) (s : Shared) (H : Hp) (vs : List V) (E : XK) (G : Hp), Room k (A.deeper (envOfC qual (defScope st) s.heap.objs.size f cdv)) →
      Takes (cxOf (L2.CX P w) P w K mg base N qual (defScope st) f cdv A outer s H E) (fun cls d _ H => E cls d H) →
      PSs (cxOf (L2.CX P w) P w K mg base N qual (defScope st) f cdv A outer s H E) (defBody st) (tS K ⟨G, pinAt msk vs, fun cls d _ H => E cls d H⟩ mb)) :
    FnOk P w K mg base (L2.CX P w) (k + 1) f fd ps (spD K ps.length (fnDen msk N.length mb)) := by
  refine F.okX S (fun vs H Q E h => h.1) fun cdv A outer s H vs Q E hr hsp => ?_
  obtain ⟨hn, G, sls, ar, hd⟩ := hsp
  refine ⟨_, hb cdv A outer s H vs E G hr (takes_of (E := E) (E₁ := fun e' s'' => L2.CX P w outer H s E e' s'') rfl rfl rfl rfl), ?_⟩
  unfold fnDen at hd
  by_cases hk : okM msk sls = true
  · rw [if_pos hk] at hd
    refine ⟨Keep H sls vs, G, _, ar.begin (N := N) (okM_len hk), ?_⟩
    have hvl := ar.len
    cases e : mb (sls.map some ++ List.replicate (N.length - sls.length) none) with
    | no => rw [e] at hd; exact hd.elim
    | err xx ρ =>
      rw [e] at hd
      have hd : DPost K G H sls vs Q E (match ends msk ρ with
        | some os => .err xx os
        | none => .no) := hd
      cases q : ends msk ρ with
      | none => rw [q] at hd; exact hd.elim
      | some os =>
        rw [q] at hd
        intro σ' dx G' H' s' r xr
        exact hd G' H' dx (r.after hk hvl q).1 xr
    | ok fl ρ =>
      rw [e] at hd
      cases fl with
      | bk => exact hd.elim
      | ct => exact hd.elim
      | nx =>
        have hd : DPost K G H sls vs Q E (endM msk (.rt .non) ρ) := hd
        unfold endM at hd
        cases q : ends msk ρ with
        | none => rw [q] at hd; exact hd.elim
        | some os =>
          rw [q] at hd
          intro σ' G' H' s' r
          exact hd G' H' _ (r.after hk hvl q).1 rep_non
      | rt d =>
        have hd : DPost K G H sls vs Q E (endM msk (.rt d) ρ) := hd
        unfold endM at hd
        cases q : ends msk ρ with
        | none => rw [q] at hd; exact hd.elim
        | some os =>
          rw [q] at hd
          intro σ' G' H' v s' r rv
          exact hd G' H' v (r.after hk hvl q).1 rv
      | rn o =>
        have hd : DPost K G H sls vs Q E (endM msk (.rn o) ρ) := hd
        unfold endM at hd
        cases q : ends msk ρ with
        | none => rw [q] at hd; exact hd.elim
        | some os =>
          rw [q] at hd
          intro σ' G' H' p s' r n ro
          obtain ⟨a1, a2⟩ := r.after hk hvl q
          exact hd G' H' p a1 n.1 n.2.1 (a2 p n) ro
  · rw [if_neg hk] at hd
    exact hd.elim
/-- a def that may be called by its name -/
structure Cd (P : Program) (w : World) (K : PySem.W.Frag) (mg : Str → Option Value) (base : Heap) (k : Nat) (x : Str) (den : Den) : Prop where
  ex : ∃ (f : Addr) (fd : FuncData) (ps : List Str), FnOk P w K mg base (L2.CX P w) k f fd ps (spD K ps.length den) ∧ mg x = some (.ref f) ∧ PySem.W.keepIn K (.ref f) = true ∧ Binds K fd ps [] ∧ ∀ sls, den sls ≠ .no → sls.length = ps.length
theorem Cd.mono {j k : Nat} {x : Str} {den : Den} (c : Cd P w K mg base j x den) (h : j ≤ k) : Cd P w K mg base k x den := by
  obtain ⟨f, fd, ps, F, a, b, d, l⟩ := c.ex
  exact ⟨f, fd, ps, F.mono h, a, b, d, l⟩
theorem fnDen_len {msk : List Bool} {n : Nat} {mb : M Fl} {sls : List Sl} (h : fnDen msk n mb sls ≠ .no) : sls.length = msk.length := by
  unfold fnDen at h
  by_cases hk : okM msk sls = true
  · exact okM_len hk
  · rw [if_neg hk] at h
    exact absurd rfl h
theorem cd_mk {x qual : Str} {st : Stmt} {f : Addr} {fd : FuncData} {N ps : List Str} {k : Nat} {msk : List Bool} {mb : M Fl} (F : Fun K x qual st f fd) (hmg : mg x = some (.ref f)) (S : FnScope N ps (defScope st)) (hm : ps.length = msk.length) (b : Binds K fd ps [])
    (hb : ∀ (cdv : Value) (A : Around) (outer : List Env) (s : Shared) (H : Hp) (vs : List V) (E : XK) (G : Hp), Room k (A.deeper (envOfC qual (defScope st) s.heap.objs.size f cdv)) →
      Takes (cxOf (L2.CX P w) P w K mg base N qual (defScope st) f cdv A outer s H E) (fun cls d _ H => E cls d H) →
      PSs (cxOf (L2.CX P w) P w K mg base N qual (defScope st) f cdv A outer s H E) (defBody st) (tS K ⟨G, pinAt msk vs, fun cls d _ H => E cls d H⟩ mb)) :
    Cd P w K mg base (k + 1) x (fnDen msk N.length mb) := ⟨f, fd, ps, fn_den F S hm hb, hmg, F.kp, b, fun sls h => (fnDen_len h).trans hm.symm⟩
end

/-! ### calls -/
def slsOf : List Pa → Rho → Option (List Sl)
  | [], _ => some []
  | .v d :: r, ρ => (slsOf r ρ).map (.fz d :: ·)
  | .s i :: r, ρ => match ρ[i]? with
    | some (some s) => (slsOf r ρ).map (s :: ·)
    | _ => none
def slotsP : List Pa → List Nat
  | [] => []
  | .v _ :: r => slotsP r
  | .s i :: r => i :: slotsP r
def isFz (ρ : Rho) (i : Nat) : Bool := match ρ[i]? with
  | some (some (.own _)) => false
  | _ => true
def putO : List Pa → List (Option OO) → Rho → Option Rho
  | [], [], ρ => some ρ
  | .v _ :: ps, none :: os, ρ => putO ps os ρ
  | .s i :: ps, some o :: os, ρ => putO ps os (ρ.set i (some (.own o)))
  | .s i :: ps, none :: os, ρ => if isFz ρ i = true then putO ps os ρ else none
  | _, _, _ => none
def callR (den : Den) (ps : List Pa) : M Out := fun ρ => if (slotsP ps).Nodup then (match slsOf ps ρ with
  | none => .no
  | some sls => match den sls with
    | .ok r os => (match putO ps os ρ with
      | some ρ' => .ok r ρ'
      | none => .no)
    | .err x os => (match putO ps os ρ with
      | some ρ' => .err x ρ'
      | none => .no)
    | .no => .no) else .no
/-- the call's value as data -/
def outD : Out → Option D
  | .rt d => some d
  | .rn o => frz o
def outN : Out → Option OO
  | .rn o => some o
  | .rt _ => none
def callD (den : Den) (ra : M (List Pa)) : M D := bind (bind ra (callR den)) fun o => lift (outD o)
def callN (den : Den) (ra : M (List Pa)) : M OO := bind (bind ra (callR den)) fun o => lift (outN o)

theorem slsOf_get : ∀ {ps : List Pa} {ρ : Rho} {sls : List Sl}, slsOf ps ρ = some sls → (sls.length = ps.length) ∧ (∀ (j i : Nat), ps[j]? = some (Pa.s i) → ∃ s, sls[j]? = some s ∧ ρ[i]? = some (some s)) ∧ (∀ (j : Nat) (d : D), ps[j]? = some (Pa.v d) → sls[j]? = some (Sl.fz d))
  | [], ρ, sls, h => by
    cases h
    exact ⟨rfl, fun j i e => by simp at e, fun j d e => by simp at e⟩
  | .v d :: ps, ρ, sls, h => by
    have h : (slsOf ps ρ).map (.fz d :: ·) = some sls := h
    cases q : slsOf ps ρ with
    | none => rw [q] at h; cases h
    | some r =>
      rw [q] at h
      cases h
      obtain ⟨a, b, c⟩ := slsOf_get q
      refine ⟨by simp [a], fun j i e => ?_, fun j d' e => ?_⟩
      · cases j with
        | zero => simp at e
        | succ j =>
          obtain ⟨s, h1, h2⟩ := b j i (by simpa using e)
          exact ⟨s, by simpa using h1, h2⟩
      · cases j with
        | zero =>
          simp at e
          subst e
          rfl
        | succ j => simpa using c j d' (by simpa using e)
  | .s i :: ps, ρ, sls, h => by
    have h : (match ρ[i]? with
      | some (some s) => (slsOf ps ρ).map (s :: ·)
      | _ => none) = some sls := h
    split at h
    · rename_i s es
      cases q : slsOf ps ρ with
      | none => rw [q] at h; cases h
      | some r =>
        rw [q] at h
        cases h
        obtain ⟨a, b, c⟩ := slsOf_get q
        refine ⟨by simp [a], fun j i' e => ?_, fun j d' e => ?_⟩
        · cases j with
          | zero =>
            simp at e
            subst e
            exact ⟨s, rfl, es⟩
          | succ j =>
            obtain ⟨s', h1, h2⟩ := b j i' (by simpa using e)
            exact ⟨s', by simpa using h1, h2⟩
        · cases j with
          | zero => simp at e
          | succ j => simpa using c j d' (by simpa using e)
    · cases h
theorem pas_get {K : PySem.W.Frag} {G : Hp} {σ : L2.St} : ∀ {ps : List Pa} {vs : List V}, PasRep K G σ ps vs → vs.length = ps.length ∧ (∀ (j i : Nat), ps[j]? = some (Pa.s i) → ∃ v, vs[j]? = some v ∧ σ[i]? = some (some v)) ∧ (∀ (j : Nat) (d : D), ps[j]? = some (Pa.v d) → ∃ v, vs[j]? = some v ∧ Rep K G d v)
  | [], vs, h => by
    have h : vs = [] := h
    subst h
    exact ⟨rfl, fun j i e => by simp at e, fun j d e => by simp at e⟩
  | .v d :: ps, vs, h => by
    obtain ⟨x, xs, rfl, h1, h2⟩ := h
    obtain ⟨a, b, c⟩ := pas_get h2
    refine ⟨by simp [a], fun j i e => ?_, fun j d' e => ?_⟩
    · cases j with
      | zero => simp at e
      | succ j =>
        obtain ⟨s, h1, h2⟩ := b j i (by simpa using e)
        exact ⟨s, by simpa using h1, h2⟩
    · cases j with
      | zero =>
        simp at e
        subst e
        exact ⟨x, rfl, h1⟩
      | succ j =>
        obtain ⟨s, h1, h2⟩ := c j d' (by simpa using e)
        exact ⟨s, by simpa using h1, h2⟩
  | .s i :: ps, vs, h => by
    obtain ⟨x, xs, rfl, h1, h2⟩ := h
    obtain ⟨a, b, c⟩ := pas_get h2
    refine ⟨by simp [a], fun j i' e => ?_, fun j d' e => ?_⟩
    · cases j with
      | zero =>
        simp at e
        subst e
        exact ⟨x, rfl, h1⟩
      | succ j =>
        obtain ⟨s, h1, h2⟩ := b j i' (by simpa using e)
        exact ⟨s, by simpa using h1, h2⟩
    · cases j with
      | zero => simp at e
      | succ j =>
        obtain ⟨s, h1, h2⟩ := c j d' (by simpa using e)
        exact ⟨s, by simpa using h1, h2⟩
theorem slots_mem : ∀ {ps : List Pa} {j i : Nat}, ps[j]? = some (.s i) → i ∈ slotsP ps
  | .v d :: ps, 0, i, h => by simp at h
  | .v d :: ps, j + 1, i, h => slots_mem (ps := ps) (j := j) (by simpa using h)
  | .s k :: ps, 0, i, h => by
    simp at h
    subst h
    exact List.mem_cons_self
  | .s k :: ps, j + 1, i, h => List.mem_cons_of_mem _ (slots_mem (ps := ps) (j := j) (by simpa using h))
theorem slots_inj : ∀ {ps : List Pa} {j k i : Nat}, (slotsP ps).Nodup → ps[j]? = some (.s i) → ps[k]? = some (.s i) → j = k
  | .v d :: ps, 0, _, i, n, h, _ => by simp at h
  | .v d :: ps, _ + 1, 0, i, n, _, h => by simp at h
  | .v d :: ps, j + 1, k + 1, i, n, h1, h2 => by rw [slots_inj (ps := ps) (j := j) (k := k) n (by simpa using h1) (by simpa using h2)]
  | .s l :: ps, 0, 0, i, n, h1, h2 => rfl
  | .s l :: ps, 0, k + 1, i, n, h1, h2 => by
    simp at h1
    subst h1
    exact absurd (slots_mem (ps := ps) (j := k) (by simpa using h2)) (List.nodup_cons.mp n).1
  | .s l :: ps, j + 1, 0, i, n, h1, h2 => by
    simp at h2
    subst h2
    exact absurd (slots_mem (ps := ps) (j := j) (by simpa using h1)) (List.nodup_cons.mp n).1
  | .s l :: ps, j + 1, k + 1, i, n, h1, h2 => by rw [slots_inj (ps := ps) (j := j) (k := k) (List.nodup_cons.mp n).2 (by simpa using h1) (by simpa using h2)]
theorem putO_get : ∀ {ps : List Pa} {os : List (Option OO)} {ρ ρ' : Rho}, putO ps os ρ = some ρ' → ρ'.length = ρ.length ∧ ∀ (i : Nat) (s : Sl), ρ'[i]? = some (some s) →
    (∃ (j : Nat) (o : OO), ps[j]? = some (.s i) ∧ os[j]? = some (some o) ∧ s = .own o) ∨ (ρ[i]? = some (some s) ∧ ((∃ d, s = .fz d) ∨ ∀ (j : Nat), ps[j]? ≠ some (Pa.s i)))
  | [], [], ρ, ρ', h => by
    cases h
    exact ⟨rfl, fun i s e => .inr ⟨e, .inr fun j => by simp⟩⟩
  | .v d :: ps, none :: os, ρ, ρ', h => by
    obtain ⟨a, b⟩ := putO_get (ps := ps) (os := os) h
    refine ⟨a, fun i s e => ?_⟩
    rcases b i s e with ⟨j, o, h1, h2, h3⟩ | ⟨h1, h2⟩
    · exact .inl ⟨j + 1, o, by simpa using h1, by simpa using h2, h3⟩
    · refine .inr ⟨h1, h2.imp id fun g j => ?_⟩
      cases j with
      | zero => simp
      | succ j => simpa using g j
  | .s k :: ps, some o :: os, ρ, ρ', h => by
    obtain ⟨a, b⟩ := putO_get (ps := ps) (os := os) (ρ := ρ.set k (some (.own o))) h
    refine ⟨by rw [a, List.length_set], fun i s e => ?_⟩
    rcases b i s e with ⟨j, o, h1, h2, h3⟩ | ⟨h1, h2⟩
    · exact .inl ⟨j + 1, o, by simpa using h1, by simpa using h2, h3⟩
    · by_cases hk : k = i
      · subst hk
        have hl : k < ρ.length := by
          have := (List.getElem?_eq_some_iff.mp h1).1
          rw [List.length_set] at this
          exact this
        rw [List.getElem?_set_self hl] at h1
        cases h1
        exact .inl ⟨0, o, rfl, rfl, rfl⟩
      · rw [List.getElem?_set_ne hk] at h1
        refine .inr ⟨h1, h2.imp id fun g j => ?_⟩
        cases j with
        | zero => simpa using hk
        | succ j => simpa using g j
  | .s k :: ps, none :: os, ρ, ρ', h => by
    have h : (if isFz ρ k = true then putO ps os ρ else none) = some ρ' := h
    by_cases hz : isFz ρ k = true
    · rw [if_pos hz] at h
      obtain ⟨a, b⟩ := putO_get (ps := ps) (os := os) h
      refine ⟨a, fun i s e => ?_⟩
      rcases b i s e with ⟨j, o, h1, h2, h3⟩ | ⟨h1, h2⟩
      · exact .inl ⟨j + 1, o, by simpa using h1, by simpa using h2, h3⟩
      · refine .inr ⟨h1, ?_⟩
        cases s with
        | fz d => exact .inl ⟨d, rfl⟩
        | own o =>
          refine .inr fun j => ?_
          rcases h2 with ⟨d, z⟩ | g
          · cases z
          · cases j with
            | zero =>
              intro z
              simp at z
              subst z
              unfold isFz at hz
              rw [h1] at hz
              cases hz
            | succ j => simpa using g j
    · rw [if_neg hz] at h
      cases h
  | [], _ :: _, ρ, ρ', h => by cases h
  | .v _ :: _, [], ρ, ρ', h => by cases h
  | .v _ :: _, some _ :: _, ρ, ρ', h => by cases h
  | .s _ :: _, [], ρ, ρ', h => by cases h
section
variable {K : PySem.W.Frag} {c : Cg} {B G H : Hp} {σ : L2.St} {ρ : Rho} {ps : List Pa} {sls : List Sl} {vs : List V}
theorem own_of (hs : slsOf ps ρ = some sls) {j : Nat} {o : OO} (e : sls[j]? = some (.own o)) : ∃ i, ps[j]? = some (.s i) ∧ ρ[i]? = some (some (.own o)) := by
  obtain ⟨a, b, c⟩ := slsOf_get hs
  have hj : j < ps.length := by rw [← a]; exact (List.getElem?_eq_some_iff.mp e).1
  cases q : ps[j] with
  | v d =>
    have z := c j d (by rw [List.getElem?_eq_getElem hj, q])
    rw [z] at e
    cases e
  | s i =>
    obtain ⟨s, h1, h2⟩ := b j i (by rw [List.getElem?_eq_getElem hj, q])
    rw [h1] at e
    cases e
    exact ⟨i, by rw [List.getElem?_eq_getElem hj, q], h2⟩
theorem Rl.args (r : Rl K c B G H σ ρ) (hp : PasRep K G σ ps vs) (hs : slsOf ps ρ = some sls) (hd : (slotsP ps).Nodup) : ArgRel K G H sls vs := by
  obtain ⟨a, b, c1⟩ := slsOf_get hs
  obtain ⟨a', b', c'⟩ := pas_get hp
  refine ⟨by rw [a, a'], r.sub, fun j s e => ?_, fun i j o o' v hij h1 h2 h3 h4 => ?_⟩
  · have hj : j < ps.length := by rw [← a]; exact (List.getElem?_eq_some_iff.mp e).1
    cases q : ps[j] with
    | v d =>
      have z := c1 j d (by rw [List.getElem?_eq_getElem hj, q])
      rw [z] at e
      cases e
      exact c' j d (by rw [List.getElem?_eq_getElem hj, q])
    | s i =>
      obtain ⟨s', h1, h2⟩ := b j i (by rw [List.getElem?_eq_getElem hj, q])
      rw [h1] at e
      cases e
      obtain ⟨v, h3, h4⟩ := b' j i (by rw [List.getElem?_eq_getElem hj, q])
      obtain ⟨v', h5, h6⟩ := r.slots i s h2
      rw [h4] at h5
      cases h5
      refine ⟨v, h3, ?_⟩
      cases s with
      | fz d => exact h6
      | own o =>
        obtain ⟨p, rfl, h7, h8, h9⟩ := h6
        exact ⟨p, rfl, h7, keep_own ⟨j, o, h1, h3⟩, h9⟩
  · obtain ⟨i1, p1, q1⟩ := own_of hs h1
    obtain ⟨i2, p2, q2⟩ := own_of hs h2
    have ne : i1 ≠ i2 := fun z => by
      subst z
      exact hij (slots_inj hd p1 p2)
    obtain ⟨v1, e1, e2⟩ := b' i i1 p1
    obtain ⟨v2, e3, e4⟩ := b' j i2 p2
    rw [h3] at e1
    rw [h4] at e3
    cases e1
    cases e3
    exact r.dist i1 i2 o o' v ne q1 q2 e2 e4
theorem Rl.back {os : List (Option OO)} {G' H' : Hp} {ρ' : Rho} (r : Rl K c B G H σ ρ) (hp : PasRep K G σ ps vs) (hs : slsOf ps ρ = some sls) (a : After K G H sls vs os G' H') (e : putO ps os ρ = some ρ') :
    Rl K c B G' H' σ ρ' ∧ ∀ p, G' p = none → Keep H sls vs p = none → (∀ (i : Nat) (o' : OO), os[i]? = some (some o') → vs[i]? ≠ some (.ref p)) → New B G' σ ρ' p := by
  obtain ⟨el, eg⟩ := putO_get e
  obtain ⟨a', b', c'⟩ := pas_get hp
  obtain ⟨al, bl, cl⟩ := slsOf_get hs
  -- an own argument's object
  have ownp : ∀ p, OwnAt sls vs p → B p = none ∧ G p = none ∧ ∃ (i : Nat) (o : OO), ρ[i]? = some (some (.own o)) ∧ σ[i]? = some (some (V.ref p)) := fun p ⟨j, o, h1, h2⟩ => by
    obtain ⟨i, p1, q1⟩ := own_of hs h1
    obtain ⟨v, h3, h4⟩ := b' j i p1
    rw [h2] at h3
    cases h3
    obtain ⟨v', h5, q, rfl, h6, h7, _⟩ := r.slots i _ q1
    rw [h4] at h5
    cases h5
    exact ⟨h7, h6, i, o, q1, h4⟩
  have kB : ∀ p, Keep H sls vs p = none → B p = none := fun p h => by
    by_cases z : OwnAt sls vs p
    · exact (ownp p z).1
    · rw [keep_not z] at h
      exact r.base.free h
  -- the own slots that are not given away
  have rest : ∀ (i : Nat) (o : OO) (p : Addr), ρ[i]? = some (some (.own o)) → (∀ (j : Nat), ps[j]? ≠ some (Pa.s i)) → σ[i]? = some (some (.ref p)) → ¬ OwnAt sls vs p := fun i o p h1 h2 h3 ⟨j, o2, h4, h5⟩ => by
    obtain ⟨i2, p2, q2⟩ := own_of hs h4
    obtain ⟨v2, e3, e4⟩ := b' j i2 p2
    rw [h5] at e3
    cases e3
    have ne : i ≠ i2 := fun z => by
      subst z
      exact h2 j p2
    exact r.dist i i2 o o2 _ ne h1 q2 h3 e4
  -- every own slot was one
  have was : ∀ (i : Nat) (o : OO), ρ'[i]? = some (some (.own o)) → ∃ o0, ρ[i]? = some (some (.own o0)) := fun i o h => by
    rcases eg i _ h with ⟨j, o1, h1, h2, h3⟩ | ⟨h1, h2⟩
    · obtain ⟨⟨o0, h4⟩, _⟩ := a.own j o1 h2
      obtain ⟨i2, p2, q2⟩ := own_of hs h4
      rw [h1] at p2
      cases p2
      exact ⟨o0, q2⟩
    · exact ⟨o, h1⟩
  have keepSlot : ∀ (i : Nat) (o : OO) (p : Addr), ρ[i]? = some (some (.own o)) → (∀ (j : Nat), ps[j]? ≠ some (Pa.s i)) → σ[i]? = some (some (.ref p)) → Keep H sls vs p = H p ∧ H p ≠ none := fun i o p h1 h2 h3 => by
    refine ⟨keep_not (rest i o p h1 h2 h3), fun z => ?_⟩
    obtain ⟨v', h5, q, rfl, h6, h7, h8⟩ := r.slots i _ h1
    rw [h3] at h5
    cases h5
    obtain ⟨u, hu⟩ := h8.some
    rw [z] at hu
    cases hu
  refine ⟨⟨a.sub, fun x o h => ?_, r.ext.trans a.gg, fun x h => ?_, el.trans r.len, fun i s h => ?_, fun i j o o' v hij h1 h2 h3 => ?_, r.pin⟩, fun p h1 h2 h3 => ⟨h1, kB p h2, fun i o h4 z => ?_⟩⟩
  · have nz : ¬ OwnAt sls vs x := fun z => by
      rw [(ownp x z).1] at h
      cases h
    exact a.keep x o (by rw [keep_not nz]; exact r.base x o h)
  · rcases a.fresh x h with h1 | h1
    · exact r.fresh x h1
    · exact .inr (kB x h1)
  · rcases eg i s h with ⟨j, o, h1, h2, rfl⟩ | ⟨h1, h2⟩
    · obtain ⟨⟨o0, h4⟩, p, h5, h6, h7⟩ := a.own j o h2
      obtain ⟨v, h8, h9⟩ := b' j i h1
      rw [h5] at h8
      cases h8
      exact ⟨_, h9, p, rfl, h6, (ownp p ⟨j, o0, h4, h5⟩).1, h7⟩
    · obtain ⟨v, h3, h4⟩ := r.slots i s h1
      refine ⟨v, h3, ?_⟩
      cases s with
      | fz d => exact Rep.mono a.gg h4
      | own o =>
        rcases h2 with ⟨d, z⟩ | h2
        · cases z
        · obtain ⟨p, rfl, h5, h6, h7⟩ := h4
          obtain ⟨k1, k2⟩ := keepSlot i o p h1 h2 h3
          refine ⟨p, rfl, ?_, h6, h7.mono a.gg ?_⟩
          · cases q : G' p with
            | none => rfl
            | some z =>
              rcases a.fresh p (by rw [q]; exact fun e => nomatch e) with h8 | h8
              · exact absurd h5 h8
              · rw [k1] at h8
                exact absurd h8 k2
          · cases q : H p with
            | none => exact absurd q k2
            | some u => exact a.keep p u (by rw [k1]; exact q)
  · obtain ⟨o1, q1⟩ := was i o h1
    obtain ⟨o2, q2⟩ := was j o' h2
    exact r.dist i j o1 o2 v hij q1 q2 h3
  · rcases eg i _ h4 with ⟨j, o1, g1, g2, _⟩ | ⟨g1, g2⟩
    · obtain ⟨v, g3, g4⟩ := b' j i g1
      rw [z] at g4
      cases g4
      exact h3 j o1 g2 g3
    · rcases g2 with ⟨d, y⟩ | g2
      · cases y
      · obtain ⟨k1, k2⟩ := keepSlot i o p g1 g2 z
        rw [k1] at h2
        exact k2 h2
end
section
variable {X : Cx} {c : Cg} {k : Nat} {x : Str} {den : Den} {p pos : Pos} {e : Expr} {es : List Expr} {ra : M (List Pa)}
theorem callR_read {α : Type} {B : Hp} {σ : L2.St} {G : Hp} {P : α → Rho → Hp → Hp → Prop} {f : Out → M α} {ps : List Pa} {ρ : Rho} {H : Hp} {vs : List V} {Q : VK} {K : PySem.W.Frag} {n : Nat} (r : Rl K c B G H σ ρ) (rp : PasRep K G σ ps vs) (hn : ∀ sls, den sls ≠ .no → sls.length = n)
    (h : XPost K c B σ G P (bind (callR den ps) f ρ)) (hrt : ∀ d ρ' G' H' v, Sub G G' → Rl K c B G' H' σ ρ' → Rep K G' d v → XPost K c B σ G' P (f (.rt d) ρ') → Q v H')
    (hrn : ∀ o ρ' G' H' p, Sub G G' → Rl K c B G' H' σ ρ' → New B G' σ ρ' p → ORep K G' H' p o → XPost K c B σ G' P (f (.rn o) ρ') → Q (.ref p) H') : spD K n den vs H Q (WE c.W σ) := by
  have h := h.bind
  unfold callR at h
  by_cases hd : (slotsP ps).Nodup
  · rw [if_pos hd] at h
    cases q : slsOf ps ρ with
    | none => rw [q] at h; exact h.elim
    | some sls =>
      rw [q] at h
      have h : XPost K c B σ G (fun a ρ' G' H' => XPost K c B σ G' P (f a ρ')) (match den sls with
        | .ok r os => (match putO ps os ρ with
          | some ρ' => .ok r ρ'
          | none => .no)
        | .err x os => (match putO ps os ρ with
          | some ρ' => .err x ρ'
          | none => .no)
        | .no => .no) := h
      refine ⟨?_, G, sls, r.args rp q hd, ?_⟩
      · rw [(r.args rp q hd).len]
        refine hn sls fun z => ?_
        rw [z] at h
        exact h
      cases qd : den sls with
      | no => rw [qd] at h; exact h.elim
      | ok o os =>
        rw [qd] at h
        have h : XPost K c B σ G (fun a ρ' G' H' => XPost K c B σ G' P (f a ρ')) (match putO ps os ρ with
          | some ρ' => .ok o ρ'
          | none => .no) := h
        cases qp : putO ps os ρ with
        | none => rw [qp] at h; exact h.elim
        | some ρ' =>
          rw [qp] at h
          cases o with
          | rt d =>
            intro G' H' v a rv
            obtain ⟨r1, _⟩ := r.back rp q a qp
            exact hrt d ρ' G' H' v a.gg r1 rv (h G' H' a.gg r1)
          | rn o =>
            intro G' H' p a n1 n2 n3 ro
            obtain ⟨r1, n⟩ := r.back rp q a qp
            exact hrn o ρ' G' H' p a.gg r1 (n p n1 n2 n3) ro (h G' H' a.gg r1)
      | err xx os =>
        rw [qd] at h
        have h : XPost K c B σ G (fun a ρ' G' H' => XPost K c B σ G' P (f a ρ')) (match putO ps os ρ with
          | some ρ' => .err xx ρ'
          | none => .no) := h
        cases qp : putO ps os ρ with
        | none => rw [qp] at h; exact h.elim
        | some ρ' =>
          rw [qp] at h
          intro G' H' dx a xr
          obtain ⟨r1, _⟩ := r.back rp q a qp
          exact h dx G' H' a.gg r1 xr
  · rw [if_neg hd] at h
    exact h.elim
theorem bind_assoc {α β γ : Type} (m : M α) (f : α → M β) (g : β → M γ) : bind (bind m f) g = bind m fun a => bind (f a) g := by
  funext ρ
  unfold bind
  cases m ρ <;> rfl
theorem callD_read {n : Nat} {σ : L2.St} {H : Hp} {Q : VK} (hn : ∀ sls, den sls ≠ .no → sls.length = n) (h : tD X.K c (callD den ra) σ H Q) : tCallS (spD X.K n den) (WE c.W) (tA X.K c ra) σ H Q := by
  obtain ⟨B, G, ρ, r, h⟩ := h
  unfold callD at h
  rw [bind_assoc] at h
  refine ⟨B, G, ρ, r, h.bind.imp fun qs ρ1 G1 H1 s1 r1 h1 vs rvs => callR_read r1 rvs hn h1 (fun d ρ' G' H' v s' r' rv h2 => ?_) fun o ρ' G' H' p s' r' n ro h2 => ?_⟩
  · obtain ⟨z, hz, k⟩ := h2.lift
    cases hz
    exact k G' H' (.refl G') r' v rv
  · obtain ⟨z, hz, k⟩ := h2.lift
    obtain ⟨G2, s2, r2, rp⟩ := r'.freeze n ro hz
    exact k G2 H' s2 r2 _ rp
theorem callN_read {n : Nat} {σ : L2.St} {H : Hp} {Q : VK} (hn : ∀ sls, den sls ≠ .no → sls.length = n) (h : tN X.K c (callN den ra) σ H Q) : tCallS (spD X.K n den) (WE c.W) (tA X.K c ra) σ H Q := by
  obtain ⟨B, G, ρ, r, h⟩ := h
  unfold callN at h
  rw [bind_assoc] at h
  refine ⟨B, G, ρ, r, h.bind.imp fun qs ρ1 G1 H1 s1 r1 h1 vs rvs => callR_read r1 rvs hn h1 (fun d ρ' G' H' v s' r' rv h2 => ?_) fun o ρ' G' H' p s' r' n ro h2 => ?_⟩
  · obtain ⟨z, hz, k⟩ := h2.lift
    cases hz
  · obtain ⟨z, hz, k⟩ := h2.lift
    cases hz
    exact k G' H' (.refl G') r' p n ro
theorem pd_call (F : Cd X.prog X.w X.K X.mg X.base k x den) (hr : Room k X.A) (tk : Takes X c.W) (hg : Gl X x) (ha : PA X (e :: es) (tA X.K c ra))
    (hdb : (x == ("__debug__" : Str)) = false := by decide) (he : starEach (e :: es) X.env = (false, eval e X.env) :: starEach es X.env := by rfl) (hpl : (backTo pos (starEach es X.env)).any (·.1) = false := by rfl) :
    PE X (.Call (.Name x p) (e :: es) [] pos) (tD X.K c (callD den ra)) := by
  obtain ⟨f, fd, ps, F, hm, kp, b, hn⟩ := F.ex
  exact PE_imp (pe_callS F hr hg hm kp b (fun σ => passAt tk σ) ha hdb he hpl) fun σ H Q h => callD_read hn h
theorem pdn_call (F : Cd X.prog X.w X.K X.mg X.base k x den) (hr : Room k X.A) (tk : Takes X c.W) (hg : Gl X x) (ha : PA X (e :: es) (tA X.K c ra))
    (hdb : (x == ("__debug__" : Str)) = false := by decide) (he : starEach (e :: es) X.env = (false, eval e X.env) :: starEach es X.env := by rfl) (hpl : (backTo pos (starEach es X.env)).any (·.1) = false := by rfl) :
    PE X (.Call (.Name x p) (e :: es) [] pos) (tN X.K c (callN den ra)) := by
  obtain ⟨f, fd, ps, F, hm, kp, b, hn⟩ := F.ex
  exact PE_imp (pe_callS F hr hg hm kp b (fun σ => passAt tk σ) ha hdb he hpl) fun σ H Q h => callN_read hn h
end
end Dn

set_option Elab.async false
set_option linter.all false
set_option maxRecDepth 100000
set_option maxHeartbeats 4000000
/-! Dn10: stores, parallel assignments, stars, defs as the head tells them. -/
namespace Dn
open PySem PySem.Spec PyProof.Rows L2

/-- an own object changes -/
theorem Rl.wr {K : PySem.W.Frag} {c : Cg} {B G H : Hp} {σ : L2.St} {ρ : Rho} {k : Nat} {o o' : OO} {p : Addr} {u : HO} (r : Rl K c B G H σ ρ) (hk : ρ[k]? = some (some (.own o))) (hp : σ[k]? = some (some (.ref p))) (ho : ORep K G (upd H p u) p o') :
    Rl K c B G (upd H p u) σ (ρ.set k (some (.own o'))) := by
  obtain ⟨v, hv, q, rfl, h1, h2, h3⟩ := r.slots k _ hk
  rw [hp] at hv
  cases hv
  have hl : k < ρ.length := (List.getElem?_eq_some_iff.mp hk).1
  have was : ∀ (i : Nat) (o2 : OO), (ρ.set k (some (.own o')))[i]? = some (some (.own o2)) → ∃ o3, ρ[i]? = some (some (.own o3)) := fun i o2 e => by
    by_cases hi : k = i
    · subst hi
      exact ⟨o, hk⟩
    · rw [List.getElem?_set_ne hi] at e
      exact ⟨o2, e⟩
  refine ⟨r.sub.mut h1, r.base.mut h2, r.ext, r.fresh, by rw [List.length_set]; exact r.len, fun i s e => ?_, fun i j o2 o3 w hij e1 e2 => ?_, r.pin⟩
  · by_cases hi : k = i
    · subst hi
      rw [List.getElem?_set_self hl] at e
      cases e
      exact ⟨_, hp, p, rfl, h1, h2, ho⟩
    · rw [List.getElem?_set_ne hi] at e
      obtain ⟨w, f1, f2⟩ := r.slots i s e
      refine ⟨w, f1, ?_⟩
      cases s with
      | fz d => exact f2
      | own o2 =>
        obtain ⟨q, rfl, g1, g2, g3⟩ := f2
        have ne : q ≠ p := fun z => r.dist k i o o2 _ hi hk e hp (by rw [f1, z])
        exact ⟨q, rfl, g1, g2, g3.mono (.refl G) (upd_ne ne)⟩
  · obtain ⟨o4, q1⟩ := was i o2 e1
    obtain ⟨o5, q2⟩ := was j o3 e2
    exact r.dist i j o4 o5 w hij q1 q2
section
variable {X : Cx} {c : Cg} {B : Hp} {a b e i0 : Expr} {es : List Expr} {ma mb me mi : M D} {mn : M OO} {ra : M (List Pa)} {pos p p2 cpos apos : Pos}
/-- x[i] = e, x an own list -/
def ownLst (ρ : Rho) (k : Nat) : Option (List D) := match ρ[k]? with
  | some (some (.own (.lst ds))) => some ds
  | _ => none
theorem ownLst_at {ρ : Rho} {k : Nat} {ds : List D} (h : ownLst ρ k = some ds) : ρ[k]? = some (some (.own (.lst ds))) := by
  unfold ownLst at h
  split at h
  · rename_i q
    rw [q]
    cases h
    rfl
  · cases h
def putL (k : Nat) (ds : List D) (d : D) (y : D) : M Fl := fun ρ => match y with
  | .int j => (match ixN ds.length j with
    | some n => .ok .nx (ρ.set k (some (.own (.lst (ds.set n d)))))
    | none => .no)
  | _ => .no
def stM (k : Nat) (me mi : M D) : M Fl := bind me fun d => bind (fun ρ => lift (ownLst ρ k) ρ) fun _ => bind mi fun y => bind (fun ρ => lift (ownLst ρ k) ρ) fun ds => putL k ds d y
theorem Rl.wrL {K : PySem.W.Frag} {G H : Hp} {σ : L2.St} {ρ : Rho} {k : Nat} {ds ds' : List D} {vs' : List V} {p : Addr} (r : Rl K c B G H σ ρ) (hk : ρ[k]? = some (some (.own (.lst ds)))) (hp : σ[k]? = some (some (.ref p))) (rs : Reps K G ds' vs') :
    Rl K c B G (upd H p (.lst vs')) σ (ρ.set k (some (.own (.lst ds')))) := r.wr hk hp ⟨vs', upd_same, rs⟩
theorem pds_store (k : Nat) {x : Str} (he : PE X e (tD X.K c me)) (hi : PE X i0 (tD X.K c mi)) (hN : X.N[k]? = some x := by rfl) (hv : Vis X.env.scope x := by first | exact Or.inl rfl | exact Or.inr (Or.inl rfl) | exact Or.inr (Or.inr rfl)) (hd : (x == ("__debug__" : Str)) = false := by decide)
    (hcd : (x == ("__classdict__" : Str)) = false := by decide)
    (ha : ∀ v, assign (.Subscript (.Name x p) i0 p2) X.env v = (do
      let ov ← holding [v] (eval (.Name x p) X.env)
      let iv ← holding [v, ov] (eval i0 X.env)
      standAt p2
      holding [v, ov, iv] (setItem ov iv v)
      release [v, ov, iv] []) := by intro _; rfl)
    (hs : swapsWithSole [.Subscript (.Name x p) i0 p2] e pos.line X.env = pure false := by rfl) (hw : swappedStores [.Subscript (.Name x p) i0 p2] e X.env = pure none := by rfl)
    (h1 : (assignEach [.Subscript (.Name x p) i0 p2] X.env).map (·.2) = [assign (.Subscript (.Name x p) i0 p2) X.env] := by rfl) : PS X (.Assign [.Subscript (.Name x p) i0 p2] e pos) (tS X.K c (stM k me mi)) :=
  PS_imp (ps_asg he (pg_sub (pe_var (i := k) hN hv hd hcd) hi set_list ha) hs hw h1) fun De σ H h => by
    obtain ⟨B, G, ρ, r, h⟩ := h
    refine ⟨B, G, ρ, r, (SPost.bind (σ := σ) h).imp fun d ρ1 G1 H1 s1 r1 h1 v rv => ?_⟩
    have h1 := SPost.bind (σ := σ) h1
    obtain ⟨ds0, e0, h1⟩ := h1.lift
    have h1 := h1 G1 H1 (.refl G1) r1
    obtain ⟨u, hu, _⟩ := r1.slots k _ (ownLst_at e0)
    refine ⟨u, hu, B, G1, ρ1, r1, (SPost.bind (σ := σ) h1).imp fun y ρ2 G2 H2 s2 r2 h2 w rw' => ?_⟩
    have h2 := SPost.bind (σ := σ) h2
    obtain ⟨ds, e2, h2⟩ := h2.lift
    have h2 := h2 G2 H2 (.refl G2) r2
    have q := ownLst_at e2
    obtain ⟨v2, e3, p0, rfl, g1, g2, vs, g3, g4⟩ := r2.slots k _ q
    rw [hu] at e3
    cases e3
    unfold putL at h2
    cases y with
    | int j =>
      have h2 : SPost X.K c B G2 De (match ixN ds.length j with
        | some n => .ok .nx (ρ2.set k (some (.own (.lst (ds.set n d)))))
        | none => .no) := h2
      cases qj : ixN ds.length j with
      | none => rw [qj] at h2; exact h2.elim
      | some n =>
        rw [qj] at h2
        exact ⟨p0, vs, j, n, rfl, repInt rw', g3, by rw [g4.length]; exact qj, h2 σ G2 _ (.refl G2) (r2.wrL q hu (g4.set n (rv.mono s2)))⟩
    | _ => exact h2.elim
/-- x.append(e), x an own list -/
def addL (k : Nat) (ds : List D) (d : D) : M D := fun ρ => if ds.length < 16777216 then .ok .non (ρ.set k (some (.own (.lst (ds ++ [d]))))) else .no
def apM (k : Nat) (me : M D) : M D := bind (fun ρ => lift (ownLst ρ k) ρ) fun _ => bind me fun d => bind (fun ρ => lift (ownLst ρ k) ρ) fun ds => addL k ds d
theorem pd_append (k : Nat) {x : Str} (he : PE X e (tD X.K c me)) (hN : X.N[k]? = some x := by rfl) (hv : Vis X.env.scope x := by first | exact Or.inl rfl | exact Or.inr (Or.inl rfl) | exact Or.inr (Or.inr rfl)) (hd : (x == ("__debug__" : Str)) = false := by decide)
    (hcd : (x == ("__classdict__" : Str)) = false := by decide) (hbase : attributeBase (.Name x p) "append" X.env (eval (.Name x p) X.env) = eval (.Name x p) X.env := by rfl)
    (hs : starEach [e] X.env = (false, eval e X.env) :: starEach [] X.env := by rfl)
    (hfew : ((backTo cpos (starEach [e] X.env)).all (fun x => !x.1) && (backToKw cpos (keywordEach [] X.env)).all (fun x => x.1.isSome) && decide ([e].length + ([] : List Keyword).length + (if ([] : List Keyword).isEmpty then 0 else 1) < 30)) = true := by rfl)
    (hline : (apos.endLine == cpos.line) = true := by rfl) (hplain : (backTo cpos (starEach [] X.env)).any (·.1) = false := by rfl) :
    PE X (.Call (.Attribute (.Name x p) "append" apos) [e] [] cpos) (tD X.K c (apM k me)) :=
  PE_imp (pe_bm PySem.F.plainAttrs_list PySem.F.slot_list_append PySem.F.type_list_append mt_append (pe_var (i := k) hN hv hd hcd) (pa_cons he pa_nil hs) hbase hfew hline hs hplain) fun σ H Q h => by
    obtain ⟨B, G, ρ, r, h⟩ := h
    unfold apM at h
    obtain ⟨ds0, e0, h1⟩ := h.bind.lift
    have h1 := h1 G H (.refl G) r
    obtain ⟨u, hu, p0, rfl, g1, g2, vs, g3, g4⟩ := r.slots k _ (ownLst_at e0)
    refine ⟨_, hu, .inl ⟨rfl, _, SqL.of g3⟩, B, G, ρ, r, h1.bind.imp fun d ρ1 G1 H1 s1 r1 h2 v rv => ?_⟩
    obtain ⟨ds, e2, h3⟩ := h2.bind.lift
    have h3 := h3 G1 H1 (.refl G1) r1
    have q := ownLst_at e2
    obtain ⟨v2, e3, p1, rfl, f1, f2, ws, f3, f4⟩ := r1.slots k _ q
    rw [hu] at e3
    cases e3
    unfold addL at h3
    by_cases hz : ds.length < 16777216
    · rw [if_pos hz] at h3
      exact ⟨p0, ws, v, rfl, rfl, f3, by rw [f4.length, sizeLine_eq]; exact hz, h3 G1 _ (.refl G1) (r1.wrL q hu (f4.append (.one rv))) _ rep_non⟩
    · rw [if_neg hz] at h3
      exact h3.elim
/-- a, b = e1, e2 -/
def parM (i j : Nat) (ra : M (List Pa)) : M Fl := bind (mAs ra) fun ds ρ => match ds with
  | [d, e] => .ok .nx ((ρ.set i (some (.fz d))).set j (some (.fz e)))
  | _ => .no
def par3M (i j l : Nat) (ra : M (List Pa)) : M Fl := bind (mAs ra) fun ds ρ => match ds with
  | [d, e, f] => .ok .nx (((ρ.set i (some (.fz d))).set j (some (.fz e))).set l (some (.fz f)))
  | _ => .no
theorem mAs_stmt {f : List D → M Fl} {De : Ends} {σ : L2.St} {G : Hp} {ρ : Rho} {K : PySem.W.Frag} (h : SPost K c B G De (bind (mAs ra) f ρ)) :
    XPost K c B σ G (fun ps ρ' G' H' => ∃ ds, datas ps = some ds ∧ SPost K c B G' De (f ds ρ')) (ra ρ) := by
  have h1 := SPost.bind (σ := σ) h
  unfold mAs at h1
  refine h1.bind.imp fun ps ρ1 G1 H1 s1 r1 h2 => ?_
  obtain ⟨z, hz, k⟩ := h2.lift
  exact ⟨z, hz, k G1 H1 (.refl G1) r1⟩
theorem pds_par {i j : Nat} {x y : Str} {px py pt : Pos} {kt k2 pt2} (hc : X.calm = true) (hN : X.N.Nodup) (ha : PA X [a, b] (tA X.K c ra)) (hi : X.N[i]? = some x := by rfl) (hj : X.N[j]? = some y := by rfl) (hij : i ≠ j := by decide)
    (hx : X.env.scope.names.lookup x = some .local := by rfl) (hy : X.env.scope.names.lookup y = some .local := by rfl) (hpi : npin c i = true := by rfl) (hpj : npin c j = true := by rfl)
    (hw : swappedStores [.Tuple [.Name x px, .Name y py] kt pt] (.Tuple [a, b] k2 pt2) X.env = pure (some [x, y]) := by rfl)
    (hs : swapsWithSole [.Tuple [.Name x px, .Name y py] kt pt] (.Tuple [a, b] k2 pt2) pos.line X.env = pure false := by rfl) :
    PS X (.Assign [.Tuple [.Name x px, .Name y py] kt pt] (.Tuple [a, b] k2 pt2) pos) (tS X.K c (parM i j ra)) :=
  PS_imp (ps_par hc hN hi hj hij hx hy ha hw hs) fun De σ H h => by
    obtain ⟨B, G, ρ, r, h⟩ := h
    refine ⟨B, G, ρ, r, (mAs_stmt (σ := σ) h).imp fun ps ρ1 G1 H1 s1 r1 ⟨ds, e, h1⟩ vs rvs => ?_⟩
    have rs := datas_reps e rvs
    match ds, rs, h1 with
    | [d1, d2], rs, h1 =>
      obtain ⟨v, w, rfl, rv, rw'⟩ := reps2 rs
      exact ⟨v, w, rfl, h1 _ G1 H1 (.refl G1) ((r1.put (npin_ok hpi) rv).put (npin_ok hpj) rw')⟩
    | [], rs, h1 => exact h1.elim
    | [_], rs, h1 => exact h1.elim
    | _ :: _ :: _ :: _, rs, h1 => exact h1.elim
theorem pds_par3 {i j l : Nat} {x y z : Str} {e3 : Expr} {px py pz pt : Pos} {kt k2 pt2} (hc : X.calm = true) (hN : X.N.Nodup) (ha : PA X [a, b, e3] (tA X.K c ra)) (hi : X.N[i]? = some x := by rfl) (hj : X.N[j]? = some y := by rfl) (hl : X.N[l]? = some z := by rfl)
    (hij : i ≠ j := by decide) (hil : i ≠ l := by decide) (hjl : j ≠ l := by decide)
    (hx : X.env.scope.names.lookup x = some .local := by rfl) (hy : X.env.scope.names.lookup y = some .local := by rfl) (hz : X.env.scope.names.lookup z = some .local := by rfl) (hpi : npin c i = true := by rfl) (hpj : npin c j = true := by rfl) (hpl : npin c l = true := by rfl)
    (hw : swappedStores [.Tuple [.Name x px, .Name y py, .Name z pz] kt pt] (.Tuple [a, b, e3] k2 pt2) X.env = pure (some [x, y, z]) := by rfl)
    (hs : swapsWithSole [.Tuple [.Name x px, .Name y py, .Name z pz] kt pt] (.Tuple [a, b, e3] k2 pt2) pos.line X.env = pure false := by rfl) :
    PS X (.Assign [.Tuple [.Name x px, .Name y py, .Name z pz] kt pt] (.Tuple [a, b, e3] k2 pt2) pos) (tS X.K c (par3M i j l ra)) :=
  PS_imp (ps_par3 hc hN hi hj hl hij hil hjl hx hy hz ha hw hs) fun De σ H h => by
    obtain ⟨B, G, ρ, r, h⟩ := h
    refine ⟨B, G, ρ, r, (mAs_stmt (σ := σ) h).imp fun ps ρ1 G1 H1 s1 r1 ⟨ds, e, h1⟩ vs rvs => ?_⟩
    have rs := datas_reps e rvs
    match ds, rs, h1 with
    | [d1, d2, d3], rs, h1 =>
      obtain ⟨v, r0, rfl, rv, rs⟩ := rs.cons_inv
      obtain ⟨w, u, rfl, rw', ru⟩ := reps2 rs
      exact ⟨v, w, u, rfl, h1 _ G1 H1 (.refl G1) (((r1.put (npin_ok hpi) rv).put (npin_ok hpj) rw').put (npin_ok hpl) ru)⟩
    | [], rs, h1 => exact h1.elim
    | [_], rs, h1 => exact h1.elim
    | [_, _], rs, h1 => exact h1.elim
    | _ :: _ :: _ :: _ :: _, rs, h1 => exact h1.elim
/-- *e in a display -/
def aStar (ma : M D) (ra : M (List Pa)) : M (List Pa) := bind ma fun d => bind (lift (items d)) fun ds => bind ra fun ps => ret (ds.map Pa.v ++ ps)
theorem pas_vs {K : PySem.W.Frag} {G : Hp} {σ : L2.St} {ps : List Pa} {ys : List V} (h : PasRep K G σ ps ys) : ∀ {ds : List D} {vs : List V}, Reps K G ds vs → PasRep K G σ (ds.map Pa.v ++ ps) (vs ++ ys)
  | [], vs, r => by
    rw [r.nil_inv]
    exact h
  | d :: ds, vs, r => by
    obtain ⟨v, w, rfl, r1, r2⟩ := r.cons_inv
    exact ⟨v, w ++ ys, rfl, r1, pas_vs h r2⟩
theorem pda_star (he : PE X e (tD X.K c me)) (hr : PA X es (tA X.K c ra)) (hs : starEach (.Starred e p :: es) X.env = (true, eval e X.env) :: starEach es X.env := by rfl) : PA X (.Starred e p :: es) (tA X.K c (aStar me ra)) :=
  PA_imp (StX.pa_star he hr hs) fun σ H Q h => by
    obtain ⟨B, G, ρ, r, h⟩ := h
    refine ⟨B, G, ρ, r, h.bind.imp fun d ρ1 G1 H1 s1 r1 h1 v rv => ?_⟩
    obtain ⟨ds, qi, h2⟩ := h1.bind.lift
    have h2 := h2 G1 H1 (.refl G1) r1
    obtain ⟨k1, a1, vs1, rfl, g1, g2⟩ := items_sq qi rv
    refine ⟨a1, vs1, rfl, ?_, B, G1, ρ1, r1, h2.bind.imp fun ps ρ2 G2 H2 s2 r2 h3 ys rys => h3 G2 H2 (.refl G2) r2 _ (pas_vs rys (g2.mono s2))⟩
    cases k1 with
    | true => exact .inr (r1.sub.sq g1)
    | false => exact .inl (r1.sub.sq g1)
end
section
variable {P : Program} {w : World} {K : PySem.W.Frag} {mg : Str → Option Value} {base : Heap}
/-- as cd_mk, for a def as the head tells it -/
theorem cd_of {x : Str} {st : Stmt} {f : Addr} {fd : FuncData} {N ps : List Str} {k : Nat} {msk : List Bool} {mb : M Fl} (F : FunD K x x (defArgs st) (defBody st) (defScope st) [] [] f fd) (hmg : mg x = some (.ref f)) (S : FnScope N ps (defScope st)) (hm : ps.length = msk.length)
    (hbd : ∀ (kV doc pm : Value) (an : Option Addr) (cdv ct : Value) (us : List Value), us.length = ps.length → bindArgs (PySem.W.fnOf x x (defArgs st) (defBody st) (defScope st) .none kV doc pm an cdv ct) ⟨us, []⟩ = pure (ps.zip us))
    (hb : ∀ (cdv : Value) (A : Around) (outer : List Env) (s : Shared) (H : Hp) (vs : List V) (E : XK) (G : Hp), Room k (A.deeper (envOfC x (defScope st) s.heap.objs.size f cdv)) →
      Takes (cxOf (L2.CX P w) P w K mg base N x (defScope st) f cdv A outer s H E) (fun cls d _ H => E cls d H) →
      (let X := cxOf (L2.CX P w) P w K mg base N x (defScope st) f cdv A outer s H E; PassesOwn (model X.prog X.w) X.A X.env X.xe) →
      PSs (cxOf (L2.CX P w) P w K mg base N x (defScope st) f cdv A outer s H E) (defBody st) (tS K ⟨G, pinAt msk vs, fun cls d _ H => E cls d H⟩ mb)) :
    Cd P w K mg base (k + 1) x (fnDen msk N.length mb) := by
  have b := F.bindsN hbd
  obtain ⟨oc, od, dV, kV, doc, pm, an, cdv, ct, osl, rfl, lk, hcd, hD, hK⟩ := F.ex
  have e : dV = .none := by
    rcases hD with ⟨_, e⟩ | ⟨e, _⟩
    · exact e
    · exact absurd rfl e
  subst e
  exact cd_mk (f := f) ⟨⟨oc, od, kV, doc, pm, an, cdv, ct, osl, rfl, lk, hcd⟩, F.kp⟩ hmg S hm b fun cdv A outer s H vs E G hr tk => hb cdv A outer s H vs E G hr tk (passes_of (E₁ := fun e' s'' => L2.CX P w outer H s E e' s'') (K := fun e' s'' => L2.CX P w outer H s E e' s'') rfl)
theorem cd_zero {x : Str} {st : Stmt} {f : Addr} {fd : FuncData} {ps : List Str} {k : Nat} (F : FunD K x x (defArgs st) (defBody st) (defScope st) [] [] f fd) (hmg : mg x = some (.ref f))
    (hbd : ∀ (kV doc pm : Value) (an : Option Addr) (cdv ct : Value) (us : List Value), us.length = ps.length → bindArgs (PySem.W.fnOf x x (defArgs st) (defBody st) (defScope st) .none kV doc pm an cdv ct) ⟨us, []⟩ = pure (ps.zip us)) :
    Cd P w K mg base k x (fun _ => .no) :=
  ⟨f, fd, ps, ⟨fun vs H Q E h => h.1, fun A outer s H args us vs Q E hr he hb hv hs => by
    obtain ⟨_, G, sls, _, z⟩ := hs
    exact z.elim⟩, hmg, F.kp, F.bindsN hbd, fun sls h => absurd rfl h⟩
end
end Dn

set_option Elab.async false
set_option linter.all false
set_option maxRecDepth 100000
set_option maxHeartbeats 4000000
/-! Dn11: what the head must tell beside defs: constants of the module, functions that it imports. -/
namespace Dn
open PySem PySem.Spec PyProof.Rows L2
mutual
def kRep (K : PySem.W.Frag) : D → Value → Bool
  | .non, .none => true
  | .int i, .int j _ => decide (i = j)
  | .bl b, .bool k => decide (b = k)
  | .str x, .str y _ => decide (x = y)
  | .kt ds, .ref a => (match K.lookup a with
    | some ⟨.type c, _, .seq its _, _⟩ => decide (c = "tuple") && (decide (its.size ≤ sizeLine) && kReps K ds its.toList)
    | _ => false)
  | _, _ => false
def kReps (K : PySem.W.Frag) : List D → List Value → Bool
  | [], [] => true
  | d :: ds, v :: vs => kRep K d v && kReps K ds vs
  | _, _ => false
end
mutual
theorem kRep_ok {K : PySem.W.Frag} : ∀ {d : D} {u : Value}, kRep K d u = true → ∃ v, RelV v u ∧ ∀ G, Rep K G d v
  | .non, u, h => by
    unfold kRep at h
    cases u <;> first | exact ⟨.non, rfl, fun G => rep_non⟩ | cases h
  | .int i, u, h => by
    unfold kRep at h
    cases u with
    | int j t => exact ⟨.int i, ⟨t, by rw [of_decide_eq_true h]⟩, fun G => rep_int⟩
    | _ => cases h
  | .bl b, u, h => by
    unfold kRep at h
    cases u with
    | bool k => exact ⟨.bl b, (by rw [of_decide_eq_true h]; rfl), fun G => rep_bl⟩
    | _ => cases h
  | .str x, u, h => by
    unfold kRep at h
    cases u with
    | str y t => exact ⟨.str x, ⟨t, by rw [of_decide_eq_true h]⟩, fun G => rep_str⟩
    | _ => cases h
  | .kt ds, u, h => by
    unfold kRep at h
    cases u with
    | ref a =>
      have h : (match K.lookup a with
        | some ⟨.type c, _, .seq its _, _⟩ => decide (c = "tuple") && (decide (its.size ≤ sizeLine) && kReps K ds its.toList)
        | _ => false) = true := h
      cases q : K.lookup a with
      | none => rw [q] at h; cases h
      | some o =>
        obtain ⟨oc, od, dt, osl⟩ := o
        rw [q] at h
        cases oc with
        | type c =>
          cases dt with
          | seq its n =>
            have h : (decide (c = "tuple") && (decide (its.size ≤ sizeLine) && kReps K ds its.toList)) = true := h
            obtain ⟨h1, h2⟩ := Bool.and_eq_true_iff.mp h
            obtain ⟨h3, h4⟩ := Bool.and_eq_true_iff.mp h2
            obtain ⟨vs, rv, rd⟩ := kReps_ok h4
            refine ⟨.ref a, rfl, fun G => rep_kt (vs := vs) (.inr ⟨_, its, n, q, congrArg Value.type (of_decide_eq_true h1), rfl, of_decide_eq_true h3, rv⟩) (rd G)⟩
          | _ => cases h
        | _ => cases dt <;> cases h
    | _ => cases h
  | .ty _, u, h => by unfold kRep at h; cases h
  | .adr _, u, h => by unfold kRep at h; cases h
  | .lst _, u, h => by unfold kRep at h; cases h
  | .tup _, u, h => by unfold kRep at h; cases h
  | .fl _, u, h => by unfold kRep at h; cases h
  | .ins _ _ _, u, h => by unfold kRep at h; cases h
theorem kReps_ok {K : PySem.W.Frag} : ∀ {ds : List D} {us : List Value}, kReps K ds us = true → ∃ vs, Vals vs us ∧ ∀ G, Reps K G ds vs
  | [], us, h => by
    cases us with
    | nil => exact ⟨[], .nil, fun G => .nil⟩
    | cons _ _ => unfold kReps at h; cases h
  | d :: ds, us, h => by
    cases us with
    | nil => unfold kReps at h; cases h
    | cons u us =>
      unfold kReps at h
      obtain ⟨h1, h2⟩ := Bool.and_eq_true_iff.mp h
      obtain ⟨v, r, k⟩ := kRep_ok h1
      obtain ⟨vs, rs, ks⟩ := kReps_ok h2
      exact ⟨v :: vs, .cons r rs, fun G => .cons (k G) (ks G)⟩
end
/-- a fact that the head tells beside He's: a name of the module holds this value | a constant -/
inductive Fx where
  | val (x : Str) (v : Value)
  | con (x : Str) (d : D)
def Fx.ok (K : PySem.W.Frag) : Fx → Bool
  | .val x v => He.eqO (PySem.W.nsIn K mainGlobals x) (some (some v))
  | .con x d => (match PySem.W.nsIn K mainGlobals x with
    | some (some v) => kRep K d v
    | _ => false)
theorem val_ok {K : PySem.W.Frag} {h : Heap} {mg : Str → Option Value} (X : K.In h) (G : h.Ns mainGlobals mg) {x : Str} {v : Value} (c : (Fx.val x v).ok K = true) : mg x = some v := PySem.W.mg_of X G (He.eqO_ok c)
theorem con_ok {K : PySem.W.Frag} {h : Heap} {mg : Str → Option Value} (X : K.In h) (G : h.Ns mainGlobals mg) {x : Str} {d : D} (c : (Fx.con x d).ok K = true) : ∃ u v, mg x = some u ∧ RelV v u ∧ ∀ G, Rep K G d v := by
  have c : (match PySem.W.nsIn K mainGlobals x with
    | some (some v) => kRep K d v
    | _ => false) = true := c
  cases q : PySem.W.nsIn K mainGlobals x with
  | none => rw [q] at c; cases c
  | some o =>
    cases o with
    | none => rw [q] at c; cases c
    | some u =>
      rw [q] at c
      obtain ⟨v, r, k⟩ := kRep_ok (show kRep K d u = true from c)
      exact ⟨u, v, PySem.W.mg_of X G q, r, k⟩
theorem pd_con {X : Cx} {c : Cg} {x : Str} {pos : Pos} {d : D} (h : ∃ u v, X.mg x = some u ∧ RelV v u ∧ ∀ G, Rep X.K G d v) (hg : Gl X x := by rfl) (hd : (x == ("__debug__" : Str)) = false := by decide) : PE X (.Name x pos) (tD X.K c (ret d)) := by
  obtain ⟨u, v, hm, r, k⟩ := h
  exact pd_glob hg hm r k hd
/-! ### the Hook -/
def obsE (fx : List Fx) (fa : List He.Fa) (fn : List He.DefD) (K : PySem.W.Frag) : He.AlD := ((He.obsD fa fn K).1 && fx.all fun f => f.ok K, (He.obsD fa fn K).2)
def SaysE (fx : List Fx) (fa : List He.Fa) (fn : List He.DefD) (K : PySem.W.Frag) : Prop := obsE fx fa fn K = He.valD fn
def obsEG (n : Nat) (fx : List Fx) (fa : List He.Fa) (fn : List He.DefD) (g : Addr → Option Obj) : He.AlD := obsE fx fa fn (He.frG g (He.asD g n))
def hookE (n : Nat) (fx : List Fx) (fa : List He.Fa) (fn : List He.DefD) : PySem.W.Hook where
  α := He.AlD
  obs := fun s => obsEG n fx fa fn s.heap.get?
  val := fun _ => He.valD fn
  says := fun _ h => ∃ K : PySem.W.Frag, K.In h ∧ SaysE fx fa fn K
  of := fun _ _ e => ⟨_, He.frG_in, e⟩
  keeps := fun _ _ _ ⟨K, hK, c⟩ k => ⟨K, PySem.W.Frag.In.keeps hK k, c⟩
theorem obsEG_eq {n : Nat} {fx : List Fx} {fa : List He.Fa} {fn : List He.DefD} {g : Addr → Option Obj} {s : Shared} (h : ∀ a, g a = s.heap.get? a) : obsEG n fx fa fn g = (hookE n fx fa fn).obs s := by
  have e : g = s.heap.get? := funext h
  rw [e]
  rfl
theorem SaysE.says {fx : List Fx} {fa : List He.Fa} {fn : List He.DefD} {K : PySem.W.Frag} (c : SaysE fx fa fn K) : He.SaysD fa fn K := by
  have h1 : ((He.obsD fa fn K).1 && fx.all fun f => f.ok K) = true := congrArg (fun z : He.AlD => z.1) c
  have h2 : (He.obsD fa fn K).2 = fn.map He.DefD.val := congrArg (fun z : He.AlD => z.2) c
  exact Prod.ext (Bool.and_eq_true_iff.mp h1).1 h2
theorem SaysE.fx {fx : List Fx} {fa : List He.Fa} {fn : List He.DefD} {K : PySem.W.Frag} (c : SaysE fx fa fn K) (i : Nat) {f : Fx} (h : fx[i]? = some f := by rfl) : f.ok K = true := by
  have h1 : ((He.obsD fa fn K).1 && fx.all fun f => f.ok K) = true := congrArg (fun z : He.AlD => z.1) c
  exact List.all_eq_true.mp (Bool.and_eq_true_iff.mp h1).2 f (List.mem_of_getElem? h)
end Dn
namespace Dn
open PySem PySem.Spec PyProof.Rows L2
theorem hu64 {A : Around} {k : Nat} (hr : Room k A) : A.units + 64 < cLine := by
  have := hr.un
  omega
section
variable {X : Cx} {c : Cg} {a b e3 tg : Expr} {p pos : Pos} {ra : M (List Pa)}
theorem pd_type (T : String) {x : Str} (hg : Gl X x) (hm : X.mg x = none) (hv : bootBuiltins x = some (.type T)) (hn : x ≠ "__name__" := by decide) (hd : (x == ("__debug__" : Str)) = false := by decide) : PE X (.Name x pos) (tD X.K c (ret (.ty T))) := pd_bltn (v := .ty T) hg hm hv rfl (fun _ => rep_ty) hn hd
theorem pe_type (T : String) {x : Str} (hg : Gl X x) (hm : X.mg x = none) (hv : bootBuiltins x = some (.type T)) (hn : x ≠ "__name__" := by decide) (hd : (x == ("__debug__" : Str)) = false := by decide) : PE X (.Name x pos) (tC (.ty T)) := pe_bltn (v := .ty T) hg hm hv rfl hn hd
theorem pdi_rng1 (hg : Gl X "range") (hm : X.mg "range" = none) (ha : PA X [a] (tA X.K c ra)) (hs : starEach [a] X.env = [(false, eval a X.env)] := by rfl) : PI X tg (.Call (.Name "range" p) [a] [] pos) (tI X.K c (rngM1 ra)) := pdi_range1 hg hm ha hs
theorem pdi_rng2 (hg : Gl X "range") (hm : X.mg "range" = none) (ha : PA X [a, b] (tA X.K c ra)) (hs : starEach [a, b] X.env = [(false, eval a X.env), (false, eval b X.env)] := by rfl) (hs2 : starEach [b] X.env = [(false, eval b X.env)] := by rfl) :
    PI X tg (.Call (.Name "range" p) [a, b] [] pos) (tI X.K c (rngM2 ra)) := pdi_range2 hg hm ha hs hs2
theorem pdi_rng3 (hg : Gl X "range") (hm : X.mg "range" = none) (ha : PA X [a, b, e3] (tA X.K c ra)) (hs : starEach [a, b, e3] X.env = (false, eval a X.env) :: starEach [b, e3] X.env := by rfl) (hpl : (backTo pos (starEach [b, e3] X.env)).any (·.1) = false := by rfl) :
    PI X tg (.Call (.Name "range" p) [a, b, e3] [] pos) (tI X.K c (rngM3 ra)) := pdi_range3 hg hm ha hs hpl
end
end Dn

set_option Elab.async false
set_option linter.all false
set_option maxRecDepth 100000
set_option maxHeartbeats 4000000
/-! Dn12: a dict with tuples as keys: its comprehension, d[k] += v, its values. -/
namespace Dn
open PySem PySem.Spec PyProof.Rows L2

/-- what a store into the dict at d asks: the new object is of any kind -/
abbrev Tput := Addr → V → V → Hp → (Hp → Prop) → Prop
def PutOk (Y : Cx) (tp : Tput) : Prop := ∀ (pins : List (Addr × Obj)) (σ : L2.St) (H : Hp) (s : Shared) (d : Addr) (y v : V) (u r : Value) (Q : Hp → Prop), L2.Inv Y pins σ H s → L2.RelV y u → L2.RelV v r → tp d y v H Q →
  wpAny (model Y.prog Y.w) Y.A (dictSet d u r) (fun _ s' => ∃ H', L2.Inv Y pins σ H' s' ∧ Q H') (fun _ _ => False) s
def tpT : Tput := fun d y v H Q => ∃ (kvs : List (List Key × V)) (k : List Key) (b : Addr), y = .ref b ∧ H b = some (.tup (k.map kV)) ∧ H d = some (.dT kvs) ∧ kvs.length < sizeLine ∧ Q (upd H d (.dT (putK kvs k v)))
theorem putOk_T {Y : Cx} (hu : Y.A.units + 1 < cLine) : PutOk Y tpT := by
  intro pins σ H s d y v u r Q I ry rv h
  obtain ⟨kvs, k, b, rfl, eb, ed, hl, q⟩ := h
  obtain rfl : u = Value.ref b := ry
  obtain ⟨z, hd, xs, rel, dd⟩ := dt_of I.hok ed
  have h1 : xs.length ≤ sizeLine := by
    rw [← PySem.Paired.length rel]
    exact z
  have h2 : (putK kvs k v).length ≤ sizeLine := by
    have := length_putK kvs k v
    omega
  have room : (tupleKind (mixKind Y.prog Y.w)).room Y.A := show Y.A.units < cLine by omega
  refine wpAny_dictSet_heap (hsz := h1) room (key_of I.hok eb) dd fun h' dd' sb => ?_
  obtain ⟨o, es, ep, ho, g2, g3, g4, _, g5⟩ := dd'
  refine ⟨_, ?_, q⟩
  refine d_write I (by rw [ed]; exact True.intro) sb ⟨o, ho⟩ ⟨h2, hd, _, (rel.put k eb rv).keeps fun c ys ec => ?_, o, es, ep, ho, g2, g3, g4, g5⟩
  have ne : c ≠ d := ne_of ec ed (fun z => nomatch z)
  rw [upd_ne ne]
  exact ec
/-- a dict comprehension whose stores tp tells -/
def tDcG (o0 : HO) (tp : Tput) (wi : TI) (g : TG) (tt : TT) (tk tv : TE) (vs : List Nat) : TE := fun σ H Q => wi σ H fun J H1 => ∀ d, H1 d = none → ∃ W : Nat → Nat → Hp → Prop, (∃ m, W 0 m (upd H1 d o0)) ∧ ∀ i m H, W i m H →
  (J.stop i H ∧ Q (.ref d) H) ∨ (J.go i H ∧ ∃ Nx : Hp → Prop, (∀ H', Nx H' → ∃ m', m' < m ∧ W (i + 1) m' H') ∧ ∀ x H', J.yld i H x H' → g x (wipe σ vs) H' fun σ2 H2 => wipe σ2 vs = wipe σ vs ∧ tt σ2 H2 fun b H3 =>
    if b = true then tk σ2 H3 fun y H4 => tv σ2 H4 fun z H5 => tp d y z H5 Nx else Nx H3)
section
variable {X : Cx}
theorem dcg_core {o0 : HO} {tp : Tput} {pins : List (Addr × Obj)} {s : Shared} {σ : L2.St} {H : Hp} {Q : VK} {kx vx tg iter : Expr} {ifs : List Expr} {scope : Scope} {own : List (Str × Nat)} {pos pos' : Pos} {wi : TI} {g : TG} {tt : TT} {tk tv : TE} {use : Option (Value → Sem Unit)} {Qf : Value → Shared → Prop}
    (h0 : ∀ (H : Hp) (hp : Heap), sysModules < hp.objs.size → ObjOk X.prog X.w H (hp.push { cls := .type "dict", data := .dict #[] }) hp.objs.size o0) (hput : InBlk X scope fun Y => PutOk Y tp)
    (hc : X.calm = true) (hN : X.N.Nodup) (I : L2.Inv X pins σ H s) (hi : PI X tg iter wi) (ok : BlkOk X.N X.env.scope scope own)
    (hg : InBlk X scope fun Y => PG Y tg g) (ht : InBlk X scope fun Y => PTs Y ifs tt) (hk : InBlk X scope fun Y => PE Y kx tk) (he : InBlk X scope fun Y => PE Y vx tv) (hs : ∀ x, foldedSetIterable iter X.env x = pure x)
    (h : tDcG o0 tp wi g tt tk tv (own.map (·.2)) σ H Q)
    (fin : ∀ d C s' m H', L2.Inv X pins σ H' s' → Q (.ref d) H' → s'.heap.Ns C m → FpOk X pins H' C → compPost (model X.prog X.w) X.A X.xe use Qf (.ref d) C (.ok .next) s') :
    wpAny (model X.prog X.w) X.A (comprehension (.DictComp kx vx [⟨tg, iter, ifs, 0⟩] scope pos) scope X.env pos' newDict false (eval iter X.env) use) Qf X.xe s := by
  have captured : ∀ y ∈ scope.names, y.2 = .free → ∃ c, X.env.cells.lookup y.1 = some c := by
    intro y hy e
    have z := ok.free y hy e
    exact I.ok.has _ (z.imp id id)
  refine wpAny_comprehension_free (use := use) rfl hs (closure_ok captured) ok.kind (fun y hy e => (ok.uniq y hy).trans (congrArg some e)) ?_
  refine thn (hi.run pins s σ H _ I h) fun xv s1 hx => thn hx fun itv s2 h2 => ?_
  obtain ⟨it, fp, tn, J, H2, rfl, I2, T, st2, f2, q⟩ := h2
  refine wpAny_newObj_type (newEnv_comp ?_)
  obtain ⟨d, hD⟩ : ∃ d, d = s2.heap.objs.size := ⟨_, rfl⟩
  rw [← hD]
  have dFree : H2 d = none := I2.hok.fresh (by rw [hD]; exact Nat.le_refl _)
  obtain ⟨W, ⟨m0, w0⟩, turn⟩ := q d dFree
  obtain ⟨s3, e3⟩ : ∃ s3 : Shared, s3 = { s2 with heap := s2.heap.push { cls := .type "dict", data := .dict #[] } } := ⟨_, rfl⟩
  rw [← e3]
  have hh3 : s3.heap = s2.heap.push { cls := .type "dict", data := .dict #[] } := by rw [e3]
  have I3 : L2.Inv X pins σ (upd H2 d o0) s3 := by
    rw [e3, hD]
    exact I2.laid (t' := s2.toks) (fun b o e => Heap.get?_push_of_some _ e) (Nat.le_refl _) (h0 _ s2.heap I2.big)
  have small : ∀ b ∈ fp, b < s2.heap.objs.size := by
    intro b hb
    obtain ⟨o, e, _⟩ := T.obj _ _ st2 b hb
    exact Heap.lt_size e
  have f3 : ∀ b ∈ fp, FpOk X pins (upd H2 d o0) b ∧ b < s3.heap.objs.size := by
    intro b hb
    have lt := small b hb
    have ne : b ≠ d := by
      rw [hD]
      exact Nat.ne_of_lt lt
    refine ⟨⟨by rw [upd_ne ne]; exact (f2 b hb).1, (f2 b hb).2⟩, ?_⟩
    rw [hh3, Heap.size_push]
    exact Nat.lt_succ_of_lt lt
  have st3 : tn 0 s3.heap := by
    refine T.keep _ _ _ st2 fun b _ o e => ?_
    rw [hh3]
    exact Heap.get?_push_of_some _ e
  have I4 := block_start I3 ok hN f3
  obtain ⟨ce, hce⟩ : ∃ ce, ce = compEnvC scope (cellsFrom (s3.heap.objs.size + 1) scope.names (cloFrom X.env.cells scope.names [])) s3.heap.objs.size X.env := ⟨_, rfl⟩
  have pg := hg s3 (upd H2 d o0) s3.heap.objs.size (cellsFrom (s3.heap.objs.size + 1) scope.names (cloFrom X.env.cells scope.names [])) fp
  have pt := ht s3 (upd H2 d o0) s3.heap.objs.size (cellsFrom (s3.heap.objs.size + 1) scope.names (cloFrom X.env.cells scope.names [])) fp
  have pk := hk s3 (upd H2 d o0) s3.heap.objs.size (cellsFrom (s3.heap.objs.size + 1) scope.names (cloFrom X.env.cells scope.names [])) fp
  have pv := he s3 (upd H2 d o0) s3.heap.objs.size (cellsFrom (s3.heap.objs.size + 1) scope.names (cloFrom X.env.cells scope.names [])) fp
  have pp := hput s3 (upd H2 d o0) s3.heap.objs.size (cellsFrom (s3.heap.objs.size + 1) scope.names (cloFrom X.env.cells scope.names [])) fp
  rw [← hce] at I4 pg pt pk pv pp
  show codeAny _ _ (.compStart (.DictComp kx vx [⟨tg, iter, ifs, 0⟩] scope pos) 0 (.ref it) (.ref d) (compEnvC scope (cellsFrom (s3.heap.objs.size + 1) scope.names (cloFrom X.env.cells scope.names [])) s3.heap.objs.size X.env)) _ { s3 with heap := pushCells (s3.heap.push { cls := .type "dict", data := .dict #[] }) scope.names }
  rw [← hce]
  have cL : ce.locals = s3.heap.objs.size := by rw [hce]; rfl
  obtain ⟨H3, hH3⟩ : ∃ H3, H3 = upd H2 d o0 := ⟨_, rfl⟩
  rw [← hH3] at I3 I4 pg pt pk pv pp w0 f3
  obtain ⟨s4, e4⟩ : ∃ s4 : Shared, s4 = { s3 with heap := pushCells (s3.heap.push { cls := .type "dict", data := .dict #[] }) scope.names } := ⟨_, rfl⟩
  rw [← e4] at I4 ⊢
  have st4 : tn 0 s4.heap := by
    refine T.keep _ _ _ st3 fun b _ o e => ?_
    rw [e4]
    exact pushCells_keeps _ _ _ _ (Heap.get?_push_of_some _ e)
  have stay : ∀ {σ' : L2.St} {H' : Hp} {s' : Shared}, L2.Inv (X.blk s3 H3 scope ce fp) [] σ' H' s' → (∀ b ∈ fp, H' b = none) → ∀ b ∈ fp, FpOk (X.blk s3 H3 scope ce fp) [] H' b := by
    intro σ' H' s' I' hn b hb
    refine ⟨hn b hb, (I'.ok.exf b hb).1, I'.ok.exfs b hb, .inl hb, fun x c e => (I'.ok.exf b hb).2 x c e, fun p hp => ?_⟩
    cases (show p ∈ ([] : List (Addr × Obj)) from hp)
  have loop : codeAny (model X.prog X.w) X.A (.compLoop (.DictComp kx vx [⟨tg, iter, ifs, 0⟩] scope pos) 0 (.ref it) (.ref d) ce) (compPost (model X.prog X.w) X.A X.xe use Qf (.ref d) s3.heap.objs.size) s4 := by
    refine compLoop_anyD (fun n s' => ∃ i H', L2.Inv (X.blk s3 H3 scope ce fp) [] (wipe σ (own.map (·.2))) H' s' ∧ tn i s'.heap ∧ (∀ b ∈ fp, H' b = none) ∧ W i n H') ?_ m0 ⟨0, H3, I4, st4, (fun b hb => (f3 b hb).1.1), w0⟩
    rintro n s5 ⟨i, H5, I5, st5, n5, w5⟩
    rcases turn i n H5 w5 with ⟨stop, qq⟩ | ⟨go, Nx, hNx, step⟩
    · refine thnF (T.done (X.blk s3 H3 scope ce fp) rfl rfl rfl hc i [] s5 _ H5 (fun _ _ => False) I5 (stay I5 n5) st5 stop) fun r s6 ⟨hr, I6⟩ => ?_
      subst hr
      have I7 : L2.Inv X pins σ H5 s6 := I3.call' (ch := fp) I6.os I6.base I6.hok I6.bare fun b hb =>
        let z := (f3 b hb).1.2
        ⟨z.2.2.1, z.1, z.2.2.2.1, z.2.2.2.2⟩
      obtain ⟨m, hn, _⟩ := I6.loc
      have nC : H5 s3.heap.objs.size = none := cL ▸ (show H5 ce.locals = none from I6.free)
      have hn : s6.heap.Ns s3.heap.objs.size m := cL ▸ (show s6.heap.Ns ce.locals m from hn)
      exact fin d s3.heap.objs.size s6 m H5 I7 qq hn (I3.fpOk (Nat.le_refl _) nC)
    · refine thnF (T.item (X.blk s3 H3 scope ce fp) rfl rfl rfl hc i [] s5 _ H5 (fun _ _ => False) I5 (stay I5 n5) st5 go) fun r s6 ⟨u, hr, h6⟩ => ?_
      subst hr
      refine thnF h6 fun _ s7 ⟨x, H7, I7, r7, y7, st7, n7⟩ => ?_
      refine thnF (pg.run _ s7 _ H7 x u _ (I7.pinned (stay I7 n7) (T.obj _ _ st7)) r7 (step x H7 y7)) fun _ s8 ⟨σ8, H8, I8, hw8, q8⟩ => ?_
      refine thnF (pt.run _ s8 σ8 H8 _ I8 q8) fun b s9 ⟨H9, I9, q9⟩ => ?_
      have over : ∀ {s' : Shared} {H' : Hp}, L2.Inv (X.blk s3 H3 scope ce fp) ([] ++ pinsAt fp s7.heap) σ8 H' s' → Nx H' → ∃ m, m < n ∧ ∃ i H', L2.Inv (X.blk s3 H3 scope ce fp) [] (wipe σ (own.map (·.2))) H' s' ∧ tn i s'.heap ∧ (∀ b ∈ fp, H' b = none) ∧ W i m H' := by
        intro s' H' I' nx
        obtain ⟨m', hm, w'⟩ := hNx H' nx
        have kept : ∀ b ∈ fp, ∀ o, s7.heap.get? b = some o → s'.heap.get? b = some o ∧ H' b = none := by
          intro b hb o e
          have z := I'.pin (b, o) (List.mem_append_right _ (List.mem_append_right _ (mem_pinsAt hb e)))
          exact ⟨z.1, z.2.1⟩
        refine ⟨m', hm, i + 1, H', (I'.unpinned (pins := [])).weak (by rw [← hw8, wipe_length]) (fun j v e => (wipe_some (by rw [hw8]; exact e)).1), T.keep _ _ _ st7 fun b hb o e => (kept b hb o e).1, fun b hb => ?_, w'⟩
        obtain ⟨o, e, _⟩ := T.obj _ _ st7 b hb
        exact (kept b hb o e).2
      cases b with
      | false =>
        have q9 : Nx H9 := by simpa using q9
        simpa using over I9 q9
      | true =>
        have q9 : tk σ8 H9 fun y H4 => tv σ8 H4 fun z H5 => tp d y z H5 Nx := by simpa using q9
        rw [if_pos rfl]
        refine thnF (pk.run _ s9 σ8 H9 _ I9 q9) fun z s10 ⟨yk, H10, I10, r10, q10⟩ => ?_
        refine thnF (pv.run _ s10 σ8 H10 _ I10 q10) fun z2 s11 ⟨yv, H11, I11, r11, q11⟩ => ?_
        exact thnF (pp _ σ8 H11 s11 d yk yv z z2 Nx I11 r10 r11 q11) fun _ s12 ⟨H12, I12, nx⟩ => over I12 nx
  exact codeAny_compStart_dict loop (T.self X.A 0 _ _ _ st4 loop)
/-- as a value -/
theorem pe_dcg {o0 : HO} {tp : Tput} {kx vx tg iter : Expr} {ifs : List Expr} {scope : Scope} {own : List (Str × Nat)} {pos : Pos} {wi : TI} {g : TG} {tt : TT} {tk tv : TE}
    (h0 : ∀ (H : Hp) (hp : Heap), sysModules < hp.objs.size → ObjOk X.prog X.w H (hp.push { cls := .type "dict", data := .dict #[] }) hp.objs.size o0) (hput : InBlk X scope fun Y => PutOk Y tp)
    (hc : X.calm = true) (hN : X.N.Nodup) (hi : PI X tg iter wi) (ok : BlkOk X.N X.env.scope scope own)
    (hg : InBlk X scope fun Y => PG Y tg g) (ht : InBlk X scope fun Y => PTs Y ifs tt) (hk : InBlk X scope fun Y => PE Y kx tk) (he : InBlk X scope fun Y => PE Y vx tv) (hs : ∀ x, foldedSetIterable iter X.env x = pure x) :
    PE X (.DictComp kx vx [⟨tg, iter, ifs, 0⟩] scope pos) (tDcG o0 tp wi g tt tk tv (own.map (·.2))) := ⟨fun pins s σ H Q I h => by
  rw [arm_eval_DictComp]
  refine dcg_core h0 hput hc hN I hi ok hg ht hk he hs h fun d C s' m H' I' q hn f => ⟨m, hn, fun h'' sb => ?_⟩
  obtain ⟨a0, a1, a2, a3, a4, a5⟩ := f
  exact ⟨.ref d, H', I'.turned (t' := s'.toks) (fun b o hb e => (sb.2 b hb).trans e) a0 a1 a3 a4 a5, rfl, q⟩⟩
/-- name = {..} on one line -/
theorem ps_setDcg {o0 : HO} {tp : Tput} {i : Nat} {y : Str} {py spos : Pos} {kx vx tg iter : Expr} {ifs : List Expr} {scope : Scope} {own : List (Str × Nat)} {pos : Pos} {wi : TI} {g : TG} {tt : TT} {tk tv : TE}
    (h0 : ∀ (H : Hp) (hp : Heap), sysModules < hp.objs.size → ObjOk X.prog X.w H (hp.push { cls := .type "dict", data := .dict #[] }) hp.objs.size o0) (hput : InBlk X scope fun Y => PutOk Y tp)
    (hc : X.calm = true) (hN : X.N.Nodup) (hy : X.N[i]? = some y) (hyl : X.env.scope.names.lookup y = some .local) (hsw : swapsWith (.DictComp kx vx [⟨tg, iter, ifs, 0⟩] scope pos) (some (.Name y py)) spos.line X.env = pure true)
    (hi : PI X tg iter wi) (ok : BlkOk X.N X.env.scope scope own)
    (hg : InBlk X scope fun Y => PG Y tg g) (ht : InBlk X scope fun Y => PTs Y ifs tt) (hk : InBlk X scope fun Y => PE Y kx tk) (he : InBlk X scope fun Y => PE Y vx tv) (hs : ∀ x, foldedSetIterable iter X.env x = pure x) :
    PS X (.Assign [.Name y py] (.DictComp kx vx [⟨tg, iter, ifs, 0⟩] scope pos) spos) (tAsg (tDcG o0 tp wi g tt tk tv (own.map (·.2))) (gName i)) := ⟨fun pins s σ H De I h => by
  rw [exec_Assign_Name_used _ _ _ _ hsw]
  refine wpAny_bind (wpAny_standAt (wpAny_bind ?_))
  show wpAny _ X.A (do let _ ← comprehension (.DictComp kx vx [⟨tg, iter, ifs, 0⟩] scope pos) scope X.env (firstIterPos [⟨tg, iter, ifs, 0⟩] pos) newDict false (eval iter X.env) (some (assign (.Name y py) X.env))) _ _ s
  have h : tDcG o0 tp wi g tt tk tv (own.map (·.2)) σ H (fun x H1 => gName i x σ H1 De.nx) := h
  refine wpAny_bind (thn (dcg_core (Qf := fun _ s' => SP X pins De .next s') h0 hput hc hN I hi ok hg ht hk he hs h fun d C s' m H' I' q hn f => ?_) fun _ s' hq => wpAny_pure (wpAny_pure hq))
  show wpAny _ _ (assign (.Name y py) X.env (.ref d)) _ _ _
  refine wpAny_assign_Name (store_ok2 (v := V.ref d) I' hN hy (.inl hyl) rfl (fun s2 I2 ⟨a, sb, ha⟩ => ?_) (.inr hyl))
  obtain ⟨a0, a1, a2, a3, a4, a5⟩ := f
  have ne : C ≠ a := fun e => by
    rcases ha with z | z
    · exact a1 (e.trans z)
    · exact a4 y a z e.symm
  exact ⟨m, hn.sameBut sb ne, fun h3 sb3 => ⟨_, H', I2.turned (t' := s2.toks) (fun b o hb e => (sb3.2 b hb).trans e) a0 a1 a3 a4 a5, q⟩⟩⟩
end

/-! ### the values of a dict, as a tuple -/
section
variable {prog : Program} {w : World} {A : Around} {E : Value → Shared → Prop} {s : Shared} {d r : Addr} {es : Array DictEntry} {ep : Nat}
theorem meets_values_raw (d : Addr) (hd : (d == sysModules) = false) : MeetsIn prog w (Builtin.«dict.values» ⟨[.ref d], []⟩) (fun _ R s => (∃ es ep, s.heap.DictRaw d es ep) ∧
    R (.ok (.ret (.ref s.heap.objs.size))) { s with heap := s.heap.push { cls := .type "dict_values", data := .fields #[.ref d] } }) := .of_wp fun A R s ⟨⟨es, ep, hm⟩, h⟩ => by
  obtain ⟨o, ho, hx, hdt⟩ := hm
  refine wpAny_bind ?_
  unfold Builtin.Dict.noArgs
  refine wpAny_bind (wpAny_notOrdered_dict ⟨o, ho, hx.1⟩ (wpAny_pure ?_))
  show wpAny _ _ (Builtin.Dict.showsAll d >>= _) _ _ s
  unfold Builtin.Dict.showsAll
  rw [if_neg (fun z => Bool.noConfusion (hd.symm.trans z))]
  exact wpAny_bind (wpAny_pure (wpAny_bind (wpAny_newObj_type (wpAny_pure ⟨_, rfl, h⟩))))
theorem code_tuple_src {T : String} {n : Nat} {P : Nat → Value → Prop} {OK : Heap → Prop} {Q₁ : Value → Shared → Prop} (S : PySem.W.KdlSrc prog w T r d n P OK) (hh : A.handled = none) (hok : OK s.heap) (hn : n ≤ sizeLine) (hT : T = "dict_values")
    (h : ∀ (h' : Heap) (tk : Nat) (acc : Array Value), (∀ b o, s.heap.get? b = some o → h'.get? b = some o) → ItemsOf P acc n → Q₁ (.ref h'.objs.size) { s with heap := h'.push { cls := .type "tuple", data := .seq acc }, toks := tk }) :
    codeAny (model prog w) A (.call (.builtin "tuple.__new__") ⟨[.type "tuple", .ref r], []⟩) (wants Q₁ E) s := by
  subst hT
  refine codeAny_of_tree ?_
  show wpAny _ A.in1 (do checkBuiltinCall "tuple.__new__" ⟨[.type "tuple", .ref r], []⟩; again (.builtin "tuple.__new__" ⟨[.type "tuple", .ref r], []⟩)) _ _ s
  refine wpAny_bind (wpAny_of_eq (F.newCall_tuple_1 _) (wpAny_pure ⟨plainId_quiet F.plain_tuple_new _, codeAny_builtin F.entry_tuple_new ?_⟩))
  rw [Around.under_plainId F.plain_tuple_new _]
  have hsub := sub_tuple_self
  have hinit := init_tuple_lookup
  have hmh := madeHere_tuple
  have hTI : s.TypeIs (.ref r) "dict_values" := S.type s hok
  have hh1 : A.in1.handled = none := hh
  wp_walk using wpAny_typeOf hTI, PySem.W.kdu_collect (A := A.in1) S hh1 hok hn
  intro h' tk acc hk hacc
  show wpAny _ _ (Builtin.Tuple.tupleExact acc.toList.toArray >>= fun v => PySem.ret v) _ _ _
  unfold Builtin.Tuple.tupleExact
  have e : acc.toList.toArray = acc := by simp
  refine wpAny_bind (wpAny_newObj_type ?_ (by show acc.toList.toArray.size ≤ sizeLine; rw [e, hacc.1]; exact hn))
  refine wpAny_pure ?_
  rw [e]
  exact h h' tk acc hk hacc
theorem call_tuple_src {T : String} {n : Nat} {P : Nat → Value → Prop} {OK : Heap → Prop} {Q : Value → Shared → Prop} (S : PySem.W.KdlSrc prog w T r d n P OK) (hh : A.handled = none) (hok : OK s.heap) (hn : n ≤ sizeLine) (hT : T = "dict_values")
    (hQ : ∀ (h' : Heap) (tk : Nat) (acc : Array Value), (∀ b o, s.heap.get? b = some o → h'.get? b = some o) → ItemsOf P acc n → Q (.ref h'.objs.size) { s with heap := h'.push { cls := .type "tuple", data := .seq acc }, toks := tk }) :
    wpAny (model prog w) A (call (.type "tuple") [.ref r]) Q E s := by
  refine callType_codes (Q₁ := fun obj s₁ => s₁.TypeIs obj "tuple" ∧ Q obj s₁) F.called_tuple (F.typeCall_tuple_1 _) F.entry_object_init
    (code_tuple_src (A := A.in1) S hh hok hn hT fun h' tk acc hk hacc => ⟨⟨_, Heap.get?_push_size _ rfl, rfl⟩, hQ h' tk acc hk hacc⟩) fun obj s₁ h₁ => ?_
  exact ⟨h₁.1, F.args_object_init_2 obj _, object_init_meets F.called_tuple.init.lookup F.called_tuple.made (by decide) prog w A.in1 _ s₁ ⟨h₁.1, rfl, h₁.2⟩⟩
end
section
variable {X : Cx} {c : Cg}
theorem kt_vals {H : Hp} : ∀ {kvs : List (List Key × V)} {xs : List (List Key × Addr × Value)}, KT H kvs xs → L2.Vals (kvs.map (·.2)) (xs.map (·.2.2))
  | _, _, .nil => .nil
  | _, _, .cons h t => .cons h.2.2 (kt_vals t)
/-- tuple(x.values()), x a dict with tuples as keys that stands in a slot -/
theorem pe_tupVals {i : Nat} {x : Str} {p px pos apos cpos : Pos} (hc : X.calm = true) (hg : Gl X "tuple") (hm : X.mg "tuple" = none) (hN : X.N[i]? = some x) (hv : Vis X.env.scope x) (hd : (x == ("__debug__" : Str)) = false) (hcd : (x == ("__classdict__" : Str)) = false)
    (hbase : attributeBase (.Name x px) "values" X.env (eval (.Name x px) X.env) = eval (.Name x px) X.env) (hline : (apos.endLine == cpos.line) = true)
    (na : starEach [.Call (.Attribute (.Name x px) "values" apos) [] [] cpos] X.env = (false, eval (.Call (.Attribute (.Name x px) "values" apos) [] [] cpos) X.env) :: starEach [] X.env) :
    PE X (.Call (.Name "tuple" p) [.Call (.Attribute (.Name x px) "values" apos) [] [] cpos] [] pos) (fun σ H Q => ∃ a kvs, σ[i]? = some (some (.ref a)) ∧ H a = some (.dT kvs) ∧ ∀ q, H q = none → Q (.ref q) (upd H q (.tup (kvs.map (·.2))))) := ⟨fun pins s σ H Q I h => by
  obtain ⟨a, kvs, hs, ha, q⟩ := h
  refine Call_ (ld_blt I hg hm boot_tuple (PyProof.Rows.callWith_type1 (args_cons ?_ na) na))
  refine wpAny_Call_method (T := "dict") (id := "dict.values") hbase rfl hline F.plainAttrs_dict F.slot_dict_values F.type_dict_values (thn ((pe_var (pos := px) (i := i) hN hv hd hcd).run pins s σ H (fun v H1 => v = .ref a ∧ H1 = H) I ⟨_, hs, rfl, rfl⟩) fun u s1 ⟨v, H1, I1, rx, ev, eH⟩ => ?_)
  subst ev eH
  obtain rfl : u = Value.ref a := rx
  obtain ⟨hz, hsys, xs, rel, o, es, ep, ho, hex, hdt, hes, _, _⟩ := dt_of I1.hok ha
  refine ⟨⟨o, ho, hex.1⟩, fun b e => ?_, ?_⟩
  · cases e
    exact ⟨o, ho, hex.2.1⟩
  refine method_meetsIn F.slot_dict_values F.entry_dict_values rfl (PySem.evalArgs_none ⟨rfl, ⟨o, ho, hex.1⟩, F.args_dict_values_1 _, _, meets_values_raw a hsys, ⟨es, ep, o, ho, hex, hdt⟩, ?_⟩)
  refine args_nil ?_
  have I2 : L2.Inv X pins σ H1 { s1 with heap := s1.heap.push { cls := .type "dict_values", data := .fields #[.ref a] } } := I1.kept (t' := s1.toks) fun b ob z => Heap.get?_push_of_some _ z
  have sz : es.size = xs.length := by rw [← Array.length_toList, hes, List.length_map]
  refine call_tuple_src (KdlSrc.rawValues (r := s1.heap.objs.size) (d := a) (es := es) (ep := ep)) (I.ok.hd hc) ⟨⟨_, Heap.get?_push_size _ rfl, rfl, rfl⟩, o, Heap.get?_push_of_some _ ho, hex, hdt⟩ (by rw [sz, ← PySem.Paired.length rel]; exact hz) rfl fun h' tk acc hk hacc => ?_
  have hits : acc.toList = xs.map (·.2.2) := by
    apply List.ext_getElem?
    intro j
    rw [Array.getElem?_toList, List.getElem?_map]
    by_cases hj : j < acc.size
    · obtain ⟨hi, hv⟩ := hacc.2 j _ (Array.getElem?_eq_getElem hj)
      rw [Array.getElem?_eq_getElem hj, hv]
      have e1 : es.toList[j]? = some es[j] := by rw [Array.getElem?_toList, Array.getElem?_eq_getElem hi]
      rw [hes, List.getElem?_map] at e1
      cases e2 : xs[j]? with
      | none => rw [e2] at e1; cases e1
      | some z =>
        rw [e2] at e1
        have e3 : entryOfKey (tupleKind (mixKind X.prog X.w)) z = es[j] := Option.some.inj e1
        rw [← e3]
        rfl
    · rw [Array.getElem?_eq_none (by omega)]
      have hx : xs.length ≤ j := by
        rw [hacc.1, sz] at hj
        omega
      rw [List.getElem?_eq_none hx]
      rfl
  have I3 : L2.Inv X pins σ H1 { s1 with heap := h', toks := tk } := I2.kept (t' := tk) hk
  have rv : L2.Vals (kvs.map (·.2)) acc.toList := by
    rw [hits]
    exact kt_vals rel
  have I4 : L2.Inv X pins σ (upd H1 h'.objs.size (.tup (kvs.map (·.2)))) { s1 with heap := h'.push { cls := .type "tuple", data := .seq acc }, toks := tk } :=
    I3.laid (t' := tk) (fun b o e => Heap.get?_push_of_some _ e) (Nat.le_refl _) (show ObjOk X.prog X.w _ _ _ (.tup (kvs.map (·.2))) from ⟨by rw [List.length_map]; exact hz, acc.toList, rv, by simpa using IsTup.new h' acc⟩)
  exact ⟨.ref h'.objs.size, _, I4, rfl, q _ (I3.hok.fresh (Nat.le_refl _))⟩⟩
end
end Dn

set_option Elab.async false
set_option linter.all false
set_option maxRecDepth 100000
set_option maxHeartbeats 4000000
/-! Dn13: a dict with tuples as keys, by data. -/
namespace Dn
open PySem PySem.Spec PyProof.Rows L2
def keyD : D → Option (List Key)
  | .tup ds => (ints? ds).map fun ns => ns.map Sum.inl
  | _ => none
theorem ints?_all : ∀ {ds : List D} {ns : List Int}, ints? ds = some ns → ds = ns.map D.int
  | [], ns, h => by cases h; rfl
  | .int i :: r, ns, h => by
    have h : (ints? r).map (i :: ·) = some ns := h
    cases q : ints? r with
    | none => rw [q] at h; cases h
    | some m =>
      rw [q] at h
      cases h
      rw [ints?_all q]
      rfl
  | .non :: _, _, h => by cases h
  | .bl _ :: _, _, h => by cases h
  | .str _ :: _, _, h => by cases h
  | .ty _ :: _, _, h => by cases h
  | .adr _ :: _, _, h => by cases h
  | .tup _ :: _, _, h => by cases h
  | .kt _ :: _, _, h => by cases h
  | .lst _ :: _, _, h => by cases h
  | .fl _ :: _, _, h => by cases h
  | .ins _ _ _ :: _, _, h => by cases h
theorem key_rep {K : PySem.W.Frag} {G : Hp} {d : D} {v : V} {k : List Key} (r : Rep K G d v) (e : keyD d = some k) : ∃ b, v = .ref b ∧ G b = some (.tup (k.map kV)) := by
  cases d with
  | tup ds =>
    have e : (ints? ds).map (fun ns => ns.map Sum.inl) = some k := e
    cases q : ints? ds with
    | none => rw [q] at e; cases e
    | some ns =>
      rw [q] at e
      cases e
      obtain ⟨a, vs, rfl, h1, h2⟩ := repTup r
      rw [ints?_all q] at h2
      refine ⟨a, rfl, ?_⟩
      rw [h1, Reps.ints_inv h2, List.map_map]
      rfl
  | _ => cases e
theorem putK_new {kvs : List (List Key × V)} {k : List Key} {v : V} (h : k ∉ kvs.map (·.1)) : putK kvs k v = kvs ++ [(k, v)] := by
  unfold putK
  rw [if_neg]
  intro z
  obtain ⟨p, hp, e⟩ := List.any_eq_true.mp z
  exact h (List.mem_map.mpr ⟨p, hp, of_decide_eq_true e⟩)
/-- the state of a block that fills an object at p -/
structure BkO (K : PySem.W.Frag) (c : Cg) (B G H : Hp) (σ : L2.St) (ρ : Rho) (p : Addr) (o : OO) : Prop where
  rl : Rl K c.nox B G H σ ρ
  new : New B G σ ρ p
  at_ : ORep K G H p o
section
variable {K : PySem.W.Frag} {c : Cg} {B G H : Hp} {σ : L2.St} {ρ : Rho} {p : Addr} {o : OO}
theorem BkO.run {α : Type} {m : M α} {P : α → Rho → Hp → Hp → Prop} (b : BkO K c B G H σ ρ p o) (h : ∀ a ρ', m ρ = .ok a ρ' → ∀ G' H', Sub G G' → BkO K c B G' H' σ ρ' p o → P a ρ' G' H') (no : ∃ a ρ', m ρ = .ok a ρ') :
    ∃ B', Rl K c.nox B' G H σ ρ ∧ XPost K c.nox B' σ G P (m ρ) := by
  obtain ⟨u, hu⟩ := b.at_.some
  refine ⟨upd B p u, b.rl.guard b.new hu, ?_⟩
  obtain ⟨a, ρ', e⟩ := no
  rw [e]
  intro G' H' s r
  obtain ⟨r1, n1, hp1⟩ := r.unguard (b.rl.ext.free b.new.1) b.new.2.1
  exact h a ρ' e G' H' s ⟨r1, n1, b.at_.mono s (hp1.trans hu.symm)⟩
theorem BkO.mono {G' H' : Hp} (b : BkO K c B G H σ ρ p o) (g : Grow G H G' H') : BkO K c B G' H' σ ρ p o := by
  obtain ⟨u, hu⟩ := b.at_.some
  refine ⟨b.rl.grow g, ⟨?_, b.new.2.1, b.new.2.2⟩, b.at_.mono g.gg ((g.hh _ _ hu).trans hu.symm)⟩
  cases q : G' p with
  | none => rfl
  | some z =>
    rcases g.fr p (by rw [q]; exact fun e => nomatch e) with h | h
    · exact absurd b.new.1 h
    · rw [hu] at h
      cases h
theorem BkO.wipe {vs : List Nat} (b : BkO K c B G H σ ρ p o) (hp : ∀ i ∈ vs, npin c i = true) : BkO K c B G H (L2.wipe σ vs) (wipeR ρ vs) p o := ⟨b.rl.wipe hp, b.new.wipe, b.at_⟩
theorem BkO.tgt {t : Tg} {ts : List Nat} {d : D} {x : V} {ρ1 : Rho} {Q : L2.St → Hp → Prop} (b : BkO K c B G H σ ρ p o) (rx : Rep K G d x) (e : t d ρ = some ρ1)
    (h : ∀ σ', BkO K c B G H σ' ρ1 p o → σ'.length = σ.length → (∀ (j : Nat), j ∉ ts → σ'[j]? = σ[j]?) → Q σ' H) : gD K c.nox t ts x σ H Q := by
  obtain ⟨u, hu⟩ := b.at_.some
  refine ⟨upd B p u, G, ρ, d, ρ1, b.rl.guard b.new hu, rx, e, fun σ' r hl ho => ?_⟩
  obtain ⟨r1, n1, hp1⟩ := r.unguard (b.rl.ext.free b.new.1) b.new.2.1
  exact h σ' ⟨r1, n1, b.at_⟩ hl ho
end
def hasK (ks : List (List Key)) (k : List Key) : Bool := ks.any fun x => decide (x = k)
theorem hasK_not {ks : List (List Key)} {k : List Key} (h : ¬ hasK ks k = true) : k ∉ ks := fun z => h (List.any_eq_true.mpr ⟨k, z, decide_eq_true rfl⟩)
def dcLoop (t : Tg) (kx vx : M D) (vs : List Nat) : List D → List (List Key) → List D → M (List (List Key) × List D)
  | [], ks, ds, ρ => .ok (ks, ds) ρ
  | x :: xs, ks, ds, ρ => match t x ρ with
    | none => .no
    | some ρ1 => match kx ρ1 with
      | .ok kd ρ2 => (match vx ρ2 with
        | .ok vd ρ3 => (match keyD kd with
          | some k => if hasK ks k = true then .no else dcLoop t kx vx vs xs (ks ++ [k]) (ds ++ [vd]) (wipeR ρ3 vs)
          | none => .no)
        | _ => .no)
      | _ => .no
def dcM (it : M (List D)) (t : Tg) (kx vx : M D) (vs : List Nat) : M OO := bind it fun ds ρ => if szOk ds.length ∧ noOwn ρ vs = true then (match dcLoop t kx vx vs ds [] [] (wipeR ρ vs) with
  | .ok r ρ' => .ok (.dT r.1 r.2) (unwipe ρ ρ' vs)
  | _ => .no) else .no
section
variable {X : Cx} {c : Cg} {B : Hp}
theorem dc_read {it : M (List D)} {t : Tg} {ts : List Nat} {kx vx : M D} {vs : List Nat} (hp : ∀ i ∈ vs, npin c i = true) (hts : ∀ i ∈ ts, i ∈ vs) {σ : L2.St} {H : Hp} {Q : VK} (h : tN X.K c (dcM it t kx vx vs) σ H Q) :
    tDcG (.dT []) tpT (tI X.K c it) (gD X.K c.nox t ts) (tT X.K c.nox yesM) (tD X.K c.nox kx) (tD X.K c.nox vx) vs σ H Q := by
  obtain ⟨B, G, ρ, r, h⟩ := h
  refine ⟨B, G, ρ, r, h.bind.imp fun ds ρ1 G1 H1 s1 r1 h1 J hJ p hD => ?_⟩
  by_cases hc : szOk ds.length ∧ noOwn ρ1 vs = true
  · rw [if_pos hc] at h1
    obtain ⟨hz, no⟩ := hc
    cases q : dcLoop t kx vx vs ds [] [] (wipeR ρ1 vs) with
    | no => rw [q] at h1; exact h1.elim
    | err x ρ' => rw [q] at h1; exact h1.elim
    | ok rF ρF =>
      rw [q] at h1
      obtain ⟨rD, nD⟩ := r1.newOf (o := .dT []) hD
      have b0 : BkO X.K c B G1 (upd H1 p (.dT [])) (wipe σ vs) (wipeR ρ1 vs) p (.dT [] []) := ⟨(rD.nox).wipe (c := c.nox) hp, nD.wipe, [], upd_same, rfl, .nil⟩
      refine ⟨fun i m H' => m = ds.length - i ∧ i ≤ ds.length ∧ ∃ G' ρ' ks es, Sub G1 G' ∧ BkO X.K c B G' H' (wipe σ vs) ρ' p (.dT ks es) ∧ ks.length ≤ i ∧ dcLoop t kx vx vs (ds.drop i) ks es ρ' = .ok rF ρF,
        ⟨ds.length, by simp, Nat.zero_le _, G1, _, [], [], .refl G1, b0, Nat.le_refl _, by rw [List.drop_zero]; exact q⟩, ?_⟩
      rintro i m H' ⟨rfl, hi, G', ρ', ks, es, s', b, hks, e'⟩
      by_cases hlt : i < ds.length
      · have hd : ds.drop i = ds[i] :: ds.drop (i + 1) := List.drop_eq_getElem_cons hlt
        rw [hd] at e'
        unfold dcLoop at e'
        refine .inr ⟨hJ.go i H' (s'.trans b.rl.sub) hlt, fun H2 => ∃ G2 ρ2 ks2 es2, Sub G1 G2 ∧ BkO X.K c B G2 H2 (wipe σ vs) ρ2 p (.dT ks2 es2) ∧ ks2.length ≤ i + 1 ∧ dcLoop t kx vx vs (ds.drop (i + 1)) ks2 es2 ρ2 = .ok rF ρF,
          fun H2 x => ⟨ds.length - (i + 1), by omega, rfl, hlt, x⟩, fun x H2 y => ?_⟩
        obtain ⟨G2, g, rx⟩ := hJ.yld i H' x H2 ds[i] (s'.trans b.rl.sub) (List.getElem?_eq_getElem hlt) y G' s' b.rl.sub
        have b2 := b.mono g
        cases qt : t ds[i] ρ' with
        | none => rw [qt] at e'; cases e'
        | some ρ3 =>
          rw [qt] at e'
          dsimp only at e'
          refine b2.tgt rx qt fun σ2 b3 hl ho => ⟨?_, ?_⟩
          · rw [wipe_agree (vs := vs) hl ho hts, wipe_wipe]
          · have hw : wipe σ2 vs = wipe σ vs := by rw [wipe_agree (vs := vs) hl ho hts, wipe_wipe]
            obtain ⟨B1, R1, X1⟩ := b3.run (m := yesM) (P := fun b _ _ H3 => if b = true then tD X.K c.nox kx σ2 H3 fun y H4 => tD X.K c.nox vx σ2 H4 fun z H5 => tpT p y z H5 (fun H2 => ∃ G2 ρ2 ks2 es2, Sub G1 G2 ∧ BkO X.K c B G2 H2 (wipe σ vs) ρ2 p (.dT ks2 es2) ∧ ks2.length ≤ i + 1 ∧ dcLoop t kx vx vs (ds.drop (i + 1)) ks2 es2 ρ2 = .ok rF ρF)
                else (∃ G2 ρ2 ks2 es2, Sub G1 G2 ∧ BkO X.K c B G2 H3 (wipe σ vs) ρ2 p (.dT ks2 es2) ∧ ks2.length ≤ i + 1 ∧ dcLoop t kx vx vs (ds.drop (i + 1)) ks2 es2 ρ2 = .ok rF ρF)) (fun k' ρ4 e4 G4 H4 s4 b4 => by
              cases e4
              refine iteT ?_
              cases qk : kx ρ3 with
              | no => rw [qk] at e'; cases e'
              | err _ _ => rw [qk] at e'; cases e'
              | ok kd ρ5 =>
                rw [qk] at e'
                dsimp only at e'
                obtain ⟨B5, R5, X5⟩ := b4.run (m := kx) (P := fun d _ G' H4 => ∀ y, Rep X.K G' d y → tD X.K c.nox vx σ2 H4 fun z H5 => tpT p y z H5 (fun H2 => ∃ G2 ρ2 ks2 es2, Sub G1 G2 ∧ BkO X.K c B G2 H2 (wipe σ vs) ρ2 p (.dT ks2 es2) ∧ ks2.length ≤ i + 1 ∧ dcLoop t kx vx vs (ds.drop (i + 1)) ks2 es2 ρ2 = .ok rF ρF)) (fun kd' ρ6 e6 G6 H6 s6 b6 y ry => by
                  rw [qk] at e6
                  cases e6
                  cases qv : vx ρ5 with
                  | no => rw [qv] at e'; cases e'
                  | err _ _ => rw [qv] at e'; cases e'
                  | ok vd ρ7 =>
                    rw [qv] at e'
                    dsimp only at e'
                    cases qq : keyD kd with
                    | none => rw [qq] at e'; cases e'
                    | some k =>
                      rw [qq] at e'
                      dsimp only at e'
                      by_cases hk : hasK ks k = true
                      · rw [if_pos hk] at e'
                        cases e'
                      · rw [if_neg hk] at e'
                        obtain ⟨B7, R7, X7⟩ := b6.run (m := vx) (P := fun d _ G' H5 => ∀ z, Rep X.K G' d z → tpT p y z H5 (fun H2 => ∃ G2 ρ2 ks2 es2, Sub G1 G2 ∧ BkO X.K c B G2 H2 (wipe σ vs) ρ2 p (.dT ks2 es2) ∧ ks2.length ≤ i + 1 ∧ dcLoop t kx vx vs (ds.drop (i + 1)) ks2 es2 ρ2 = .ok rF ρF)) (fun vd' ρ8 e8 G8 H8 s8 b8 z rz => by
                          rw [qv] at e8
                          cases e8
                          obtain ⟨bk, rfl, hbk⟩ := key_rep (ry.mono s8) qq
                          obtain ⟨kvs, h3, h4, h5⟩ := b8.at_
                          have hl3 : kvs.length = ks.length := by rw [← h4, List.length_map]
                          refine ⟨kvs, k, bk, rfl, b8.rl.sub _ _ hbk, h3, by rw [sizeLine_eq]; unfold szOk at hz; omega, G8, wipeR ρ7 vs, ks ++ [k], es ++ [vd], (((s'.trans g.gg).trans s4).trans s6).trans s8, ?_, by simp only [List.length_append, List.length_singleton]; omega, e'⟩
                          rw [← hw, putK_new (by rw [h4]; exact hasK_not hk)]
                          have bb : BkO X.K c B G8 (upd H8 p (.dT (kvs ++ [(k, z)]))) σ2 ρ7 p (.dT (ks ++ [k]) (es ++ [vd])) := ⟨b8.rl.mutAt b8.new, b8.new, _, upd_same, by rw [List.map_append, h4]; rfl, by rw [List.map_append]; exact h5.append (.one rz)⟩
                          exact bb.wipe hp) ⟨vd, ρ7, qv⟩
                        exact ⟨B7, G6, ρ5, R7, X7⟩) ⟨kd, ρ5, qk⟩
                exact ⟨B5, G4, ρ3, R5, X5⟩) ⟨true, ρ3, rfl⟩
            exact ⟨B1, G2, ρ3, R1, X1⟩
      · have hd : i = ds.length := by omega
        subst hd
        rw [List.drop_length] at e'
        cases e'
        refine .inl ⟨hJ.stop H' (s'.trans b.rl.sub), ?_⟩
        have rU : Rl X.K c B G' H' σ (unwipe ρ1 ρF vs) := Rl.unwipe r1 (b.rl.xon) s' no
        refine h1 G' H' s' rU p ⟨b.new.1, b.new.2.1, fun j o e z => ?_⟩ b.at_
        rcases unwipe_at e with ⟨a1, a2⟩ | ⟨a1, a2⟩
        · exact noOwn_at no a1 a2
        · rw [← wipe_out (vs := vs) a1] at z
          exact b.new.2.2 j o a2 z
  · rw [if_neg hc] at h1
    exact h1.elim
variable {kx vx tg iter i0 e : Expr} {scope : Scope} {own : List (Str × Nat)} {pos spos py p px apos cpos tpos : Pos} {it : M (List D)} {t : Tg} {ts : List Nat} {km vm : M D}
/-- y = {kx: vx for tg in iter} -/
theorem pds_dcN {i : Nat} {y : Str} (hu : X.A.units + 64 < cLine) (hc : X.calm = true) (hN : X.N.Nodup) (hi : PI X tg iter (tI X.K c it)) (ok : BlkOk X.N X.env.scope scope own) (hg : InBlk X scope fun Y => PG Y tg (gD X.K c.nox t ts)) (hk : InBlk X scope fun Y => PE Y kx (tD X.K c.nox km)) (he : InBlk X scope fun Y => PE Y vx (tD X.K c.nox vm))
    (hsw : swapsWith (.DictComp kx vx [⟨tg, iter, [], 0⟩] scope pos) (some (.Name y py)) spos.line X.env = pure true) (hy : X.N[i]? = some y := by rfl) (hyl : X.env.scope.names.lookup y = some .local := by rfl)
    (hpi : npin c i = true := by rfl) (hp : npins c (own.map (·.2)) = true := by rfl) (hts : memB ts (own.map (·.2)) = true := by rfl) (hs : ∀ x, foldedSetIterable iter X.env x = pure x := by intro _; rfl) :
    PS X (.Assign [.Name y py] (.DictComp kx vx [⟨tg, iter, [], 0⟩] scope pos) spos) (tS X.K c (asgN i (dcM it t km vm (own.map (·.2))))) :=
  PS_imp (ps_setDcg (o0 := .dT []) (tp := tpT) (fun H hp hb => dt_empty hp hb) (fun _ _ _ _ _ => putOk_T (by show X.A.units + 1 < cLine; omega)) hc hN hy hyl hsw hi ok hg (fun _ _ _ _ _ => pts_yes (X := X.blk _ _ scope (compEnvC scope _ _ X.env) _) (c := c.nox)) hk he hs) fun De σ H h => dc_read (npins_ok hp) (memB_ok hts) (asgN_read hpi h)
def ownDT (ρ : Rho) (k : Nat) : Option (List (List Key) × List D) := match ρ[k]? with
  | some (some (.own (.dT ks ds))) => some (ks, ds)
  | _ => none
theorem ownDT_at {ρ : Rho} {k : Nat} {r : List (List Key) × List D} (h : ownDT ρ k = some r) : ρ[k]? = some (some (.own (.dT r.1 r.2))) := by
  unfold ownDT at h
  split at h
  · rename_i q
    rw [q]
    cases h
    rfl
  · cases h
def getDs : List (List Key) → List D → List Key → Option D
  | x :: ks, d :: ds, k => if x = k then some d else getDs ks ds k
  | _, _, _ => none
def putDs : List (List Key) → List D → List Key → D → List D
  | x :: ks, d :: ds, k, e => (if x = k then e else d) :: putDs ks ds k e
  | _, _, _, _ => []
def asI : D → Option Int
  | .int i => some i
  | _ => none
theorem asI_at {d : D} {i : Int} (h : asI d = some i) : d = .int i := by
  cases d <;> cases h <;> rfl
theorem Reps.nil_inv2 {K : PySem.W.Frag} {G : Hp} : ∀ {ds : List D}, Reps K G ds [] → ds = []
  | [], _ => rfl
  | d :: ds, r => by
    obtain ⟨v, w, e, _⟩ := r.cons_inv
    cases e
theorem getDs_val {K : PySem.W.Frag} {G : Hp} {k : List Key} {d : D} : ∀ {kvs : List (List Key × V)} {ds : List D}, Reps K G ds (kvs.map (·.2)) → getDs (kvs.map (·.1)) ds k = some d → ∃ v, valV kvs k = some v ∧ Rep K G d v
  | [], ds, r, h => by cases ds <;> cases h
  | (x, v) :: kvs, ds, r, h => by
    cases ds with
    | nil => cases h
    | cons d0 ds =>
      obtain ⟨w, ws, e, r1, r2⟩ := r.cons_inv
      cases e
      have h : (if x = k then some d0 else getDs (kvs.map (·.1)) ds k) = some d := h
      by_cases hx : x = k
      · rw [if_pos hx] at h
        cases h
        exact ⟨v, valV_pos (p := (x, v)) hx, r1⟩
      · rw [if_neg hx] at h
        obtain ⟨w, e1, e2⟩ := getDs_val r2 h
        exact ⟨w, by rw [valV_neg (p := (x, v)) hx]; exact e1, e2⟩
theorem put_map {K : PySem.W.Frag} {G : Hp} {k : List Key} {d : D} {v : V} (rv : Rep K G d v) : ∀ {kvs : List (List Key × V)} {ds : List D}, Reps K G ds (kvs.map (·.2)) →
    (kvs.map fun kv => if kv.1 = k then (kv.1, v) else kv).map (·.1) = kvs.map (·.1) ∧ Reps K G (putDs (kvs.map (·.1)) ds k d) ((kvs.map fun kv => if kv.1 = k then (kv.1, v) else kv).map (·.2))
  | [], ds, r => by
    rw [Reps.nil_inv2 r]
    exact ⟨rfl, .nil⟩
  | (x, w) :: kvs, ds, r => by
    cases ds with
    | nil => exact absurd r.nil_inv (by simp)
    | cons d0 ds =>
      obtain ⟨w', ws, e, r1, r2⟩ := r.cons_inv
      cases e
      obtain ⟨a, b⟩ := put_map (k := k) rv r2
      by_cases hx : x = k
      · subst hx
        refine ⟨?_, ?_⟩
        · simp only [List.map_cons, if_pos]
          rw [a]
        · simp only [List.map_cons, if_pos, putDs]
          exact .cons rv b
      · refine ⟨?_, ?_⟩
        · simp only [List.map_cons, if_neg hx]
          rw [a]
        · simp only [List.map_cons, if_neg hx, putDs]
          exact .cons r1 b
theorem putK_there {kvs : List (List Key × V)} {k : List Key} {v : V} (h : hasK (kvs.map (·.1)) k = true) : putK kvs k v = kvs.map fun kv => if kv.1 = k then (kv.1, v) else kv := by
  unfold putK
  rw [if_pos]
  obtain ⟨x, hx, e⟩ := List.any_eq_true.mp h
  obtain ⟨p, hp, rfl⟩ := List.mem_map.mp hx
  exact List.any_eq_true.mpr ⟨p, hp, e⟩
/-- x[key] += e, x an own dict -/
def augPut (k : Nat) (r : List (List Key) × List D) (key : List Key) (n : Int) : M Fl := fun ρ => if hasK r.1 key = true ∧ r.1.length < 16777216 then .ok .nx (ρ.set k (some (.own (.dT r.1 (putDs r.1 r.2 key (.int n)))))) else .no
def augM (k : Nat) (km vm : M D) : M Fl := bind (fun ρ => lift (ownDT ρ k) ρ) fun _ => bind km fun kd => bind (fun ρ => lift (ownDT ρ k) ρ) fun r => bind (lift ((keyD kd).bind fun key => ((getDs r.1 r.2 key).bind asI).map fun i => (key, i))) fun q => bind vm fun w => bind (lift (asI w)) fun j =>
  bind (fun ρ => lift (ownDT ρ k) ρ) fun r2 => augPut k r2 q.1 (q.2 + j)
theorem pds_aug (k : Nat) {x : Str} (hu : X.A.units + 64 < cLine) (hk : PE X i0 (tD X.K c km)) (he : PE X e (tD X.K c vm)) (hN : X.N[k]? = some x := by rfl) (hv : Vis X.env.scope x := by first | exact Or.inl rfl | exact Or.inr (Or.inl rfl) | exact Or.inr (Or.inr rfl)) (hd : (x == ("__debug__" : Str)) = false := by decide)
    (hcd : (x == ("__classdict__" : Str)) = false := by decide) (ha : ∀ ov iv new, augStore i0 ov iv new = (do holding [new, ov, iv] (setItem ov iv new); release [new, ov, iv] []; pure .next) := by intro _ _ _; rfl) :
    PS X (.AugAssign (.Subscript (.Name x px) i0 tpos) .Add e pos) (tS X.K c (augM k km vm)) :=
  PS_imp (ps_daug (by omega) (pe_var (pos := px) (i := k) hN hv hd hcd) hk he in_add ha) fun De σ H h => by
    obtain ⟨B, G, ρ, r, h⟩ := h
    unfold augM at h
    obtain ⟨r0, e0, h1⟩ := (SPost.bind (σ := σ) h).lift
    have h1 := h1 G H (.refl G) r
    obtain ⟨u, hu0, p0, rfl, g1, g2, g3⟩ := r.slots k _ (ownDT_at e0)
    refine ⟨_, hu0, B, G, ρ, r, (SPost.bind (σ := σ) h1).imp fun kd ρ1 G1 H1 s1 r1 h2 y ry => ?_⟩
    obtain ⟨rr, e1, h3⟩ := (SPost.bind (σ := σ) h2).lift
    have h3 := h3 G1 H1 (.refl G1) r1
    obtain ⟨qq, e2, h4⟩ := (SPost.bind (σ := σ) h3).lift
    have h4 := h4 G1 H1 (.refl G1) r1
    cases q1 : keyD kd with
    | none => rw [q1] at e2; cases e2
    | some key =>
      rw [q1] at e2
      have e2 : ((getDs rr.1 rr.2 key).bind asI).map (fun i => (key, i)) = some qq := e2
      cases q2 : getDs rr.1 rr.2 key with
      | none => rw [q2] at e2; cases e2
      | some d2 =>
        rw [q2] at e2
        have e2 : (asI d2).map (fun i => (key, i)) = some qq := e2
        cases q3 : asI d2 with
        | none => rw [q3] at e2; cases e2
        | some i2 =>
          rw [q3] at e2
          cases e2
          obtain ⟨u1, f1, p1, rfl, f3, f4, kvs, f5, f6, f7⟩ := r1.slots k _ (ownDT_at e1)
          rw [hu0] at f1
          cases f1
          obtain ⟨bk, rfl, hbk⟩ := key_rep ry q1
          rw [← f6] at q2
          obtain ⟨v2, hv2, rv2⟩ := getDs_val f7 q2
          rw [asI_at q3] at rv2
          rw [repInt rv2] at hv2
          refine ⟨p0, .int i2, rfl, by rw [← hv2]; exact DGet.t f5 (r1.sub _ _ hbk), B, G1, ρ1, r1, (SPost.bind (σ := σ) h4).imp fun w ρ2 G2 H2 s2 r2 h5 z rz => ?_⟩
          obtain ⟨j, e3, h6⟩ := (SPost.bind (σ := σ) h5).lift
          have h6 := h6 G2 H2 (.refl G2) r2
          obtain ⟨r3, e4, h7⟩ := (SPost.bind (σ := σ) h6).lift
          have h7 := h7 G2 H2 (.refl G2) r2
          obtain ⟨u2, k1, p2, rfl, k3, k4, kvs2, k5, k6, k7⟩ := r2.slots k _ (ownDT_at e4)
          rw [hu0] at k1
          cases k1
          unfold augPut at h7
          by_cases hc : hasK r3.1 key = true ∧ r3.1.length < 16777216
          · rw [if_pos hc] at h7
            rw [asI_at e3] at rz
            refine ⟨i2, j, rfl, repInt rz, _, DPut.t k5 (r2.sub _ _ (s2 _ _ hbk)) ?_, ?_⟩
            · rw [sizeLine_eq]
              have : kvs2.length = r3.1.length := by rw [← k6, List.length_map]
              omega
            · refine h7 σ G2 _ (.refl G2) (r2.wr (ownDT_at e4) hu0 ?_)
              rw [putK_there (by rw [k6]; exact hc.1)]
              have pm := put_map (d := .int (i2 + j)) (v := .int (i2 + j)) (k := key) (K := X.K) (G := G2) rep_int k7
              exact ⟨_, upd_same, by rw [pm.1, k6], by rw [← k6]; exact pm.2⟩
          · rw [if_neg hc] at h7
            exact h7.elim
/-- tuple(x.values()), x an own dict -/
def tvM (k : Nat) : M D := bind (fun ρ => lift (ownDT ρ k) ρ) fun r => ret (.tup r.2)
theorem pd_tupVals (k : Nat) {x : Str} (hc : X.calm = true) (hg : Gl X "tuple") (hm : X.mg "tuple" = none) (hN : X.N[k]? = some x := by rfl) (hv : Vis X.env.scope x := by first | exact Or.inl rfl | exact Or.inr (Or.inl rfl) | exact Or.inr (Or.inr rfl)) (hd : (x == ("__debug__" : Str)) = false := by decide)
    (hcd : (x == ("__classdict__" : Str)) = false := by decide) (hbase : attributeBase (.Name x px) "values" X.env (eval (.Name x px) X.env) = eval (.Name x px) X.env := by rfl) (hline : (apos.endLine == cpos.line) = true := by rfl)
    (na : starEach [.Call (.Attribute (.Name x px) "values" apos) [] [] cpos] X.env = (false, eval (.Call (.Attribute (.Name x px) "values" apos) [] [] cpos) X.env) :: starEach [] X.env := by rfl) :
    PE X (.Call (.Name "tuple" p) [.Call (.Attribute (.Name x px) "values" apos) [] [] cpos] [] pos) (tD X.K c (tvM k)) :=
  PE_imp (pe_tupVals (i := k) hc hg hm hN hv hd hcd hbase hline na) fun σ H Q h => by
    obtain ⟨B, G, ρ, r, h⟩ := h
    unfold tvM at h
    obtain ⟨r0, e0, h1⟩ := h.bind.lift
    have h1 := h1 G H (.refl G) r
    obtain ⟨u, hu0, p0, rfl, g1, g2, kvs, g3, g4, g5⟩ := r.slots k _ (ownDT_at e0)
    refine ⟨p0, kvs, hu0, g3, fun q hq => ?_⟩
    have g := Grow.new (o := .tup (kvs.map (·.2))) r.sub hq
    exact h1 _ _ g.gg (r.grow g) _ (rep_tup upd_same (g5.mono g.gg))
end
end Dn

set_option Elab.async false
set_option linter.all false
set_option maxRecDepth 100000
set_option maxHeartbeats 4000000
/-! Dn14: own errors: class X(E): def __init__(self, f): super().__init__('..'); self.f = f, E a class over ValueError. -/
namespace Dn
open PySem PySem.Calls PyProof.Rows PySem.HandSPX
open PySem.W (Frag clsIn findIn typeIn subIn keepIn hasDictIn alongIn mroIn nsIn codeIn InstAt fnX ks_superObj)
/-! ### the text of __init__ -/
def eA (p1 p2 : Pos) : Arguments := { posonlyargs := [], args := [{ arg := "self", annotation := none, pos := p1 }, { arg := "part", annotation := none, pos := p2 }], vararg := none, kwonlyargs := [], kw_defaults := [], kwarg := none, defaults := [] }
def eB (m : Str) (j : Nat) (p0 p1 p2 p3 p4 p5 q1 q2 q3 q4 : Pos) : List Stmt :=
  [.Expr (.Call (.Attribute (.Call (.Name "super" p0) [] [] p1) "__init__" p2) [.Constant (.str m) j p3] [] p4) p5, .Assign [.Attribute (.Name "self" q1) "part" q2] (.Name "part" q3) q4]
def eS : Scope := { kind := .function, names := [(Str.ofString "self", .local), (Str.ofString "part", .local), (Str.ofString "__class__", .free), (Str.ofString "super", .globalImplicit)], isGenerator := false, isCoroutine := false, more := [] }
/-- what the written part says of the class at C and of its __init__ at fI -/
structure ErrTxt (prog : Program) (K : Frag) (C fI : Addr) : Prop where
  cls : ∃ nm q N bs bm sn sub ab col dd k0 k1 k2 k3 k5, K.lookup C = some (excClassObj nm q C N bs bm true sn sub ab col dd k0 k1 k2 k3 k5 "ValueError.__new__") ∧ refsVE bm = true ∧
    alongIn K "__init__" (((Value.ref C :: bm).dropWhile (· != .ref C)).drop 1) = some (some (.builtin "ValueError.__init__"))
  self : mroIn K C (.ref C) = some true
  sa : findIn K (.ref C) "__setattr__" = some (some (.builtin "object.__setattr__"))
  ga : findIn K (.ref C) "__getattribute__" = some (some (.builtin "BaseException.__getattribute__"))
  gg : findIn K (.ref C) "__getattr__" = some none
  noN : findIn K (.ref C) "part" = some none
  iC : findIn K (.ref C) "__init__" = some (some (.ref fI))
  tC : typeIn K (.ref fI) = some (.type "function")
  kC : keepIn K (.ref C) = true
  exC : subIn K (.ref C) (.type "BaseException") = some true
  veC : subIn K (.ref C) (.type "ValueError") = some true
  tyC : typeIn K (.ref C) = some (.type "type")
  hdC : hasDictIn K C = true
  opq : nsIn K cStatics "thirdparty.any" = some none
  sup : nsIn K mainGlobals "super" = some none
  top : (prog.main.scope.names.lookup ("super" : Str)).isSome = false
  fn : ∃ (m qual : Str) (j : Nat) (oc : Value) (od : Option Addr) (doc pm : Value) (an : Option Addr) (cda cc : Addr) (ct : Value) (osl : Array (Option Value)) (p1 p2 a0 a1 a2 a3 a4 a5 q1 q2 q3 q4 : Pos) (ccl : Value) (cdd : Option Addr) (vs : Array Value) (ccs : Array (Option Value)) (file : Str) (tf : Tok) (cl : Value) (cld : Option Addr) (csl : Array (Option Value)),
    K.lookup fI = some ⟨oc, od, .func (fnX "__init__" qual (eA p1 p2) (eB m j a0 a1 a2 a3 a4 a5 q1 q2 q3 q4) eS [("__class__", cc)] .none .none doc pm an (.ref cda) ct), osl⟩ ∧ codeIn K (.ref cda) qual = true ∧
      K.lookup cda = some ⟨ccl, cdd, .fields vs, ccs⟩ ∧ vs[2]? = some (.str file tf) ∧ ((prog.main.file : Str) == file) = true ∧ K.lookup cc = some ⟨cl, cld, .cell (some (.ref C)), csl⟩ ∧ (a2.endLine == a4.line) = true
/-- what __init__ leaves of a fresh exception at x -/
structure InitEnd (h h' : Heap) (x C dx : Addr) (v : Value) : Prop where
  keep : ∀ b o, b ≠ x → h.get? b = some o → h'.get? b = some o
  obj : ∃ t1 : Addr, h'.get? x = some { cls := .ref C, dict := some dx, data := .fields #[.ref t1, .none, .none, .none, .bool false, .none] }
  dbig : h.objs.size ≤ dx
  dne : dx ≠ x
  ns : h'.Ns1 dx (fun y => if y = "part" then some v else none)
section
variable {prog : Program} {w : World} {A : Around} {E : Value → Shared → Prop} {R : Result → Shared → Prop} {s : Shared} {K : Frag} {C fI : Addr} {mg mb : Str → Option Value}
theorem eS_cell : ∀ y ∈ eS.names, y.2 ≠ .cell := by decide
theorem eS_loc (a b : Value) : ∀ y ∈ [(("self" : Str), a), (("part" : Str), b)], eS.names.lookup y.1 = some .local := by
  intro y hy
  rcases List.mem_cons.mp hy with e | hy
  · rw [e]
    rfl
  · rw [List.mem_singleton.mp hy]
    rfl
theorem wpAt_mcall {M : Model} {c : Code} {Q : Value → Shared → Prop} {o : Expr} {name : Str} {apos pos : Pos} {args : List Expr} {env : Env} (hline : (apos.endLine == pos.line) = true) (hform : methodCallForm args.length (backTo pos (starEach args env)) [] = true)
    (h : PySem.wpAt M A c (attributeBase o name env (eval o env)) (fun ov s₁ => wpAny M A (getMethod ov name (do return (← importBound o env).getD true)) (fun fx s₂ => wpAny M A (callWith pos fx.1 fx.2 (backTo pos (starEach args env)) []) Q E s₂) E s₁) E s) :
    PySem.wpAt M A c (eval (.Call (.Attribute o name apos) args [] pos) env) Q E s := by
  refine PySem.ks_wpAt_MethodCall (pl := do return (← importBound o env).getD true) h ?_
  rw [arm_eval_Call]
  have e : backToKw pos (keywordEach [] env) = [] := rfl
  rw [e]
  simp only [methodCall, calleeOf, methodCallPos, List.length_nil, Nat.add_zero, hform, hline, if_true, Bool.not_true, Bool.false_or, pure_bind]
theorem err_init (T : ErrTxt prog K C fI) {x t0 : Addr} {v : Value} (X : K.In s.heap) (hlim : s.heap.NoLimit) (hG : s.heap.Ns mainGlobals mg) (hB : s.heap.Ns builtinsNs mb) (hsup : mb "super" = some (.type "super")) (hx : s.heap.get? x = some (excO C t0)) (hnx : K.lookup x = none)
    (hroom : A.depth < recursionLimit) (hq : ∀ h' tk dx, InitEnd s.heap h' x C dx v → R (.ok (.ret .none)) { s with heap := h', toks := tk }) :
    codeAny (model prog w) A (.call (.ref fI) ⟨[.ref x, v], []⟩) R s := by
  obtain ⟨m, qual, j, oc, od, doc, pm, an, cda, cc, ct, osl, p1, p2, a0, a1, a2, a3, a4, a5, q1, q2, q3, q4, ccl, cdd, vs, ccs, file, tf, cl, cld, csl, ho, hcd, hcda, hvs, hfile, hcell, hline⟩ := T.fn
  obtain ⟨nm, q, N, bs, bm, sn, sub, ab, col, dd, k0, k1, k2, k3, k5, hC, hbm, hal⟩ := T.cls
  have hcl : clsIn K C = some { name := nm, bases := bs, mro := .ref C :: bm, ns := N, qualname := q, hasDict := true, slotNames := sn, subclasses := sub, abstract := ab, collection := col, hasDel := false } := by unfold clsIn; rw [hC] <;> rfl
  refine PySem.ks_codeAny_call_defAt (fd := fnX "__init__" qual (eA p1 p2) (eB m j a0 a1 a2 a3 a4 a5 q1 q2 q3 q4) eS [("__class__", cc)] .none .none doc pm an (.ref cda) ct) (body := eB m j a0 a1 a2 a3 a4 a5 q1 q2 q3 q4) (binds := [("self", .ref x), ("part", v)])
    hroom (X _ _ ho) rfl hlim (PySem.W.codeRec_of X hcd) rfl (BindsTo.of_eq (by first | rfl | with_unfolding_all rfl)) eS_cell (eS_loc _ _) (fun h₁ hns k => ?_) rfl rfl rfl
  have X₁ : K.In h₁ := X.keeps k
  have hx₁ := k _ _ hx
  have xC : x ≠ C := fun z => by
    rw [z, hC] at hnx
    cases hnx
  have hxL : s.heap.objs.size ≠ x := Nat.ne_of_gt (Heap.lt_size hx)
  obtain ⟨hp0, g, dr, tk, os⟩ := s
  have I₁ : InstAt h₁ x (excO C t0) C none := ⟨hx₁, rfl, rfl, trivial⟩
  refine PySem.ks_wpAt_execs_cons (PySem.ks_wpAt_Expr_any (wpAt_mcall hline rfl ?_) rfl rfl)
  refine PySem.ks_wpAt_super_base (f := fI) (cc := cda) rfl rfl (by decide) rfl (X₁ _ _ ho) rfl rfl rfl (X₁ _ _ hcda) rfl hvs hfile T.top ?_
  refine PySem.W.ks_loadName_global rfl rfl (loadGlobal_builtin (mg := mg) (mb := mb) (hG.keeps k) ?_ (hB.keeps k) hsup ⟨rfl, ?_⟩)
  · exact PySem.W.mg_none_of X hG T.sup
  refine wpAny_loadName_free rfl rfl rfl ⟨_, X₁ _ _ hcell, rfl⟩ ?_
  refine wpAny_loadName_local rfl rfl hns (by first | rfl | with_unfolding_all rfl) ?_
  refine PySem.ks_wpAny_isType_cls (X₁ _ _ hC) rfl ⟨rfl, ?_⟩
  refine PySem.ks_wpAny_call_super (X₁ _ _ hC) rfl hx₁ rfl (fun c z => by cases z) (PySem.W.looks_mroIn X₁ T.self) (fun h₂ hso k₂ => ?_)
  have X₂ : K.In h₂ := X₁.keeps k₂
  have hx₂ := k₂ _ _ hx₁
  have I₂ : InstAt h₂ x (excO C t0) C none := ⟨hx₂, rfl, rfl, trivial⟩
  refine PySem.W.kxs_getMethod PySem.W.kxs_ValueError (l₀ := .ref C :: bm) hso (PySem.W.looks_opaque X₂ T.opq) (fun A Q E s kk q => wpAny_bind ((PySem.W.looks_clsIn X₂ hcl) A _ E s kk (wpAny_pure q))) rfl X₂ hal
    (I₂.type.andThen (PySem.W.looks_subIn X₂ T.veC)) xC (by decide) ?_
  refine PySem.W.kxs_callWith (i := "ValueError.__init__") (x := x) rfl (evalArgs_plain ?_)
  refine Calls.spliced_cons ?_
  show wpAny _ _ (eval (.Constant (.str m) j a3) _) _ _ _
  refine Calls.Constant_str (Calls.spliced_nil ⟨Heap.get?_push_at rfl rfl, ?_⟩)
  have hx₃ : (h₂.push (PySem.W.kxs_mw "ValueError.__init__" x)).get? x = some (excO C t0) := Heap.get?_push_of_some _ hx₂
  have hC₃ := X₂.keeps (h' := h₂.push (PySem.W.kxs_mw "ValueError.__init__" x)) (fun b o e => Heap.get?_push_of_some _ e) _ _ hC
  refine wpAny_call (codeAny_of_tree ?_)
  show wpAny _ (A.deeper _).in1 (callAny (.ref h₂.objs.size) ⟨[.str m _], []⟩) _ _ _
  simp only [callAny]
  refine wpAny_bind (wpAny_load (Heap.get?_push_at rfl rfl) ?_)
  have isW : (Value.type "method-wrapper" == Value.type "method" || Value.type "method-wrapper" == Value.type "builtin_function_or_method" || Value.type "method-wrapper" == Value.type "method-wrapper") = true := by decide
  simp only [PySem.W.kxs_mw, isW, if_true]
  refine PySem.W.KFB.if_so (by decide) ?_
  refine wpAny_bind (PySem.W.check_bound_init F.excBase_ValueError.toExcCallFacts hC₃ hx₃ rfl ?_)
  refine wpAny_bind (wpAny_pure (wpAny_pure ?_))
  refine ⟨plainId_quiet F.excBase_ValueError.init.plain _, codeAny_builtin F.excBase_ValueError.initEntry ?_⟩
  refine PySem.W.exc_init_tree (cls := .ref C) (t0 := t0) (dv := none) (c2 := .none) (c3 := .none) (b4 := .bool false) hx₃ (by show 1 ≤ sizeLine; decide) (fun h₄ k₄ hx₄ _ => ?_)
  have old : ∀ b o, b ≠ x → hp0.get? b = some o → h₄.get? b = some o := fun b o hb e => k₄ b o hb (Heap.get?_push_of_some _ (k₂ b o (k b o e)))
  have X₄ : K.In h₄ := fun a o e => old a o (fun z => by
    rw [z, hnx] at e
    cases e) (X a o e)
  have hns₄ : h₄.Ns hp0.objs.size (fun y => [(("self" : Str), Value.ref x), (("part" : Str), v)].reverse.lookup y) := by
    obtain ⟨oL, es, ep, hL, r⟩ := hns
    exact ⟨oL, es, ep, k₄ _ _ hxL (Heap.get?_push_of_some _ (k₂ _ _ hL)), r⟩
  refine PySem.wpAt_of_wpAny ?_
  show wpAny _ _ (execs [.Assign [.Attribute (.Name "self" q1) "part" q2] (.Name "part" q3) q4] _) _ _ _
  refine wpAny_execs_cons (plainObj_wpAny_Assign_Attribute ?_)
  refine wpAny_Name (wpAny_loadName_local rfl rfl hns₄ (v := v) (by first | rfl | with_unfolding_all rfl) ?_) (by decide)
  refine wpAny_Name (wpAny_loadName_local rfl rfl hns₄ (v := .ref x) (by first | rfl | with_unfolding_all rfl) ?_) (by decide)
  refine PySem.W.set_plain X₄ (ox := excO C (h₂.push (PySem.W.kxs_mw "ValueError.__init__" x)).objs.size) (od := none) ⟨hx₄, rfl, rfl, trivial⟩ T.sa ?_
  refine exc_osa X₄ hx₄ hcl (show refsVE (.ref C :: bm) = true from hbm) rfl T.noN (fun h₅ tk₅ dx k₅ dn dne hx₅ hn₅ => ?_)
  show wpAny _ _ (execs [] _) _ _ _
  refine wpAny_execs_nil (hq h₅ tk₅ dx ⟨fun b o hb e => k₅ b o hb (old b o hb e), ⟨_, hx₅⟩, ?_, dne, hn₅⟩)
  have z4 : hp0.objs.size < h₄.objs.size := hns₄.lt
  exact Nat.le_of_lt (Nat.lt_of_lt_of_le z4 dn)
/-- a made error -/
structure OwnMade (h h' : Heap) (e C d : Addr) (v : Value) : Prop where
  keep : ∀ b o, h.get? b = some o → h'.get? b = some o
  new : h.objs.size ≤ e
  obj : ∃ oe vs, h'.get? e = some oe ∧ oe.cls = .ref C ∧ oe.dict = some d ∧ oe.data = .fields vs ∧ vs[1]? = some .none
  dbig : h.objs.size ≤ d
  dne : d ≠ e
  ns : h'.Ns1 d (fun y => if y = "part" then some v else none)
theorem err_made (T : ErrTxt prog K C fI) {v : Value} (X : K.In s.heap) (hlim : s.heap.NoLimit) (hG : s.heap.Ns mainGlobals mg) (hB : s.heap.Ns builtinsNs mb) (hsup : mb "super" = some (.type "super")) (hroom : A.depth + 1 < recursionLimit)
    (hq : ∀ h' tk e d, OwnMade s.heap h' e C d v → R (.ok (.ret (.ref e))) { s with heap := h', toks := tk }) : codeAny (model prog w) A (.call (.ref C) ⟨[v], []⟩) R s := by
  obtain ⟨nm, q, N, bs, bm, sn, sub, ab, col, dd, k0, k1, k2, k3, k5, hC, hbm, _⟩ := T.cls
  obtain ⟨hp, g, dr, tk, os⟩ := s
  have k : ∀ b o, hp.get? b = some o → ((hp.push (PySem.W.kdv_tup [v])).push (excO C hp.objs.size)).get? b = some o := fun b o e => Heap.get?_push_of_some _ (Heap.get?_push_of_some _ e)
  have hget : ((hp.push (PySem.W.kdv_tup [v])).push (excO C hp.objs.size)).get? (hp.objs.size + 1) = some (excO C hp.objs.size) := by heap_get
  have hnx : K.lookup (hp.objs.size + 1) = none := by
    cases e : K.lookup (hp.objs.size + 1) with
    | none => rfl
    | some o =>
      have z : hp.get? (hp.objs.size + 1) = some o := X _ _ e
      exact absurd (Nat.lt_of_succ_lt (Heap.lt_size z)) (Nat.lt_irrefl _)
  refine call_own F.excBase_ValueError (fun Y => refsVE_contains Y bm hbm) (X _ _ hC) (PySem.W.looks_findIn X T.iC) (fun self => PySem.W.bind_fn X self T.tC) (by show 1 ≤ sizeLine; decide) ?_
  refine err_init (s := ⟨(hp.push (PySem.W.kdv_tup [v])).push (excO C hp.objs.size), g, dr, tk, os⟩) T (X.keeps k) (hlim.keeps k) (hG.keeps k) (hB.keeps k) hsup hget hnx ?_ fun h' tk' dx ie => ?_
  · show A.depth + 1 < recursionLimit
    exact hroom
  · obtain ⟨t1, hx⟩ := ie.obj
    have old : ∀ b o, hp.get? b = some o → h'.get? b = some o := fun b o e => ie.keep b o (Nat.ne_of_lt (Nat.lt_succ_of_lt (Heap.lt_size e))) (k b o e)
    have z : hp.objs.size + 1 + 1 ≤ dx := by
      have q := ie.dbig
      rw [Heap.size_push, Heap.size_push] at q
      exact q
    exact ⟨rfl, hq h' tk' (hp.objs.size + 1) dx ⟨old, Nat.le_succ _, ⟨_, _, hx, rfl, rfl, rfl, rfl⟩, (by show hp.objs.size ≤ dx; omega), ie.dne, ie.ns⟩⟩
end
end Dn
namespace Dn
open PySem PySem.Spec PyProof.Rows L2
theorem relO_part {v : V} {v' : Value} (r : L2.RelV v v') (f : Str) : L2.RelO (List.lookup f [(("part" : Str), v)]) (if f = "part" then some v' else none) := by
  by_cases hw : f = "part"
  · rw [if_pos hw, hw]
    have q : List.lookup ("part" : Str) [(("part" : Str), v)] = some v := by simp [List.lookup]
    rw [q]
    exact r
  · rw [if_neg hw]
    have qw : (f == ("part" : Str)) = false := by simpa using hw
    have q : List.lookup f [(("part" : Str), v)] = none := by simp [List.lookup, qw]
    rw [q]
    exact True.intro
section
variable {X : Cx} {C fI : Addr} {c : Cg}
/-- X(e) -/
def tMkErr (C : Addr) (te : TE) : L2.St → Hp → L2.XK → Prop := fun σ H Q => te σ H fun v H1 => ∀ d, H1 d = none → Q (.ref C) (some d) (upd H1 d (.xd [(("part" : Str), v)]))
theorem pmk_err {x : Str} {a : Expr} {te : TE} {p pos : Pos} {k : Nat} (T : ErrTxt X.prog X.K C fI) (hm : X.mg x = some (.ref C)) (hr : Room k X.A) (ha : PE X a te) (hg : Gl X x) (hd : (x == ("__debug__" : Str)) = false := by decide)
    (he : starEach [a] X.env = (false, eval a X.env) :: starEach [] X.env := by rfl) : PMk X (.Call (.Name x p) [a] [] pos) (tMkErr C te) := by
  intro pins s σ H Q I h
  refine wpAny_Call_Name_kw (ld_glob I hg hm ?_ hd)
  refine PySem.W.callWith_K (h₀ := X.base) I.ok.mod.kin T.kC ?_ he rfl
  rw [he]
  show wpAny _ _ (spliced ((false, eval a X.env) :: backTo pos (starEach [] X.env))) _ _ s
  refine Calls.spliced_cons (thn (ha.run pins s σ H _ I h) fun v' s1 ⟨v, H1, I1, rv, q1⟩ => ?_)
  refine Calls.spliced_nil ⟨I1.kIn, ?_⟩
  show wpAny _ _ (call (.ref C) [v']) _ _ _
  have hlim := I1.nolimit
  obtain ⟨mb, hb1, hb2⟩ := I1.mod.blt
  have hG := I1.mod.glob.keeps I1.bk
  have hB := hb1.keeps I1.bk
  obtain ⟨hp, g, dr, tk, os⟩ := s1
  refine wpAny_call (err_made T I1.kIn hlim hG hB ((hb2 "super" (by decide)).trans (by kernel_rfl)) (by have := hr.dp; omega) fun h' tk' e d M => ?_)
  show MkP X pins σ Q (.ref e) ⟨h', g, dr, tk', os⟩
  obtain ⟨oe, fv, hoe, hc, hd, hdat, h1⟩ := M.obj
  have hns := M.ns
  obtain ⟨G', g1, g2⟩ := restrict h' fun b => decide (b ≠ e)
  have gk : ∀ b, b ≠ e → G'.get? b = h'.get? b := fun b hb => g1 b (decide_eq_true hb)
  have ge : G'.get? e = none := g2 e (by simp)
  have old : ∀ b o, hp.get? b = some o → G'.get? b = some o := fun b o q => (gk b (Nat.ne_of_lt (Nat.lt_of_lt_of_le (Heap.lt_size q) M.new))).trans (M.keep b o q)
  have ob : ObjOk X.prog X.w (upd H1 d (.xd [(("part" : Str), v)])) G' d (.xd [(("part" : Str), v)]) := ⟨_, hns.at (fun o q => (gk d M.dne).trans q), fun f => relO_part rv f⟩
  have J : L2.Inv X pins σ (upd H1 d (.xd [(("part" : Str), v)])) ⟨G', g, dr, tk', os⟩ := I1.laid (t' := tk') old M.dbig ob
  refine ⟨e, oe, fv, ⟨G', g, dr, tk', os⟩, _, .ref C, some d, rfl, J, fun b o q => ?_, ge, hoe, ⟨hc, hd⟩, hdat, h1, ?_, rfl, I1.bare, raises_own T.exC T.tyC, q1 d (I1.hok.fresh M.dbig)⟩
  · by_cases hb : b = e
    · have q' : G'.get? b = some o := q
      rw [hb, ge] at q'
      cases q'
    · exact (gk b hb).symm.trans q
  · rw [upd_ne (Ne.symm M.dne)]
    exact I1.hok.fresh M.new
/-- raise X(e) -/
def raiseM (C : Addr) (me : M D) : M Fl := bind me fun d ρ => .err ⟨C, ["part"], [d]⟩ ρ
theorem pds_raise {x : Str} {a : Expr} {me : M D} {p pos pos2 : Pos} {k : Nat} (T : ErrTxt X.prog X.K C fI) (hm : X.mg x = some (.ref C)) (hr : Room k X.A) (tk : Takes X c.W) (ha : PE X a (tD X.K c me)) (hc : X.calm = true := by rfl) (hg : Gl X x := by rfl) (hd : (x == ("__debug__" : Str)) = false := by decide)
    (he : starEach [a] X.env = (false, eval a X.env) :: starEach [] X.env := by rfl) : PS X (.Raise (some (.Call (.Name x p) [a] [] pos)) none pos2) (tS X.K c (raiseM C me)) :=
  PS_imp (ps_raise hc tk (pmk_err T hm hr ha hg hd he)) fun De σ H h => by
    obtain ⟨B, G, ρ, r, h⟩ := h
    refine ⟨B, G, ρ, r, (SPost.bind (σ := σ) h).imp fun d ρ1 G1 H1 s1 r1 h1 v rv dd hdd => ?_⟩
    have g := Grow.new (o := .xd [(("part" : Str), v)]) r1.sub hdd
    exact h1 σ (some dd) _ _ g.gg (r1.grow g) ⟨dd, _, rfl, upd_same, rfl, .one (rv.mono g.gg)⟩
end
end Dn

set_option Elab.async false
set_option linter.all false
set_option maxRecDepth 100000
set_option maxHeartbeats 4000000
/-! Dn15: try with several clauses 'except X as n', by data. -/
namespace Dn
open PySem PySem.Spec PyProof.Rows L2
/-- behind a suite the name is gone -/
abbrev gone (i : Nat) (De : Ends) : Ends := { nx := fun σ' H' => De.nx (σ'.set i none) H', rt := De.rt, bk := fun σ' H' => De.bk (σ'.set i none) H', ct := fun σ' H' => De.ct (σ'.set i none) H' }
abbrev Sui := Addr → Value → Option Addr → TS
def wAss (K : PySem.W.Frag) (Wout : WX) (i : Nat) (De : Ends) : List (Value × Sui) → WX
  | [] => Wout
  | (c, ts) :: r => fun cls d σ H => ∃ b, PySem.W.exmOne K cls c = some b ∧ (b = true → ∀ a, H a = none → ts a cls d (gone i De) (σ.set i (some (.ref a))) H) ∧ (b = false → wAss K Wout i De r cls d σ H)
inductive HdsAs (X : Cx) (n : Str) : List ExceptHandler → List (Value × Sui) → Prop
  | nil : HdsAs X n [] []
  | cons {x : Str} {c : Value} {ts : Sui} {b₀ : Stmt} {suite : List Stmt} {np pos' : Pos} {hds : List ExceptHandler} {l : List (Value × Sui)} (hc : Names X x c)
      (hsu : ∀ (a : Addr) (oe : Obj) (cls : Value) (d : Option Addr) (pn : List (Addr × Obj)), Zc cls d oe → (∃ vs, oe.data = .fields vs) → PSs (X.suite a ((a, oe) :: pn)) (b₀ :: suite) (ts a cls d)) (r : HdsAs X n hds l) :
      HdsAs X n (.ExceptHandler (some (.Name x np)) (some n) (b₀ :: suite) pos' :: hds) ((c, ts) :: l)
section
variable {X : Cx} {n : Str} {i : Nat} {body : List Stmt} {h₀ : ExceptHandler} {hds : List ExceptHandler} {l : List (Value × Sui)} {pos : Pos} {tb : WX → TS} {Wout : WX}
theorem ps_try_ass (hs : X.stack = X.env :: X.outer) (hf : X.env.frame = some X.env.locals) (hN : X.N.Nodup) (hi : X.N[i]? = some n) (hln : X.env.kindOf n = some .local) (tk : Takes X Wout)
    (hb : ∀ (W : WX) (pn : List (Addr × Obj)) (xe : Value → Shared → Prop), Takes (X.tr pn xe) W → PassesOwn (model X.prog X.w) X.A X.env xe → PSs (X.tr pn xe) body (tb W)) (hh : HdsAs X n (h₀ :: hds) l) :
    PS X (.Try body (h₀ :: hds) [] [] pos) (fun De σ H => tb (wAss X.K Wout i De l) De σ H) := ⟨fun pins s σ H De I h => by
  have ok := I.ok
  have frames : X.A.frames = some (X.env :: X.outer) := ok.frames.trans (congrArg some hs)
  refine wpAny_Try_except ?_
  refine wpAny_mono ((hb (wAss X.K Wout i De l) (X.pn ++ pins) (fun e s₁ => wpAny (model X.prog X.w) X.A (noteFrame e X.env) (fun _ s₂ => wpAny (model X.prog X.w) X.A (setFlight e none) (fun _ s₃ =>
    wpAny (model X.prog X.w) X.A (handleBy e X.env (h₀ :: hds)) (SP X pins De) X.xe s₃) X.xe s₂) X.xe s₁) (fun u s' xx => ?_) PassesOwn.looking).run [] s σ H De (I.toTry _) h) (fun f s1 hsp => ?_) (fun e s1 he => he)
  · obtain ⟨a, B, sI, pins', σ', H', cls, d, rfl, J', nb, up, sky, na, os, ag, w⟩ := xx
    have J : L2.Inv X pins σ' H' sI := J'.ofTry ok
    show wpAny (model X.prog X.w) X.A (noteFrame (.ref a) X.env) _ _ _
    refine Sky.land Zc.steady frames hf (hs ▸ sky) fun h3 fl3 up3 => ?_
    have J3 : L2.Inv X pins σ' H' { s' with heap := h3 } := J.landed nb fl3.1 (up.trans up3) os ag
    obtain ⟨oe3, vs3, he3, hz3, hd3⟩ := fl3.there
    have away : a ∉ frs (X.env :: X.outer) := fun hm => by
      obtain ⟨_, o', e', hnf⟩ := fl3.2.2.1.mem hm
      rw [he3] at e'
      cases e'
      exact hnf _ hd3
    have nL : a ≠ X.env.locals := fun z => away (List.mem_filterMap.mpr ⟨X.env, List.mem_cons_self, by rw [hf, z]⟩)
    have nF : a ∉ X.fs := fun hm => by
      obtain ⟨e, he, q⟩ := List.mem_filterMap.mp hm
      exact away (List.mem_filterMap.mpr ⟨e, List.mem_cons_of_mem _ he, q⟩)
    have S3 := J3.suite he3 hd3 na nL nF
    have go : ∀ {hds' : List ExceptHandler} {l' : List (Value × Sui)}, HdsAs X n hds' l' → wAss X.K Wout i De l' cls d σ' H' → wpAny (model X.prog X.w) X.A (handleBy (.ref a) X.env hds') (SP X pins De) X.xe { s' with heap := h3 } := by
      intro hds' l' hk
      induction hk with
      | nil =>
        intro w
        refine wpAny_handleBy_nil ?_
        obtain ⟨k1, k2, k3, oe, vs, T, oT, ts', he, hz, hd, h1, hr⟩ := id fl3
        unfold PySem.passOn
        refine wpAny_bind (wpAny_field he hd h1 ?_)
        rw [if_neg (show ¬ ((Value.ref T == Value.none) = true) from by simp)]
        have out : wpAny (model X.prog X.w) X.A (setFlight (.ref a) X.env.frame) (fun _ s4 => wpAny (model X.prog X.w) X.A (throw (.ref a) : Sem Flow) (SP X pins De) X.xe s4) X.xe { s' with heap := h3 } := by
          rw [hf]
          refine HandSPX.setFlight_upZ fl3 fun h4 hh4 up4 => wpAny_throw (tk _ _ ⟨a, B, sI, pins, σ', H', cls, d, rfl, J, nb, (up.trans up3).trans up4, .inr (.inr (hs.symm ▸ hh4)), na, os, ag, w⟩)
        first
          | exact wpAny_bind (wpAny_pure (wpAny_bind out))
          | exact wpAny_bind out
      | @cons x c ts b₀ suite np pos' hds2 l2 hc hsu r ih =>
        intro w
        obtain ⟨b, hb1, hyes, hno⟩ := w
        refine wpAny_handleBy_cons (codeAny_handlers_test ?_) (by intro q; cases q)
        have LT : PySem.W.Looks (model X.prog X.w) h3 (typeOf (.ref a)) cls := fun A Q E s k q => wpAny_typeOf_ref (k _ _ he3) (by rw [hz3.1]; exact q)
        have LM := PySem.W.exm_one (M := model X.prog X.w) (J3.kIn) LT hb1
        have look : ∀ {Q : Value → Shared → Prop} {E : Value → Shared → Prop}, Q c { s' with heap := h3 } → wpAny (model X.prog X.w) (X.A.mark (some (.ref a))) (eval (.Name x np) X.env) Q E { s' with heap := h3 } := by
          intro Q E q
          obtain ⟨hg, hdb, hm⟩ := hc
          rcases hm with hm | ⟨hm, hv, hnn⟩
          · exact ld_glob (X := X.suite a ((a, oe3) :: (X.pn ++ pins))) S3 hg hm q hdb
          · exact ld_blt (X := X.suite a ((a, oe3) :: (X.pn ++ pins))) S3 hg hm hv q hnn hdb
        refine look (LM.here ?_)
        cases b with
        | true =>
          refine codeAny_handlers_suite_as ?_
          refine HandSPX.lands_againZ fl3 fun h4 fl4 up4 => ?_
          have J4 : L2.Inv X pins σ' H' { s' with heap := h4 } := J.landed nb fl4.1 ((up.trans up3).trans up4) os ag
          obtain ⟨oe4, vs4, he4, hz4, hd4⟩ := fl4.there
          have S4 := J4.suite he4 hd4 na nL nF
          refine store_ok (X := X.suite a ((a, oe4) :: (X.pn ++ pins))) (v := .ref a) S4 hN hi (.inl hln) rfl (fun s5 S5 => ?_) (.inr hln)
          refine wpAny_mono ((hsu a oe4 cls d (X.pn ++ pins) hz4 ⟨_, hd4⟩).run [] s5 _ H' _ S5 (hyes rfl a na)) (fun f s6 hsp => ?_) (fun _ _ z => False.elim z)
          have over : ∀ {σ6 : L2.St} {H6 : Hp} {Q : Shared → Prop}, L2.Inv (X.suite a ((a, oe4) :: (X.pn ++ pins))) [] σ6 H6 s6 → (∀ s7, L2.Inv X pins (σ6.set i none) H6 s7 → Q s7) →
              wpAny (model X.prog X.w) X.A (do bindName X.env n .none; unbindBehindTheSuite X.env n pos') (fun _ s7 => Q s7) X.xe s6 := fun S6 hq => gone_ok (S6.unsuite ok) hN hi hln hq
          cases f with
          | ret u =>
            obtain ⟨v6, σ6, H6, S6, r6, q6⟩ := hsp
            exact over S6 fun s7 J7 => ⟨_, _, _, J7, r6, q6⟩
          | next =>
            obtain ⟨σ6, H6, S6, q6⟩ := hsp
            exact over S6 fun s7 J7 => ⟨_, _, J7, q6⟩
          | brk =>
            obtain ⟨σ6, H6, S6, q6⟩ := hsp
            exact over S6 fun s7 J7 => ⟨_, _, J7, q6⟩
          | cont =>
            obtain ⟨σ6, H6, S6, q6⟩ := hsp
            exact over S6 fun s7 J7 => ⟨_, _, J7, q6⟩
        | false =>
          show wpAny _ X.A (handleBy (.ref a) X.env hds2) _ _ _
          exact ih (hno rfl)
    exact go hh w
  · cases f with
    | ret u =>
      obtain ⟨v, σ', H', J', r, q⟩ := hsp
      exact ⟨v, σ', H', J'.ofTry ok, r, q⟩
    | next =>
      obtain ⟨σ', H', J', q⟩ := hsp
      exact wpAny_execs_nil ⟨σ', H', J'.ofTry ok, q⟩
    | brk =>
      obtain ⟨σ', H', J', q⟩ := hsp
      exact ⟨σ', H', J'.ofTry ok, q⟩
    | cont =>
      obtain ⟨σ', H', J', q⟩ := hsp
      exact ⟨σ', H', J'.ofTry ok, q⟩⟩
end
/-! ### by data -/
/-- a clause: the class that it names, the classes known not to be caught by it, the suite -/
structure Cl where
  C : Addr
  no : List Addr
  ms : Exn → M Fl
def unM (i : Nat) : Rs Fl → Rs Fl
  | .ok f ρ => .ok f (ρ.set i none)
  | _ => .no
def hdl (i : Nat) (x : Exn) : List Cl → M Fl
  | [], ρ => .err x ρ
  | c :: r, ρ => if x.cls = c.C then (match ρ[i]? with
    | some (some (.own _)) => .no
    | none => .no
    | _ => unM i (c.ms x (ρ.set i none))) else if x.cls ∈ c.no then hdl i x r ρ else .no
def tryM (mb : M Fl) (i : Nat) (cs : List Cl) : M Fl := fun ρ => match mb ρ with
  | .err x ρ' => hdl i x cs ρ'
  | r => r
/-- the slot of the name holds the error while the suite runs -/
def pinX (l : List (Option V)) (i : Nat) (v : V) : List (Option V) := (l ++ List.replicate (i + 1 - l.length) none).set i (some v)
theorem pinX_at {l : List (Option V)} {i j : Nat} {v w : V} (h : (pinX l i v)[j]? = some (some w)) : (j = i ∧ w = v) ∨ (j ≠ i ∧ l[j]? = some (some w)) := by
  unfold pinX at h
  by_cases hj : i = j
  · subst hj
    rw [List.getElem?_set_self (by simp; omega)] at h
    cases h
    exact .inl ⟨rfl, rfl⟩
  · rw [List.getElem?_set_ne hj] at h
    refine .inr ⟨fun z => hj z.symm, ?_⟩
    by_cases hl : j < l.length
    · rw [List.getElem?_append_left hl] at h
      exact h
    · rw [List.getElem?_append_right (by omega), List.getElem?_replicate] at h
      split at h <;> cases h
abbrev Cg.sui (c : Cg) (G : Hp) (i : Nat) (a : Addr) : Cg := ⟨G, pinX c.Pn i (.ref a), fun _ _ _ _ => False⟩
theorem Rl.intoSuite {K : PySem.W.Frag} {c : Cg} {B G H : Hp} {σ : L2.St} {ρ : Rho} {i : Nat} {a : Addr} (r : Rl K c B G H σ ρ) (hp : npin c i = true) (hl : i < σ.length) (no : ∀ o, ρ[i]? ≠ some (some (.own o))) : Rl K (c.sui G i a) B G H (σ.set i (some (.ref a))) (ρ.set i none) where
  sub := r.sub
  base := r.base
  ext := .refl G
  fresh := fun x h => .inl h
  len := by rw [List.length_set, List.length_set]; exact r.len
  slots := fun j s e => by
    by_cases hj : i = j
    · subst hj
      rw [List.getElem?_set_self (by rw [r.len]; exact hl)] at e
      cases e
    · rw [List.getElem?_set_ne hj] at e
      obtain ⟨v, h1, h2⟩ := r.slots j s e
      exact ⟨v, by rw [List.getElem?_set_ne hj]; exact h1, h2⟩
  dist := fun j k o o' v hjk h1 h2 h3 h4 => by
    have nj : i ≠ j := fun z => by
      subst z
      rw [List.getElem?_set_self (by rw [r.len]; exact hl)] at h1
      cases h1
    have nk : i ≠ k := fun z => by
      subst z
      rw [List.getElem?_set_self (by rw [r.len]; exact hl)] at h2
      cases h2
    rw [List.getElem?_set_ne nj] at h1 h3
    rw [List.getElem?_set_ne nk] at h2 h4
    exact r.dist j k o o' v hjk h1 h2 h3 h4
  pin := fun j v e => by
    rcases pinX_at e with ⟨rfl, rfl⟩ | ⟨nj, e⟩
    · rw [List.getElem?_set_self hl]
    · rw [List.getElem?_set_ne (fun z => nj z.symm)]
      exact r.pin j v e
theorem Rl.outOfSuite {K : PySem.W.Frag} {c : Cg} {B G0 H0 G H : Hp} {σ0 σ : L2.St} {ρ0 ρ : Rho} {i : Nat} {a : Addr} (r0 : Rl K c B G0 H0 σ0 ρ0) (r : Rl K (c.sui G0 i a) B G H σ ρ) (hp : npin c i = true) : Rl K c B G H (σ.set i none) (ρ.set i none) where
  sub := r.sub
  base := r.base
  ext := r0.ext.trans r.ext
  fresh := fun x h => by
    rcases r.fresh x h with z | z
    · exact r0.fresh x z
    · exact .inr z
  len := by rw [List.length_set, List.length_set]; exact r.len
  slots := fun j s e => by
    by_cases hj : i = j
    · subst hj
      by_cases hl : i < ρ.length
      · rw [List.getElem?_set_self hl] at e
        cases e
      · rw [List.getElem?_eq_none (by rw [List.length_set]; omega)] at e
        cases e
    · rw [List.getElem?_set_ne hj] at e
      obtain ⟨v, h1, h2⟩ := r.slots j s e
      exact ⟨v, by rw [List.getElem?_set_ne hj]; exact h1, h2⟩
  dist := fun j k o o' v hjk h1 h2 h3 h4 => by
    have key : ∀ {q : Nat} {o2 : OO}, (ρ.set i none)[q]? = some (some (.own o2)) → i ≠ q := fun {q o2} e z => by
      subst z
      by_cases hl : i < ρ.length
      · rw [List.getElem?_set_self hl] at e
        cases e
      · rw [List.getElem?_eq_none (by rw [List.length_set]; omega)] at e
        cases e
    have nj := key h1
    have nk := key h2
    rw [List.getElem?_set_ne nj] at h1 h3
    rw [List.getElem?_set_ne nk] at h2 h4
    exact r.dist j k o o' v hjk h1 h2 h3 h4
  pin := fun j v e => by
    have nj : i ≠ j := fun z => by
      subst z
      exact npin_ok hp v e
    rw [List.getElem?_set_ne nj]
    refine r.pin j v ?_
    show (pinX c.Pn i (.ref a))[j]? = some (some v)
    unfold pinX
    have hj : j < c.Pn.length := (List.getElem?_eq_some_iff.mp e).1
    rw [List.getElem?_set_ne nj, List.getElem?_append_left hj]
    exact e
/-- what a suite is read by -/
def tE (K : PySem.W.Frag) (c : Cg) (i : Nat) (q : Cl) : Sui := fun a cls d De σ H => ∃ (x : Exn) (B G0 H0 : Hp) (σ0 : L2.St) (ρ0 : Rho), cls = .ref x.cls ∧ x.cls = q.C ∧ XRep K G0 H0 x d ∧ Rl K c B G0 H0 σ0 ρ0 ∧ tS K (c.sui G0 i a) (q.ms x) De σ H
structure ClOk (K : PySem.W.Frag) (q : Cl) : Prop where
  yes : PySem.W.exmOne K (.ref q.C) (.ref q.C) = some true
  no : ∀ A ∈ q.no, PySem.W.exmOne K (.ref A) (.ref q.C) = some false
section
variable {X : Cx} {c : Cg} {n : Str} {i : Nat} {body : List Stmt} {h₀ : ExceptHandler} {hds : List ExceptHandler} {pos : Pos} {mb : M Fl}
theorem hdl_read {K : PySem.W.Frag} {De : Ends} {B G H : Hp} {σ : L2.St} {x : Exn} {dx : Option Addr} (hp : npin c i = true) : ∀ {cs : List Cl} {ρ : Rho}, (∀ q ∈ cs, ClOk K q) → Rl K c B G H σ ρ → XRep K G H x dx → SPost K c B G De (hdl i x cs ρ) →
    wAss K c.W i De (cs.map fun q => (.ref q.C, tE K c i q)) (.ref x.cls) dx σ H
  | [], ρ, _, r, xr, h => h σ dx G H (.refl G) r xr
  | q :: cs, ρ, ok, r, xr, h => by
    unfold hdl at h
    by_cases hq : x.cls = q.C
    · rw [if_pos hq] at h
      refine ⟨true, by rw [hq]; exact (ok q List.mem_cons_self).yes, fun _ a ha => ?_, fun z => nomatch z⟩
      have no : ∀ o, ρ[i]? ≠ some (some (.own o)) := fun o z => by
        rw [z] at h
        exact h
      have h2 : SPost K c B G De (unM i (q.ms x (ρ.set i none))) := by
        split at h
        · exact h.elim
        · exact h.elim
        · exact h
      have hl : i < σ.length := by
        rw [← r.len]
        cases e : ρ[i]? with
        | none =>
          rw [e] at h
          exact h.elim
        | some s => exact (List.getElem?_eq_some_iff.mp e).1
      refine ⟨x, B, G, H, σ, ρ, rfl, hq, xr, r, B, G, ρ.set i none, r.intoSuite hp hl no, ?_⟩
      cases e : q.ms x (ρ.set i none) with
      | no => rw [e] at h2; exact h2.elim
      | err y ρ' => rw [e] at h2; exact h2.elim
      | ok f ρ' =>
        rw [e] at h2
        cases f with
        | nx => exact fun σ' G' H' s r' => h2 _ G' H' s (r.outOfSuite r' hp)
        | bk => exact fun σ' G' H' s r' => h2 _ G' H' s (r.outOfSuite r' hp)
        | ct => exact fun σ' G' H' s r' => h2 _ G' H' s (r.outOfSuite r' hp)
        | rt d => exact fun σ' G' H' v s r' rv => h2 _ G' H' v s (r.outOfSuite r' hp) rv
        | rn o => 
          intro σ' G' H' p s r' nw ro
          refine h2 _ G' H' p s (r.outOfSuite r' hp) ⟨nw.1, nw.2.1, fun j o' e z => ?_⟩ ro
          have nj : i ≠ j := fun w => by
            subst w
            by_cases hl2 : i < ρ'.length
            · rw [List.getElem?_set_self hl2] at e
              cases e
            · rw [List.getElem?_eq_none (by rw [List.length_set]; omega)] at e
              cases e
          rw [List.getElem?_set_ne nj] at e z
          exact nw.2.2 j o' e z
    · rw [if_neg hq] at h
      by_cases hn : x.cls ∈ q.no
      · rw [if_pos hn] at h
        exact ⟨false, (ok q List.mem_cons_self).no _ hn, fun z => (nomatch z), fun _ => hdl_read hp (fun q' m => ok q' (List.mem_cons_of_mem _ m)) r xr h⟩
      · rw [if_neg hn] at h
        exact h.elim
theorem pds_try {cs : List Cl} (hf : X.env.frame = some X.env.locals) (hs : X.stack = X.env :: X.outer) (hN : X.N.Nodup) (hi : X.N[i]? = some n) (hln : X.env.kindOf n = some .local) (hp : npin c i = true) (tk : Takes X c.W) (ok : ∀ q ∈ cs, ClOk X.K q)
    (hb : ∀ (W : WX) (pn : List (Addr × Obj)) (xe : Value → Shared → Prop), Takes (X.tr pn xe) W → PassesOwn (model X.prog X.w) X.A X.env xe → PSs (X.tr pn xe) body (tS X.K { c with W := W } mb))
    (hh : HdsAs X n (h₀ :: hds) (cs.map fun q => (.ref q.C, tE X.K c i q))) : PS X (.Try body (h₀ :: hds) [] [] pos) (tS X.K c (tryM mb i cs)) := ⟨fun pins s σ H De I h => by
  have hl : i < X.N.length := (List.getElem?_eq_some_iff.mp hi).1
  refine (ps_try_ass hs hf hN hi hln tk hb hh).run pins s σ H De I ?_
  obtain ⟨B, G, ρ, r, h⟩ := h
  refine ⟨B, G, ρ, r.nox, ?_⟩
  unfold tryM at h
  cases e : mb ρ with
  | no => rw [e] at h; exact h.elim
  | ok f ρ' =>
    rw [e] at h
    cases f with
    | nx => exact fun σ' G' H' s r' => h σ' G' H' s r'.xon
    | bk => exact fun σ' G' H' s r' => h σ' G' H' s r'.xon
    | ct => exact fun σ' G' H' s r' => h σ' G' H' s r'.xon
    | rt d => exact fun σ' G' H' v s r' rv => h σ' G' H' v s r'.xon rv
    | rn d => exact fun σ' G' H' v s r' nw rv => h σ' G' H' v s r'.xon nw rv
  | err x ρ' =>
    rw [e] at h
    intro σ' dx G' H' s' r' xr
    exact hdl_read hp ok r'.xon xr (SPost.at h s')⟩
/-- a clause's suite -/
theorem suite_of {q : Cl} {st : List Stmt}
    (h : ∀ (a : Addr) (oe : Obj) (d : Option Addr) (pn : List (Addr × Obj)) (x : Exn) (G0 H0 : Hp), Zc (.ref q.C) d oe → (∃ vs, oe.data = .fields vs) → x.cls = q.C → XRep X.K G0 H0 x d → PSs (X.suite a ((a, oe) :: pn)) st (tS X.K (c.sui G0 i a) (q.ms x))) :
    ∀ (a : Addr) (oe : Obj) (cls : Value) (d : Option Addr) (pn : List (Addr × Obj)), Zc cls d oe → (∃ vs, oe.data = .fields vs) → PSs (X.suite a ((a, oe) :: pn)) st (tE X.K c i q a cls d) := fun a oe cls d pn hz hf => ⟨fun pins s σ H De I ⟨x, B, G0, H0, σ0, ρ0, ec, ex, xr, _, hr⟩ => by
  subst ec
  rw [ex] at hz
  exact (h a oe d pn x G0 H0 hz hf ex xr).run pins s σ H De I hr⟩
/-- error.f -/
def fldX (x : Exn) (f : Str) : M D := lift ((x.ns.zip x.ds).lookup f)
theorem xfld {K : PySem.W.Frag} {G : Hp} {f : Str} {d : D} : ∀ {vfs : List (Str × V)} {ns : List Str} {ds : List D}, vfs.map (·.1) = ns → Reps K G ds (vfs.map (·.2)) → (ns.zip ds).lookup f = some d → ∃ v, vfs.lookup f = some v ∧ Rep K G d v
  | [], ns, ds, e, r, h => by
    subst e
    cases h
  | (g, w) :: vfs, ns, ds, e, r, h => by
    subst e
    cases ds with
    | nil => cases h
    | cons d0 ds =>
      obtain ⟨w', ws, ew, r1, r2⟩ := r.cons_inv
      cases ew
      have h : (match f == g with
        | true => some d0
        | false => ((vfs.map (·.1)).zip ds).lookup f) = some d := h
      show ∃ v, (match f == g with
        | true => some w
        | false => vfs.lookup f) = some v ∧ _
      cases hq : f == g with
      | true =>
        rw [hq] at h
        cases h
        exact ⟨w, rfl, r1⟩
      | false =>
        rw [hq] at h
        exact xfld rfl r2 h
theorem pd_fld {C : Addr} {a : Addr} {oe : Obj} {d : Option Addr} {pn : List (Addr × Obj)} {x : Exn} {G0 H0 : Hp} {f : Str} {p fpos : Pos} (T : XfC X.K C) (hno : PySem.W.findIn X.K (.ref C) f = some none) (hz : Zc (.ref C) d oe) (hf : ∃ vs, oe.data = .fields vs) (xr : XRep X.K G0 H0 x d)
    (hN : X.N[i]? = some n) (hv : Vis X.env.scope n) (hd : (n == ("__debug__" : Str)) = false) (hcd : (n == ("__classdict__" : Str)) = false) (hb : attributeBase (.Name n p) f X.env (eval (.Name n p) X.env) = eval (.Name n p) X.env) :
    PE (X.suite a ((a, oe) :: pn)) (.Attribute (.Name n p) f fpos) (tD X.K (c.sui G0 i a) (fldX x f)) :=
  PE_imp (pe_xf (X := X) T hno hz hf (pe_var (X := X.suite a ((a, oe) :: pn)) (i := i) hN hv hd hcd) hb) fun σ H Q h => by
    obtain ⟨B, G, ρ, r, h⟩ := h
    obtain ⟨z, hz', k⟩ := h.lift
    obtain ⟨dd, vfs, ed, eg, en, rd⟩ := xr
    have ea : σ[i]? = some (some (.ref a)) := r.pin i (.ref a) (by
      show (pinX c.Pn i (.ref a))[i]? = _
      unfold pinX
      rw [List.getElem?_set_self (by simp; omega)])
    obtain ⟨v, hl, rv⟩ := xfld en rd hz'
    exact ⟨_, ea, rfl, rfl, dd, vfs, v, ed, r.sub _ _ (r.ext _ _ eg), hl, k G H (.refl G) r v (rv.mono r.ext)⟩
end
end Dn
namespace Dn
open PySem PySem.Spec PyProof.Rows L2
section
variable {K : PySem.W.Frag} {q : Cl} {cs : List Cl} {C A : Addr} {l : List Addr}
theorem clOk_nil : ∀ q ∈ ([] : List Cl), ClOk K q := fun _ h => nomatch h
theorem clOk_cons (h : ClOk K q) (r : ∀ q ∈ cs, ClOk K q) : ∀ p ∈ q :: cs, ClOk K p := fun p hp => by
  rcases List.mem_cons.mp hp with e | hp
  · rw [e]
    exact h
  · exact r p hp
theorem no_nil : ∀ A ∈ ([] : List Addr), PySem.W.exmOne K (.ref A) (.ref C) = some false := fun _ h => nomatch h
theorem no_cons (h : PySem.W.exmOne K (.ref A) (.ref C) = some false) (r : ∀ A ∈ l, PySem.W.exmOne K (.ref A) (.ref C) = some false) : ∀ B ∈ A :: l, PySem.W.exmOne K (.ref B) (.ref C) = some false := fun B hB => by
  rcases List.mem_cons.mp hB with e | hB
  · rw [e]
    exact h
  · exact r B hB
end
theorem ErrTxt.xf {prog : Program} {K : PySem.W.Frag} {C fI : Addr} (T : ErrTxt prog K C fI) : XfC K C := ⟨T.ga, T.gg, T.exC, T.hdC⟩
end Dn

set_option Elab.async false
set_option linter.all false
set_option maxRecDepth 100000
set_option maxHeartbeats 4000000
/-! Dn16: the head, with own errors. -/
namespace Dn
open PySem PySem.Calls PyProof.Rows
open PySem.W (Frag clsIn findIn typeIn subIn keepIn hasDictIn alongIn mroIn nsIn codeIn)
/-- an own error: its name; its __init__ -/
structure EcD where
  x : Str
  qual : Str
  st : Stmt
/-- what is seen of __init__ -/
abbrev InW : Type := Option (Str × Str × Arguments × FuncBody × Scope × Addr × List Str × Addr)
def inAd (K : Frag) (x : Str) : Addr := He.ma K (He.ga K x) "__init__"
def inW (K : Frag) (x : Str) : InW := match K.lookup (inAd K x) with
  | some ⟨_, _, .func fd, _⟩ => some (fd.name, fd.qualname, fd.params, fd.body, fd.scope, fd.globals, fd.closure.map (·.1), fd.builtins)
  | _ => none
def EcD.val (d : EcD) : InW := some ("__init__", d.qual, L2.defArgs d.st, .stmts (L2.defBody d.st), L2.defScope d.st, mainGlobals, ["__class__"], builtinsNs)
def eqV (a b : Option (Option Value)) : Bool := decide (a = b)
/-- the code of __init__: its file; its cell: the class -/
def codeB2 (prog : Program) (K : Frag) (C : Addr) (qual : Str) : Value → List (Str × Addr) → Value → Value → Bool
  | .ref cda, [(_, cc)], .none, .none => codeIn K (.ref cda) qual && ((match K.lookup cda with
      | some ⟨_, _, Data.fields vs, _⟩ => (match (vs[2]? : Option Value) with
        | some (Value.str file _) => ((prog.main.file : Str) == file)
        | _ => false)
      | _ => false) && (match K.lookup cc with
      | some ⟨_, _, .cell (some (.ref D)), _⟩ => decide (D = C)
      | _ => false))
  | _, _, _, _ => false
theorem codeB2_inv {prog : Program} {K : Frag} {C : Addr} {qual : Str} {a d e : Value} {b : List (Str × Addr)} (h : codeB2 prog K C qual a b d e = true) : ∃ (cda : Addr) (nm : Str) (cc : Addr), a = .ref cda ∧ b = [(nm, cc)] ∧ d = .none ∧ e = .none ∧ codeIn K (.ref cda) qual = true ∧
    (∃ (ccl : Value) (cdd : Option Addr) (vs : Array Value) (ccs : Array (Option Value)) (file : Str) (tf : Tok), K.lookup cda = some ⟨ccl, cdd, .fields vs, ccs⟩ ∧ vs[2]? = some (.str file tf) ∧ ((prog.main.file : Str) == file) = true) ∧
    ∃ (cl : Value) (cld : Option Addr) (csl : Array (Option Value)), K.lookup cc = some ⟨cl, cld, .cell (some (.ref C)), csl⟩ := by
  unfold codeB2 at h
  split at h
  · rename_i cda nm cc
    obtain ⟨h18, h19⟩ := Bool.and_eq_true_iff.mp h
    obtain ⟨h19, h20⟩ := Bool.and_eq_true_iff.mp h19
    refine ⟨cda, nm, cc, rfl, rfl, rfl, rfl, h18, ?_, ?_⟩
    · split at h19
      · rename_i ccl cdd vs ccs hcda
        split at h19
        · rename_i file tf hvs
          exact ⟨ccl, cdd, vs, ccs, file, tf, hcda, hvs, h19⟩
        · cases h19
      · cases h19
    · split at h20
      · rename_i cl cld D csl hcc
        rw [of_decide_eq_true h20] at hcc
        exact ⟨cl, cld, csl, hcc⟩
      · cases h20
  · cases h
def codeB (prog : Program) (K : Frag) (C : Addr) (fI : Addr) (qual : Str) : Bool := match K.lookup fI with
  | some ⟨_, _, .func fd, _⟩ => codeB2 prog K C qual fd.code fd.closure fd.defaults fd.kwdefaults
  | _ => false
def clsB (K : Frag) (C : Addr) : Bool := match K.lookup C with
  | some ⟨.type t, _, .cls cd, sl⟩ => decide (t = "type") && ((match cd.mro, sl.toList with
    | .ref C' :: bm, [_, _, _, _, some (.builtin n), _] => decide (C' = C) && (decide (n = "ValueError.__new__") && (HandSPX.refsVE bm && eqV (alongIn K "__init__" (((Value.ref C :: bm).dropWhile (· != .ref C)).drop 1)) (some (some (.builtin "ValueError.__init__")))))
    | _, _ => false) && (cd.hasDict && !cd.hasDel))
  | _ => false
def EcD.ok (prog : Program) (K : Frag) (d : EcD) : Bool :=
  clsB K (He.ga K d.x) && (decide (mroIn K (He.ga K d.x) (.ref (He.ga K d.x)) = some true) && (eqV (findIn K (.ref (He.ga K d.x)) "__setattr__") (some (some (.builtin "object.__setattr__"))) &&
    (eqV (findIn K (.ref (He.ga K d.x)) "__getattribute__") (some (some (.builtin "BaseException.__getattribute__"))) && (eqV (findIn K (.ref (He.ga K d.x)) "__getattr__") (some none) && (eqV (findIn K (.ref (He.ga K d.x)) "part") (some none) &&
    (eqV (findIn K (.ref (He.ga K d.x)) "__init__") (some (some (.ref (inAd K d.x)))) && (decide (typeIn K (.ref (inAd K d.x)) = some (.type "function")) && (keepIn K (.ref (He.ga K d.x)) && (decide (subIn K (.ref (He.ga K d.x)) (.type "BaseException") = some true) &&
    (decide (subIn K (.ref (He.ga K d.x)) (.type "ValueError") = some true) && (decide (typeIn K (.ref (He.ga K d.x)) = some (.type "type")) && (hasDictIn K (He.ga K d.x) && (eqV (nsIn K cStatics "thirdparty.any") (some none) && (eqV (nsIn K mainGlobals "super") (some none) &&
    (!(prog.main.scope.names.lookup ("super" : Str)).isSome && codeB prog K (He.ga K d.x) (inAd K d.x) d.qual)))))))))))))))
/-- the text of __init__, as it must be -/
def EcD.txt (d : EcD) : Prop := ∃ (m : Str) (j : Nat) (p1 p2 a0 a1 a2 a3 a4 a5 q1 q2 q3 q4 : Pos), L2.defArgs d.st = eA p1 p2 ∧ L2.defBody d.st = eB m j a0 a1 a2 a3 a4 a5 q1 q2 q3 q4 ∧ L2.defScope d.st = eS ∧ (a2.endLine == a4.line) = true
theorem errTxt_of {prog : Program} {K : Frag} {d : EcD} (t : d.txt) (h : d.ok prog K = true) (v : inW K d.x = d.val) : ErrTxt prog K (He.ga K d.x) (inAd K d.x) := by
  unfold EcD.ok at h
  simp only [Bool.and_eq_true, decide_eq_true_eq, eqV, Bool.not_eq_true'] at h
  obtain ⟨h1, h2, h3, h4, h5, h6, h7, h8, h9, h10, h11, h12, h13, h14, h15, h16, h17⟩ := h
  refine ⟨?_, h2, h3, h4, h5, h6, h7, h8, h9, h10, h11, h12, h13, h14, h15, h16, ?_⟩
  · unfold clsB at h1
    cases q : K.lookup (He.ga K d.x) with
    | none => rw [q] at h1; cases h1
    | some o =>
      obtain ⟨oc, od, dt, osl⟩ := o
      rw [q] at h1
      cases oc with
      | type t => 
        cases dt with
        | cls cd =>
          have h1 : (decide (t = "type") && ((match cd.mro, osl.toList with
            | .ref C' :: bm, [_, _, _, _, some (.builtin n), _] => decide (C' = He.ga K d.x) && (decide (n = "ValueError.__new__") && (HandSPX.refsVE bm && eqV (alongIn K "__init__" (((Value.ref (He.ga K d.x) :: bm).dropWhile (· != .ref (He.ga K d.x))).drop 1)) (some (some (.builtin "ValueError.__init__")))))
            | _, _ => false) && (cd.hasDict && !cd.hasDel))) = true := h1
          obtain ⟨g1, h1⟩ := Bool.and_eq_true_iff.mp h1
          obtain ⟨h1, g2⟩ := Bool.and_eq_true_iff.mp h1
          obtain ⟨u2, u3⟩ := Bool.and_eq_true_iff.mp g2
          split at h1
          · rename_i C' bm k0 k1 k2 k3 n k5 hm hs
            obtain ⟨e1, h1⟩ := Bool.and_eq_true_iff.mp h1
            obtain ⟨e2, h1⟩ := Bool.and_eq_true_iff.mp h1
            obtain ⟨e3, e4⟩ := Bool.and_eq_true_iff.mp h1
            have e1 := of_decide_eq_true e1
            have e2 := of_decide_eq_true e2
            have g1 := of_decide_eq_true g1
            subst e1 e2 g1
            obtain ⟨nm, bs, mro, ns, qn, hd, sn, sub, ab, col, del⟩ := cd
            have hm : mro = .ref (He.ga K d.x) :: bm := hm
            have u2 : hd = true := u2
            have u4 : del = false := by
              have u3 : (!del) = true := u3
              simpa using u3
            clear g2 u3
            subst hm u2 u4
            have hsl : osl = #[k0, k1, k2, k3, some (.builtin "ValueError.__new__"), k5] := by
              obtain ⟨l⟩ := osl
              simp only at hs
              rw [hs]
            subst hsl
            exact ⟨nm, qn, ns, bs, bm, sn, sub, ab, col, od, k0, k1, k2, k3, k5, rfl, e3, of_decide_eq_true e4⟩
          · cases h1
        | _ => cases h1
      | _ => cases dt <;> cases h1
  · unfold codeB at h17
    unfold inW at v
    cases q : K.lookup (inAd K d.x) with
    | none => rw [q] at h17; cases h17
    | some o =>
      obtain ⟨oc, od, dt, osl⟩ := o
      rw [q] at h17 v
      cases dt with
      | func fd =>
        obtain ⟨n1, n2, n3, n4, n5, n6, n7, n8, n9, n10, n11, n12, n13, n14, n15⟩ := fd
        have v : (some (n1, n2, n3, n4, n5, n6, n7.map (·.1), n15) : InW) = (some (("__init__" : Str), d.qual, L2.defArgs d.st, FuncBody.stmts (L2.defBody d.st), L2.defScope d.st, mainGlobals, [("__class__" : Str)], builtinsNs) : InW) := v
        simp only [Option.some.injEq, Prod.mk.injEq] at v
        obtain ⟨v1, v2, v3, v4, v5, v6, v7, v8⟩ := v
        subst v1 v2 v3 v4 v5 v6 v8
        obtain ⟨m, j, p1, p2, a0, a1, a2, a3, a4, a5, q1, q2, q3, q4, t1, t2, t3, t4⟩ := t
        have h17 : codeB2 prog K (He.ga K d.x) d.qual n13 n7 n8 n9 = true := h17
        obtain ⟨cda, nm, cc, rfl, rfl, rfl, rfl, h18, ⟨ccl, cdd, vs, ccs, file, tf, hcda, hvs, h19⟩, cl, cld, csl, hcc⟩ := codeB2_inv h17
        have nmE : nm = ("__class__" : Str) := by simpa using v7
        subst nmE
        refine ⟨m, d.qual, j, oc, od, n10, n11, n12, cda, cc, n14, osl, p1, p2, a0, a1, a2, a3, a4, a5, q1, q2, q3, q4, ccl, cdd, vs, ccs, file, tf, cl, cld, csl, ?_, h18, hcda, hvs, h19, hcc, t4⟩
        rw [← t1, ← t2, ← t3]
      | _ => cases h17
/-! ### the Hook -/
abbrev AlX : Type := He.AlD × List InW
def obsX (prog : Program) (fx : List Fx) (fa : List He.Fa) (fn : List He.DefD) (ex : List EcD) (K : Frag) : AlX := (((obsE fx fa fn K).1 && ex.all fun d => d.ok prog K, (obsE fx fa fn K).2), ex.map fun d => inW K d.x)
def valX (fn : List He.DefD) (ex : List EcD) : AlX := (He.valD fn, ex.map EcD.val)
def SaysX (prog : Program) (fx : List Fx) (fa : List He.Fa) (fn : List He.DefD) (ex : List EcD) (K : Frag) : Prop := obsX prog fx fa fn ex K = valX fn ex
def obsXG (prog : Program) (n : Nat) (fx : List Fx) (fa : List He.Fa) (fn : List He.DefD) (ex : List EcD) (g : Addr → Option Obj) : AlX := obsX prog fx fa fn ex (He.frG g (cStatics :: He.asD g n))
def hookX (prog : Program) (n : Nat) (fx : List Fx) (fa : List He.Fa) (fn : List He.DefD) (ex : List EcD) : PySem.W.Hook where
  α := AlX
  obs := fun s => obsXG prog n fx fa fn ex s.heap.get?
  val := fun _ => valX fn ex
  says := fun _ h => ∃ K : Frag, K.In h ∧ SaysX prog fx fa fn ex K
  of := fun _ _ e => ⟨_, He.frG_in, e⟩
  keeps := fun _ _ _ ⟨K, hK, c⟩ k => ⟨K, PySem.W.Frag.In.keeps hK k, c⟩
section
variable {prog : Program} {fx : List Fx} {fa : List He.Fa} {fn : List He.DefD} {ex : List EcD} {K : Frag}
theorem obsXG_eq {n : Nat} {g : Addr → Option Obj} {s : Shared} (h : ∀ a, g a = s.heap.get? a) : obsXG prog n fx fa fn ex g = (hookX prog n fx fa fn ex).obs s := by
  have e : g = s.heap.get? := funext h
  rw [e]
  rfl
theorem SaysX.one (c : SaysX prog fx fa fn ex K) : ((obsE fx fa fn K).1 && ex.all fun d => d.ok prog K) = true := congrArg (fun z : AlX => z.1.1) c
theorem SaysX.saysE (c : SaysX prog fx fa fn ex K) : SaysE fx fa fn K := by
  have h2 : (obsE fx fa fn K).2 = fn.map He.DefD.val := congrArg (fun z : AlX => z.1.2) c
  exact Prod.ext (Bool.and_eq_true_iff.mp c.one).1 h2
theorem SaysX.err (c : SaysX prog fx fa fn ex K) (i : Nat) {d : EcD} (t : d.txt) (h : ex[i]? = some d := by rfl) : ErrTxt prog K (He.ga K d.x) (inAd K d.x) := by
  have h1 := (Bool.and_eq_true_iff.mp c.one).2
  have h2 : ex.map (fun d => inW K d.x) = ex.map EcD.val := congrArg (fun z : AlX => z.2) c
  have e2 : (ex.map fun d => inW K d.x)[i]? = (ex.map EcD.val)[i]? := by rw [h2]
  rw [List.getElem?_map, List.getElem?_map, h] at e2
  exact errTxt_of t (List.all_eq_true.mp h1 d (List.mem_of_getElem? h)) (Option.some.inj e2)
end
end Dn

set_option Elab.async false
set_option linter.all false
set_option maxRecDepth 100000
set_option maxHeartbeats 4000000
/-! Dn17: a law's walk, by data. -/
namespace Dn
open PySem PySem.Spec PyProof.Rows L2
theorem spD_law {K : PySem.W.Frag} {den : Den} {H : Hp} {a : Addr} {ns : List Int} {os : List (Option OO)} (hS : SqL K H a (ns.map V.int)) (h : den [.fz (.fl (ns.map D.int))] = .ok (.rt (.bl true)) os) : spD K 1 den [.ref a] H (fun v _ => v = .bl true) fun _ _ _ => False := by
  refine ⟨rfl, H, [.fz (.fl (ns.map D.int))], ⟨rfl, .refl H, fun i s e => ?_, fun i j o o' v _ e => ?_⟩, ?_⟩
  · cases i with
    | zero =>
      cases e
      refine ⟨_, rfl, ?_⟩
      show Rep K H (.fl (ns.map D.int)) (.ref a)
      unfold Rep
      exact ⟨a, _, rfl, hS, .ints⟩
    | succ i => simp at e
  · cases i with
    | zero => cases e
    | succ i => simp at e
  · rw [h]
    exact fun G' H' v _ r => repBl r
theorem walkD {l : PySem.W.OpenLaw} {n k : Nat} {q : Program} {loose : List Str} {XP : (Str → Option Value) → Heap → Prop} {YP : World → Heap → Prop} {d : DefRec} {x : Str}
    (hn : l.most = some n) (hn2 : n ≤ sizeLine) (hdf : d.params.defaults = []) (hr : Room k callerA)
    (F : ∀ (w : World) (mg : Str → Option Value) (fa : Addr) (h : Heap), YP w h → h.Ns mainGlobals mg → mg d.name = some (.ref fa) →
      ∃ (K : PySem.W.Frag) (fd : FuncData) (den : Den), K.In h ∧ (∀ (s : Shared) (u : Value), BindsTo s fd ⟨[u], []⟩ [(x, u)]) ∧
        (∀ ns : List Int, ns.length ≤ n → (∀ z ∈ ns, Builtin.Int.intBits z ≤ 1048576) → ∃ os, den [.fz (.fl (ns.map D.int))] = .ok (.rt (.bl true)) os) ∧
        ∀ base : Heap, K.In base → base.Ns mainGlobals mg → FnOk l.prog w K mg base (L2.CX l.prog w) k fa fd [x] (spD K 1 den)) :
    PySem.W.WalkO q loose XP YP l.row.toRowW d [] (fun f vs => PySem.call f vs) := by
  refine Att.attach_callB hn hdf fun w s₀ s₁ mg mb fa o pm cd doc a vs ns G Y ho hd hcd hmg hobj hints hlen hbits hg => ?_
  obtain ⟨K, fd, den, KX, hb, hden, hF⟩ := F w mg fa _ Y G.T.g hmg
  refine law_call KX G.T.g G.T.b G.T.builtins G.T.nolimit hg hobj hints (Nat.le_trans hlen hn2) hr hF hb (fun H hO hS => ?_) fun H e s' hx => ?_
  · obtain ⟨os, h⟩ := hden ns hlen hbits
    exact spD_law hS h
  · obtain ⟨_, _, _, _, _, _, _, _, _, _, _, _, z⟩ := hx
    exact z.elim
section
variable {P : Program} {w : World} {K : PySem.W.Frag} {mg : Str → Option Value} {base : Heap}
/-- as cd_of, told of the def's object -/
theorem fn_law {x : Str} {st : Stmt} {f : Addr} {fd : FuncData} {N ps : List Str} {k : Nat} {msk : List Bool} {mb : M Fl} (F : FunD K x x (defArgs st) (defBody st) (defScope st) [] [] f fd) (S : FnScope N ps (defScope st)) (hm : ps.length = msk.length)
    (hb : ∀ (cdv : Value) (A : Around) (outer : List Env) (s : Shared) (H : Hp) (vs : List V) (E : XK) (G : Hp), Room k (A.deeper (envOfC x (defScope st) s.heap.objs.size f cdv)) →
      Takes (cxOf (L2.CX P w) P w K mg base N x (defScope st) f cdv A outer s H E) (fun cls d _ H => E cls d H) →
      (let X := cxOf (L2.CX P w) P w K mg base N x (defScope st) f cdv A outer s H E; PassesOwn (model X.prog X.w) X.A X.env X.xe) →
      PSs (cxOf (L2.CX P w) P w K mg base N x (defScope st) f cdv A outer s H E) (defBody st) (tS K ⟨G, pinAt msk vs, fun cls d _ H => E cls d H⟩ mb)) :
    FnOk P w K mg base (L2.CX P w) (k + 1) f fd ps (spD K ps.length (fnDen msk N.length mb)) := by
  obtain ⟨oc, od, dV, kV, doc, pm, an, cdv, ct, osl, rfl, lk, hcd, hD, hK⟩ := F.ex
  have e : dV = .none := by
    rcases hD with ⟨_, e⟩ | ⟨e, _⟩
    · exact e
    · exact absurd rfl e
  subst e
  exact fn_den (f := f) ⟨⟨oc, od, kV, doc, pm, an, cdv, ct, osl, rfl, lk, hcd⟩, F.kp⟩ S hm fun cdv A outer s H vs E G hr tk => hb cdv A outer s H vs E G hr tk (passes_of (E₁ := fun e' s'' => L2.CX P w outer H s E e' s'') (K := fun e' s'' => L2.CX P w outer H s E e' s'') rfl)
end
end Dn

set_option Elab.async false
set_option linter.all false
set_option maxRecDepth 100000
set_option maxHeartbeats 4000000
/-! Dn18: lists within a list that change (k75's _law_matrix). -/
namespace Dn
open PySem PySem.Spec PyProof.Rows L2
def scaD : D → Bool
  | .non => true
  | .bl _ => true
  | .int _ => true
  | .str _ => true
  | .ty _ => true
  | _ => false
def flaD : D → Bool
  | .lst ds => ds.all scaD
  | .tup ds => ds.all scaD
  | d => scaD d
def flaS : Sl → Bool
  | .fz d => flaD d
  | .own (.lst ds) => ds.all flaD
  | _ => false
theorem scal_rep {K : PySem.W.Frag} {G G' : Hp} {d : D} {v : V} (h : scaD d = true) (r : Rep K G d v) : Rep K G' d v ∧ ∀ a, v ≠ .ref a := by
  cases d with
  | non => unfold Rep at r; subst r; exact ⟨rep_non, fun a z => nomatch z⟩
  | bl b => rw [repBl r]; exact ⟨rep_bl, fun a z => nomatch z⟩
  | int b => rw [repInt r]; exact ⟨rep_int, fun a z => nomatch z⟩
  | str b => rw [repStr r]; exact ⟨rep_str, fun a z => nomatch z⟩
  | ty b => rw [repTy r]; exact ⟨rep_ty, fun a z => nomatch z⟩
  | _ => cases h
theorem scals_rep {K : PySem.W.Frag} {G G' : Hp} : ∀ {ds : List D} {vs : List V}, ds.all scaD = true → Reps K G ds vs → Reps K G' ds vs
  | [], vs, _, r => by rw [r.nil_inv]; exact .nil
  | d :: ds, vs, h, r => by
    obtain ⟨v, w, rfl, r1, r2⟩ := r.cons_inv
    obtain ⟨h1, h2⟩ := Bool.and_eq_true_iff.mp (show (scaD d && ds.all scaD) = true from h)
    exact .cons (scal_rep h1 r1).1 (scals_rep h2 r2)
theorem scals_noref {K : PySem.W.Frag} {G : Hp} {ds : List D} {x : Addr} {r : List V} (h : ds.all scaD = true) (z : Reps K G ds (.ref x :: r)) : False := by
  cases ds with
  | nil => cases z.nil_inv
  | cons d ds =>
    obtain ⟨v, w, e, r1, r2⟩ := z.cons_inv
    cases e
    exact (scal_rep (G' := G) (Bool.and_eq_true_iff.mp (show (scaD d && ds.all scaD) = true from h)).1 r1).2 x rfl
/-- flat data does not see that a list of references is replaced -/
theorem flat_repl {K : PySem.W.Frag} {G : Hp} {d : D} {v : V} {a x : Addr} {r : List V} {u : HO} (h : flaD d = true) (z : Rep K G d v) (ha : G a = some (.lst (.ref x :: r))) : Rep K (upd G a u) d v := by
  cases d with
  | lst ds =>
    obtain ⟨b, vs, rfl, h1, h2⟩ := repLst z
    have ne : b ≠ a := fun e => by
      rw [e, ha] at h1
      cases h1
      exact scals_noref (ds := ds) h h2
    exact rep_lst (by rw [upd_ne ne]; exact h1) (scals_rep (ds := ds) h h2)
  | tup ds =>
    obtain ⟨b, vs, rfl, h1, h2⟩ := repTup z
    have ne : b ≠ a := fun e => by
      rw [e, ha] at h1
      cases h1
    exact rep_tup (by rw [upd_ne ne]; exact h1) (scals_rep (ds := ds) h h2)
  | non => exact (scal_rep rfl z).1
  | bl b => exact (scal_rep rfl z).1
  | int b => exact (scal_rep rfl z).1
  | str b => exact (scal_rep rfl z).1
  | ty b => exact (scal_rep rfl z).1
  | _ => cases h
theorem flats_repl {K : PySem.W.Frag} {G : Hp} {a x : Addr} {r : List V} {u : HO} (ha : G a = some (.lst (.ref x :: r))) : ∀ {ds : List D} {vs : List V}, ds.all flaD = true → Reps K G ds vs → Reps K (upd G a u) ds vs
  | [], vs, _, z => by rw [z.nil_inv]; exact .nil
  | d :: ds, vs, h, z => by
    obtain ⟨v, w, rfl, r1, r2⟩ := z.cons_inv
    obtain ⟨h1, h2⟩ := Bool.and_eq_true_iff.mp (show (flaD d && ds.all flaD) = true from h)
    exact .cons (flat_repl h1 r1 ha) (flats_repl ha h2 r2)
/-- an object of the ground that was not known at the entry is replaced -/
theorem Rl.repl {K : PySem.W.Frag} {c : Cg} {B G H : Hp} {σ : L2.St} {ρ ρ' : Rho} {a : Addr} {o u : HO} (r : Rl K c B G H σ ρ) (ha : G a = some o) (h0 : c.G0 a = none) (hl : ρ'.length = ρ.length)
    (hs : ∀ (i : Nat) (s : Sl), ρ'[i]? = some (some s) → ∃ v, σ[i]? = some (some v) ∧ SRep K B (upd G a u) (upd H a u) s v) (ho : ∀ (i : Nat) (q : OO), ρ'[i]? = some (some (.own q)) → ∃ q0, ρ[i]? = some (some (.own q0))) : Rl K c B (upd G a u) (upd H a u) σ ρ' where
  sub := r.sub.both
  base := r.base.mut (by
    rcases r.fresh a (by rw [ha]; exact fun z => nomatch z) with z | z
    · exact absurd h0 z
    · exact z)
  ext := fun b q e => by
    rw [upd_ne (ne_of_none e h0)]
    exact r.ext b q e
  fresh := fun b e => by
    by_cases hb : b = a
    · rw [hb]
      exact r.fresh a (by rw [ha]; exact fun z => nomatch z)
    · rw [upd_ne hb] at e
      exact r.fresh b e
  len := hl.trans r.len
  slots := hs
  dist := fun i j q q' v hij h1 h2 h3 => by
    obtain ⟨q1, e1⟩ := ho i q h1
    obtain ⟨q2, e2⟩ := ho j q' h2
    exact r.dist i j q1 q2 v hij e1 e2 h3
  pin := r.pin
/-- what is flat stays as it is -/
theorem flaS_repl {K : PySem.W.Frag} {B G H : Hp} {s : Sl} {v : V} {a x : Addr} {t : List V} {u : HO} (h : flaS s = true) (z : SRep K B G H s v) (ha : G a = some (.lst (.ref x :: t))) : SRep K B (upd G a u) (upd H a u) s v := by
  cases s with
  | fz d => exact flat_repl h z ha
  | own o =>
    cases o with
    | lst ds =>
      obtain ⟨p, rfl, h1, h2, vs, h3, h4⟩ := z
      have ne : p ≠ a := fun e => by
        rw [e, ha] at h1
        cases h1
      exact ⟨p, rfl, by rw [upd_ne ne]; exact h1, h2, vs, by rw [upd_ne ne]; exact h3, flats_repl ha h h4⟩
    | _ => cases h
/-- [x, y, z] -> [x, -z, z] -/
def negOf : D → Option D
  | .lst [.lst xs, .lst ys, .lst zs] => if (xs.all scaD = true ∧ ys.all scaD = true) ∧ zs.length ≤ 1000 then (ints? zs).map fun ns => .lst [.lst xs, .lst (ns.map fun n => .int (-n)), .lst zs] else none
  | _ => none
theorem negOf_inv {d d' : D} (h : negOf d = some d') : ∃ (xs ys : List D) (ns : List Int), d = .lst [.lst xs, .lst ys, .lst (ns.map D.int)] ∧ (xs.all scaD = true ∧ ys.all scaD = true ∧ ns.length ≤ 1000) ∧ d' = .lst [.lst xs, .lst (ns.map fun n => .int (-n)), .lst (ns.map D.int)] := by
  unfold negOf at h
  split at h
  · rename_i xs ys zs
    by_cases hc : (xs.all scaD = true ∧ ys.all scaD = true) ∧ zs.length ≤ 1000
    · rw [if_pos hc] at h
      cases q : ints? zs with
      | none => rw [q] at h; cases h
      | some ns =>
        rw [q] at h
        cases h
        have e := ints?_all q
        subst e
        exact ⟨xs, ys, ns, rfl, ⟨hc.1.1, hc.1.2, by simpa using hc.2⟩, rfl⟩
    · rw [if_neg hc] at h
      cases h
  · cases h
theorem ints_scaD : ∀ ns : List Int, (ns.map D.int).all scaD = true
  | [] => rfl
  | n :: ns => by
    show (true && (ns.map D.int).all scaD) = true
    rw [ints_scaD ns]
    rfl
theorem negs_scaD : ∀ ns : List Int, (ns.map fun n => D.int (-n)).all scaD = true
  | [] => rfl
  | n :: ns => by
    show (true && (ns.map fun n => D.int (-n)).all scaD) = true
    rw [negs_scaD ns]
    rfl
/-! ### a def's top level: the ground need not stay -/
def SPost0 (K : PySem.W.Frag) (c : Cg) (B : Hp) (De : Ends) : Rs Fl → Prop
  | .ok .nx ρ' => ∀ σ' G' H', Rl K c B G' H' σ' ρ' → De.nx σ' H'
  | .ok .bk ρ' => ∀ σ' G' H', Rl K c B G' H' σ' ρ' → De.bk σ' H'
  | .ok .ct ρ' => ∀ σ' G' H', Rl K c B G' H' σ' ρ' → De.ct σ' H'
  | .ok (.rt d) ρ' => ∀ σ' G' H' v, Rl K c B G' H' σ' ρ' → Rep K G' d v → De.rt v H'
  | .ok (.rn o) ρ' => ∀ σ' G' H' p, Rl K c B G' H' σ' ρ' → New B G' σ' ρ' p → ORep K G' H' p o → De.rt (.ref p) H'
  | .err x ρ' => ∀ σ' dx G' H', Rl K c B G' H' σ' ρ' → XRep K G' H' x dx → c.W (.ref x.cls) dx σ' H'
  | .no => False
theorem SPost0.to {K : PySem.W.Frag} {c : Cg} {B G : Hp} {De : Ends} {r : Rs Fl} (h : SPost0 K c B De r) : SPost K c B G De r := by
  cases r with
  | ok f ρ' => cases f with
    | nx => exact fun σ' G' H' _ r => h σ' G' H' r
    | bk => exact fun σ' G' H' _ r => h σ' G' H' r
    | ct => exact fun σ' G' H' _ r => h σ' G' H' r
    | rt d => exact fun σ' G' H' v _ r rv => h σ' G' H' v r rv
    | rn d => exact fun σ' G' H' v _ r n rv => h σ' G' H' v r n rv
  | err x ρ' => exact fun σ' dx G' H' _ r x => h σ' dx G' H' r x
  | no => exact h
def tS0 (K : PySem.W.Frag) (c : Cg) (m : M Fl) : TS := fun De σ H => ∃ B G ρ, Rl K c B G H σ ρ ∧ SPost0 K c B De (m ρ)
section
variable {X : Cx} {c : Cg} {st : Stmt} {rest : List Stmt} {ms mr : M Fl}
theorem ps0 (h : PS X st (tS X.K c ms)) : PS X st (tS0 X.K c ms) := PS_imp h fun De σ H ⟨B, G, ρ, r, q⟩ => ⟨B, G, ρ, r, q.to⟩
theorem pss0 (h : PSs X rest (tS X.K c ms)) : PSs X rest (tS0 X.K c ms) := PSs_imp h fun De σ H ⟨B, G, ρ, r, q⟩ => ⟨B, G, ρ, r, q.to⟩
theorem pds_cons0 (h1 : PS X st (tS0 X.K c ms)) (h2 : PSs X rest (tS0 X.K c mr)) : PSs X (st :: rest) (tS0 X.K c (seqM ms mr)) := PSs_imp (pss_cons h1 h2) fun De σ H h => by
  obtain ⟨B, G, ρ, r, h⟩ := h
  refine ⟨B, G, ρ, r, ?_⟩
  unfold seqM at h
  cases e : ms ρ with
  | ok f ρ' =>
    rw [e] at h
    cases f with
    | nx => exact fun σ' G' H' r' => ⟨B, G', ρ', r', h⟩
    | bk => exact h
    | ct => exact h
    | rt d => exact h
    | rn d => exact h
  | err x ρ' => rw [e] at h; exact h
  | no => rw [e] at h; exact h
theorem SPost0.bind {α : Type} {K : PySem.W.Frag} {B G : Hp} {σ : L2.St} {De : Ends} {m : M α} {f : α → M Fl} {ρ : Rho} (h : SPost0 K c B De (Dn.bind m f ρ)) : XPost K c B σ G (fun a ρ' G' H' => SPost0 K c B De (f a ρ')) (m ρ) := by
  unfold Dn.bind at h
  cases e : m ρ with
  | ok a ρ' =>
    rw [e] at h
    exact fun G' H' s r => h
  | err x ρ' =>
    rw [e] at h
    exact fun dx G' H' s r xr => h σ dx G' H' r xr
  | no =>
    rw [e] at h
    exact h
theorem pds_if0 {a : Expr} {pos : Pos} {mt : M Bool} {s1 s2 : List Stmt} (ht : PT X a (tT X.K c mt)) (h1 : PSs X s1 (tS0 X.K c ms)) (h2 : PSs X s2 (tS0 X.K c mr)) : PS X (.If a s1 s2 pos) (tS0 X.K c (ifS mt ms mr)) := PS_imp (ps_if ht h1 h2) fun De σ H h => by
  obtain ⟨B, G, ρ, r, h⟩ := h
  refine ⟨B, G, ρ, r, (SPost0.bind (σ := σ) h).imp fun k ρ1 G1 H1 s1 r1 h1 => ?_⟩
  cases k with
  | true => exact ⟨B, G1, ρ1, r1, h1⟩
  | false => exact ⟨B, G1, ρ1, r1, h1⟩
end
/-! ### a def that starts with less known -/
def joinH (A B : Hp) : Hp := fun a => match A a with
  | some o => some o
  | none => B a
theorem joinH_l {A B : Hp} : Sub A (joinH A B) := fun a o e => by
  unfold joinH
  rw [e]
theorem joinH_r {A B H : Hp} (h1 : Sub A H) (h2 : Sub B H) : Sub B (joinH A B) := fun a o e => by
  unfold joinH
  cases q : A a with
  | none => exact e
  | some u =>
    have e1 := h1 a u q
    rw [h2 a o e] at e1
    exact e1.symm
theorem joinH_sub {A B H : Hp} (h1 : Sub A H) (h2 : Sub B H) : Sub (joinH A B) H := fun a o e => by
  unfold joinH at e
  cases q : A a with
  | none =>
    rw [q] at e
    exact h2 a o e
  | some u =>
    rw [q] at e
    cases e
    exact h1 a _ q
theorem joinH_none {A B : Hp} {a : Addr} (h1 : A a = none) (h2 : B a = none) : joinH A B a = none := by
  unfold joinH
  rw [h1]
  exact h2
/-- what a run with less known leaves, told with all that was known -/
theorem After.more {K : PySem.W.Frag} {G0 G H G' H' : Hp} {sls : List Sl} {vs : List V} {os : List (Option OO)} (a : After K G0 H sls vs os G' H') (hG : Sub G (Keep H sls vs)) (hg : Sub G0 G) (hp : ∀ p, OwnAt sls vs p → G p = none) : After K G H sls vs os (joinH G G') H' ∧ Sub G' (joinH G G') := by
  have s1 : Sub G H' := hG.trans a.keep
  refine ⟨⟨joinH_sub s1 a.sub, joinH_l, a.keep, fun x h => ?_, fun i o e => ?_⟩, joinH_r s1 a.sub⟩
  · cases q : G x with
    | some u => exact .inl (by simp)
    | none =>
      unfold joinH at h
      rw [q] at h
      rcases a.fresh x h with z | z
      · exfalso
        cases w : G0 x with
        | none => exact z w
        | some u =>
          have := hg x u w
          rw [q] at this
          cases this
      · exact .inr z
  · obtain ⟨⟨o0, e0⟩, p, e1, e2, e3⟩ := a.own i o e
    exact ⟨⟨o0, e0⟩, p, e1, joinH_none (hp p ⟨i, o0, e0, e1⟩) e2, e3.mono (joinH_r s1 a.sub) rfl⟩
/-- a promise kept from a smaller ground -/
theorem DPost.more {K : PySem.W.Frag} {G0 G H : Hp} {sls : List Sl} {vs : List V} {Q : VK} {E : XK} {r : DR} (h : DPost K G H sls vs Q E r) (hG : Sub G (Keep H sls vs)) (hg : Sub G0 G) (hp : ∀ p, OwnAt sls vs p → G p = none) : DPost K G0 H sls vs Q E r := by
  cases r with
  | no => exact h
  | err x os =>
    intro G' H' dx a xr
    obtain ⟨a1, s1⟩ := a.more hG hg hp
    obtain ⟨d, vfs, e1, e2, e3, e4⟩ := xr
    exact h _ H' dx a1 ⟨d, vfs, e1, s1 _ _ e2, e3, e4.mono s1⟩
  | ok o os =>
    cases o with
    | rt d =>
      intro G' H' v a rv
      obtain ⟨a1, s1⟩ := a.more hG hg hp
      exact h _ H' v a1 (rv.mono s1)
    | rn o =>
      intro G' H' p a n1 n2 n3 ro
      obtain ⟨a1, s1⟩ := a.more hG hg hp
      refine h _ H' p a1 (joinH_none ?_ n1) n2 n3 (ro.mono s1 rfl)
      cases q : G p with
      | none => rfl
      | some u =>
        rw [hG p u q] at n2
        cases n2
/-- a def's body, read from its promise -/
theorem body_read {K : PySem.W.Frag} {G H : Hp} {sls : List Sl} {vs : List V} {Q : VK} {E : XK} {msk : List Bool} {N : List Str} {mb : M Fl} (ar : ArgRel K G H sls vs) (hd : DPost K G H sls vs Q E (fnDen msk N.length mb sls)) :
    tS0 K ⟨G, pinAt msk vs, fun cls d _ H => E cls d H⟩ mb { nx := fun _ H' => Q .non H', rt := Q } (L2.start N vs) H := by
  unfold fnDen at hd
  by_cases hk : okM msk sls = true
  · rw [if_pos hk] at hd
    refine ⟨Keep H sls vs, G, _, ar.begin (N := N) (okM_len hk), ?_⟩
    have hvl := ar.len
    cases e : mb (sls.map some ++ List.replicate (N.length - sls.length) none) with
    | no => rw [e] at hd; exact hd.elim
    | err xx ρ =>
      rw [e] at hd
      have hd : DPost K G H sls vs Q E (match ends msk ρ with
        | some os => .err xx os
        | none => .no) := hd
      cases q : ends msk ρ with
      | none => rw [q] at hd; exact hd.elim
      | some os =>
        rw [q] at hd
        exact fun σ' dx G' H' r xr => hd G' H' dx (r.after hk hvl q).1 xr
    | ok fl ρ =>
      rw [e] at hd
      cases fl with
      | bk => exact hd.elim
      | ct => exact hd.elim
      | nx =>
        have hd : DPost K G H sls vs Q E (endM msk (.rt .non) ρ) := hd
        unfold endM at hd
        cases q : ends msk ρ with
        | none => rw [q] at hd; exact hd.elim
        | some os =>
          rw [q] at hd
          exact fun σ' G' H' r => hd G' H' _ (r.after hk hvl q).1 rep_non
      | rt d =>
        have hd : DPost K G H sls vs Q E (endM msk (.rt d) ρ) := hd
        unfold endM at hd
        cases q : ends msk ρ with
        | none => rw [q] at hd; exact hd.elim
        | some os =>
          rw [q] at hd
          exact fun σ' G' H' v r rv => hd G' H' v (r.after hk hvl q).1 rv
      | rn o =>
        have hd : DPost K G H sls vs Q E (endM msk (.rn o) ρ) := hd
        unfold endM at hd
        cases q : ends msk ρ with
        | none => rw [q] at hd; exact hd.elim
        | some os =>
          rw [q] at hd
          intro σ' G' H' p r n ro
          obtain ⟨a1, a2⟩ := r.after hk hvl q
          exact hd G' H' p a1 n.1 n.2.1 (a2 p n) ro
  · rw [if_neg hk] at hd
    exact hd.elim
/-- only for a well: an own list of a list of ints and two ints -/
def cellDen (den : Den) : Den := fun sls => match sls with
  | [.own (.lst [.lst zs, .int _, .int _])] => (match ints? zs with
    | some _ => den sls
    | none => .no)
  | _ => .no
theorem cellDen_inv {den : Den} {sls : List Sl} (h : cellDen den sls ≠ .no) : ∃ (ns : List Int) (i j : Int), sls = [.own (.lst [.lst (ns.map D.int), .int i, .int j])] ∧ cellDen den sls = den sls := by
  unfold cellDen at h ⊢
  split at h
  · rename_i zs i j
    cases q : ints? zs with
    | none => rw [q] at h; exact absurd rfl h
    | some ns =>
      have e := ints?_all q
      subst e
      exact ⟨ns, i, j, rfl, by simp [q]⟩
  · exact absurd rfl h
/-- the ground cut down to one list of ints -/
theorem ArgRel.cut {K : PySem.W.Frag} {G H : Hp} {vs : List V} {ns : List Int} {i j : Int} (ar : ArgRel K G H [.own (.lst [.lst (ns.map D.int), .int i, .int j])] vs) :
    ∃ G0 : Hp, Sub G0 G ∧ Sub G (Keep H [.own (.lst [.lst (ns.map D.int), .int i, .int j])] vs) ∧ (∀ p, OwnAt [.own (.lst [.lst (ns.map D.int), .int i, .int j])] vs p → G p = none) ∧ ArgRel K G0 H [.own (.lst [.lst (ns.map D.int), .int i, .int j])] vs ∧
      ∀ a o, G0 a = some o → o = .lst (ns.map V.int) := by
  obtain ⟨v, hv, p, rfl, hp, hk, ws, hw, rs⟩ := ar.at_ 0 _ rfl
  obtain ⟨w0, wr, rfl, r0, rr⟩ := rs.cons_inv
  obtain ⟨w1, w2, rfl, r1, r2⟩ := reps2 rr
  obtain ⟨b, bs, rfl, hb, hbs⟩ := repLst r0
  rw [Reps.ints_inv hbs] at hb
  have own : ∀ q, OwnAt [.own (.lst [.lst (ns.map D.int), .int i, .int j])] vs q → q = p := fun q ⟨k, o, e1, e2⟩ => by
    cases k with
    | zero =>
      rw [hv] at e2
      cases e2
      rfl
    | succ k => simp at e1
  have G0e : ∀ a o, (fun a => if a = b then G a else none : Hp) a = some o → a = b ∧ G a = some o := fun a o e => by
    by_cases h : a = b
    · exact ⟨h, by simpa [h] using e⟩
    · simp [h] at e
  refine ⟨fun a => if a = b then G a else none, fun a o e => (G0e a o e).2, fun a o e => ?_, fun q hq => by rw [own q hq]; exact hp, ?_, fun a o e => ?_⟩
  · rw [keep_not (fun z => by rw [own a z, hp] at e; cases e)]
    exact ar.sub a o e
  · have hp0 : (fun a => if a = b then G a else none : Hp) p = none := by
      by_cases h : p = b
      · simp [h]
        rw [← h]
        exact hp
      · simp [h]
    have hb0 : (fun a => if a = b then G a else none : Hp) b = some (.lst (ns.map V.int)) := by simp [hb]
    refine ⟨ar.len, fun a o e => ar.sub a o (G0e a o e).2, fun k s e => ?_, ar.dist⟩
    cases k with
    | zero =>
      cases e
      exact ⟨_, hv, p, rfl, hp0, hk, _, hw, .cons (rep_lst hb0 .ints) (.cons (by rw [repInt r1]; exact rep_int) (.one (by rw [repInt r2]; exact rep_int)))⟩
    | succ k => simp at e
  · obtain ⟨rfl, e2⟩ := G0e a o e
    rw [hb] at e2
    exact (Option.some.inj e2).symm
section
variable {P : Program} {w : World} {K : PySem.W.Frag} {mg : Str → Option Value} {base : Heap}
/-- as cd_of, for a def of a well alone; its body knows one list of ints at first -/
theorem cd_cell {x p1 : Str} {st : Stmt} {f : Addr} {fd : FuncData} {N : List Str} {k : Nat} {mb : M Fl} (F : FunD K x x (defArgs st) (defBody st) (defScope st) [] [] f fd) (hmg : mg x = some (.ref f)) (S : FnScope N [p1] (defScope st))
    (hbd : ∀ (kV doc pm : Value) (an : Option Addr) (cdv ct : Value) (us : List Value), us.length = [p1].length → bindArgs (PySem.W.fnOf x x (defArgs st) (defBody st) (defScope st) .none kV doc pm an cdv ct) ⟨us, []⟩ = pure ([p1].zip us))
    (hb : ∀ (cdv : Value) (A : Around) (outer : List Env) (s : Shared) (H : Hp) (vs : List V) (E : XK) (G : Hp), (∀ a o, G a = some o → ∃ ns : List Int, o = .lst (ns.map V.int)) → Room k (A.deeper (envOfC x (defScope st) s.heap.objs.size f cdv)) →
      Takes (cxOf (L2.CX P w) P w K mg base N x (defScope st) f cdv A outer s H E) (fun cls d _ H => E cls d H) →
      (let X := cxOf (L2.CX P w) P w K mg base N x (defScope st) f cdv A outer s H E; PassesOwn (model X.prog X.w) X.A X.env X.xe) →
      PSs (cxOf (L2.CX P w) P w K mg base N x (defScope st) f cdv A outer s H E) (defBody st) (tS0 K ⟨G, pinAt [true] vs, fun cls d _ H => E cls d H⟩ mb)) :
    Cd P w K mg base (k + 1) x (cellDen (fnDen [true] N.length mb)) := by
  have b := F.bindsN hbd
  refine ⟨f, fd, [p1], ?_, hmg, F.kp, b, fun sls h => ?_⟩
  · refine F.ok (CX := L2.CX P w) S (fun vs H Q E h => h.1) fun cdv A outer s H vs Q E hr hsp => ?_
    obtain ⟨hn, G, sls, ar, hd⟩ := hsp
    have ne : cellDen (fnDen [true] N.length mb) sls ≠ .no := fun z => by
      rw [z] at hd
      exact hd
    obtain ⟨ns, i, j, rfl, e⟩ := cellDen_inv ne
    rw [e] at hd
    obtain ⟨G0, g1, g2, g3, ar0, g4⟩ := ar.cut
    exact ⟨_, hb cdv A outer s H vs E G0 (fun a o h => ⟨ns, g4 a o h⟩) hr (takes_of (E := E) (E₁ := fun e' s'' => L2.CX P w outer H s E e' s'') rfl rfl rfl rfl) (passes_of (E₁ := fun e' s'' => L2.CX P w outer H s E e' s'') (K := fun e' s'' => L2.CX P w outer H s E e' s'') rfl), body_read ar0 (hd.more g2 g1 g3)⟩
  · obtain ⟨ns, i, j, rfl, e⟩ := cellDen_inv h
    rfl
end
/-! ### the comprehension [-part for part in row[2]] -/
abbrev negE (j q : Nat) : M OO := lcM (itM (m2 (rdV j) (ret (.int 2)) dIx)) (tgN q) yesM (m1 (rdV q) dNeg) [q]
theorem negLoop {q : Nat} : ∀ (ns : List Int) (acc : List D) (ρ : Rho), q < ρ.length → ρ[q]? = some none → lcLoop (tgN q) yesM (m1 (rdV q) dNeg) [q] (ns.map D.int) acc ρ = .ok (acc ++ ns.map fun n => D.int (-n)) ρ
  | [], acc, ρ, _, _ => by simp [lcLoop]
  | n :: ns, acc, ρ, hq, e => by
    have hset : (ρ.set q (some (.fz (.int n))))[q]? = some (some (.fz (.int n))) := List.getElem?_set_self hq
    have back : wipeR (ρ.set q (some (.fz (.int n)))) [q] = ρ := by
      show (ρ.set q (some (.fz (.int n)))).set q none = ρ
      rw [List.set_set]
      apply List.ext_getElem?
      intro i
      by_cases hi : q = i
      · subst hi
        rw [List.getElem?_set_self hq, e]
      · rw [List.getElem?_set_ne hi]
    have hm : m1 (rdV q) dNeg (ρ.set q (some (.fz (.int n)))) = .ok (.int (-n)) (ρ.set q (some (.fz (.int n)))) := by
      unfold m1 bind rdV
      rw [hset]
      rfl
    have step : lcLoop (tgN q) yesM (m1 (rdV q) dNeg) [q] ((n :: ns).map D.int) acc ρ = (match m1 (rdV q) dNeg (ρ.set q (some (.fz (.int n)))) with
        | Rs.ok x ρ3 => lcLoop (tgN q) yesM (m1 (rdV q) dNeg) [q] (ns.map D.int) (acc ++ [x]) (wipeR ρ3 [q])
        | _ => Rs.no) := rfl
    rw [step, hm]
    show lcLoop (tgN q) yesM (m1 (rdV q) dNeg) [q] (ns.map D.int) (acc ++ [.int (-n)]) (wipeR (ρ.set q (some (.fz (.int n)))) [q]) = _
    rw [back, negLoop ns _ ρ hq e]
    simp
theorem negE_eval {j q : Nat} {ρ : Rho} {x y : D} {ns : List Int} (hj : ρ[j]? = some (some (.fz (.lst [x, y, .lst (ns.map D.int)])))) (hq : q < ρ.length) (no : noOwn ρ [q] = true) (hz : szOk ns.length) : negE j q ρ = .ok (.lst (ns.map fun n => D.int (-n))) ρ := by
  have h1 : itM (m2 (rdV j) (ret (.int 2)) dIx) ρ = .ok (ns.map D.int) ρ := by
    unfold itM m2 bind rdV
    rw [hj]
    rfl
  have hw : (wipeR ρ [q])[q]? = some none := List.getElem?_set_self hq
  have h2 := negLoop ns [] (wipeR ρ [q]) (by rw [wipeR_length]; exact hq) hw
  unfold negE lcM
  unfold bind
  rw [h1]
  show (if szOk (ns.map D.int).length ∧ noOwn ρ [q] = true then (match lcLoop (tgN q) yesM (m1 (rdV q) dNeg) [q] (ns.map D.int) [] (wipeR ρ [q]) with
    | Rs.ok acc ρ' => Rs.ok (OO.lst acc) (unwipe ρ ρ' [q])
    | _ => Rs.no) else Rs.no) = _
  rw [if_pos ⟨by rw [List.length_map]; exact hz, no⟩, h2]
  show Rs.ok (OO.lst ([] ++ ns.map fun n => D.int (-n))) (unwipe ρ (wipeR ρ [q]) [q]) = _
  have back : unwipe ρ (wipeR ρ [q]) [q] = ρ := by
    show ((ρ.set q none).set q (ρ[q]?.join)) = ρ
    rw [List.set_set]
    apply List.ext_getElem?
    intro i
    by_cases hi : q = i
    · subst hi
      rw [List.getElem?_set_self hq, List.getElem?_eq_getElem hq]
      rfl
    · rw [List.getElem?_set_ne hi]
  rw [back, List.nil_append]
theorem row_rep {K : PySem.W.Frag} {G : Hp} {xs ys zs : List D} {v : V} (r : Rep K G (.lst [.lst xs, .lst ys, .lst zs]) v) : ∃ a b1 b2 b3 : Addr, v = .ref a ∧ G a = some (.lst [.ref b1, .ref b2, .ref b3]) ∧ Rep K G (.lst xs) (.ref b1) ∧ Rep K G (.lst ys) (.ref b2) ∧ Rep K G (.lst zs) (.ref b3) := by
  obtain ⟨a, vs, rfl, h1, h2⟩ := repLst r
  obtain ⟨v1, w, rfl, r1, h3⟩ := h2.cons_inv
  obtain ⟨v2, v3, rfl, r2, r3⟩ := reps2 h3
  obtain ⟨b1, _, rfl, _, _⟩ := repLst r1
  obtain ⟨b2, _, rfl, _, _⟩ := repLst r2
  obtain ⟨b3, _, rfl, _, _⟩ := repLst r3
  exact ⟨a, b1, b2, b3, rfl, h1, r1, r2, r3⟩
theorem lst_at {K : PySem.W.Frag} {G : Hp} {ds : List D} {a : Addr} (r : Rep K G (.lst ds) (.ref a)) : ∃ vs, G a = some (.lst vs) ∧ Reps K G ds vs := by
  obtain ⟨b, vs, e, h1, h2⟩ := repLst r
  cases e
  exact ⟨vs, h1, h2⟩
/-! ### for row in rows: row[1] = [-part for part in row[2]] -/
def negFlat (ρ : Rho) (k j : Nat) : Bool := (List.range ρ.length).all fun i => i == k || (i == j || (match ρ[i]? with
  | some (some s) => flaS s
  | _ => true))
theorem negFlat_at {ρ : Rho} {k j i : Nat} {s : Sl} (h : negFlat ρ k j = true) (hk : i ≠ k) (hj : i ≠ j) (e : ρ[i]? = some (some s)) : flaS s = true := by
  have hi : i < ρ.length := (List.getElem?_eq_some_iff.mp e).1
  have z := List.all_eq_true.mp h i (List.mem_range.mpr hi)
  rw [e] at z
  have e1 : (i == k) = false := by simpa using hk
  have e2 : (i == j) = false := by simpa using hj
  rw [e1, e2] at z
  exact z
def negAll : List D → Option (List D)
  | [] => some []
  | d :: ds => (negOf d).bind fun e => (negAll ds).map fun es => e :: es
theorem negAll_at : ∀ {ds es : List D}, negAll ds = some es → es.length = ds.length ∧ ∀ (n : Nat) (d : D), ds[n]? = some d → ∃ e, es[n]? = some e ∧ negOf d = some e
  | [], es, h => by
    cases h
    exact ⟨rfl, fun n d e => by simp at e⟩
  | d :: ds, es, h => by
    have h : (negOf d).bind (fun e => (negAll ds).map fun es => e :: es) = some es := h
    cases q1 : negOf d with
    | none => rw [q1] at h; cases h
    | some e =>
      rw [q1] at h
      have h : (negAll ds).map (fun es => e :: es) = some es := h
      cases q2 : negAll ds with
      | none => rw [q2] at h; cases h
      | some r =>
        rw [q2] at h
        cases h
        obtain ⟨a, b⟩ := negAll_at q2
        refine ⟨by simp [a], fun n x hx => ?_⟩
        cases n with
        | zero =>
          simp at hx
          subst hx
          exact ⟨e, rfl, q1⟩
        | succ n =>
          obtain ⟨y, h1, h2⟩ := b n x (by simpa using hx)
          exact ⟨y, by simpa using h1, h2⟩
def negM (k j q : Nat) : M Fl := fun ρ => match ownLst ρ k with
  | none => .no
  | some ds => match negAll ds with
    | none => .no
    | some es => if negFlat ρ k j = true ∧ isFz ρ j = true ∧ noOwn ρ [q] = true ∧ (j < ρ.length ∧ q < ρ.length) ∧ (j ≠ k ∧ q ≠ j ∧ q ≠ k) then (match es.getLast? with
      | none => .ok .nx ρ
      | some l => .ok .nx ((ρ.set k (some (.own (.lst es)))).set j (some (.fz l)))) else .no
/-- the new rows: those that stand at the address a are as they are due -/
def mix (vs : List V) (a : Addr) : List D → List D → Nat → List D
  | d :: ds, e :: es, n => (if vs[n]? = some (.ref a) then e else d) :: mix vs a ds es (n + 1)
  | _, _, _ => []
theorem mix_get {vs : List V} {a : Addr} : ∀ {ds es : List D} {n m : Nat} {d e : D}, ds[m]? = some d → es[m]? = some e → (mix vs a ds es n)[m]? = some (if vs[n + m]? = some (.ref a) then e else d)
  | [], es, n, m, d, e, h, _ => by simp at h
  | d0 :: ds, [], n, m, d, e, _, h => by simp at h
  | d0 :: ds, e0 :: es, n, 0, d, e, h1, h2 => by
    simp at h1 h2
    subst h1 h2
    rfl
  | d0 :: ds, e0 :: es, n, m + 1, d, e, h1, h2 => by
    have z := mix_get (vs := vs) (a := a) (n := n + 1) (m := m) (show ds[m]? = some d by simpa using h1) (show es[m]? = some e by simpa using h2)
    rw [show n + 1 + m = n + (m + 1) by omega] at z
    simpa [mix] using z
theorem mix_len {vs : List V} {a : Addr} : ∀ {ds es : List D} {n : Nat}, es.length = ds.length → (mix vs a ds es n).length = ds.length
  | [], es, n, h => by simp [mix]
  | d :: ds, [], n, h => by simp at h
  | d :: ds, e :: es, n, h => by simp [mix, mix_len (vs := vs) (a := a) (ds := ds) (es := es) (n := n + 1) (by simpa using h)]
theorem Reps.of_get {K : PySem.W.Frag} {G : Hp} : ∀ {ds : List D} {vs : List V}, ds.length = vs.length → (∀ (n : Nat) (d : D) (v : V), ds[n]? = some d → vs[n]? = some v → Rep K G d v) → Reps K G ds vs
  | [], [], _, _ => .nil
  | [], _ :: _, h, _ => by simp at h
  | _ :: _, [], h, _ => by simp at h
  | d :: ds, v :: vs, h, g => .cons (g 0 d v rfl rfl) (Reps.of_get (by simpa using h) fun n d v a b => g (n + 1) d v (by simpa using a) (by simpa using b))
/-- a row that is due, or still as it was -/
def Due (ds es ds' : List D) (i : Nat) : Prop := ds'.length = ds.length ∧ ∀ (n : Nat) (d e : D), ds[n]? = some d → es[n]? = some e → (n < i → ds'[n]? = some e) ∧ (ds'[n]? = some d ∨ ds'[n]? = some e)
/-- a row, whichever it is, at an address -/
theorem due_row {K : PySem.W.Frag} {G : Hp} {d e x : D} {v : V} (h : negOf d = some e) (hx : x = d ∨ x = e) (r : Rep K G x v) : ∃ (xs zs : List D) (ms : List Int) (a b1 b2 b3 : Addr), e = .lst [.lst xs, .lst (ms.map fun n => .int (-n)), .lst (ms.map D.int)] ∧ (∃ ys, x = .lst [.lst xs, .lst ys, .lst (ms.map D.int)] ∧ ys.all scaD = true) ∧ xs.all scaD = true ∧ ms.length ≤ 1000 ∧ zs = ms.map D.int ∧
    v = .ref a ∧ G a = some (.lst [.ref b1, .ref b2, .ref b3]) ∧ Rep K G (.lst xs) (.ref b1) ∧ Rep K G (.lst (ms.map D.int)) (.ref b3) := by
  obtain ⟨xs, ys, ms, rfl, ⟨h1, h2, h3⟩, rfl⟩ := negOf_inv h
  rcases hx with rfl | rfl
  · obtain ⟨a, b1, b2, b3, rfl, g1, g2, g3, g4⟩ := row_rep r
    exact ⟨xs, _, ms, a, b1, b2, b3, rfl, ⟨ys, rfl, h2⟩, h1, h3, rfl, rfl, g1, g2, g4⟩
  · obtain ⟨a, b1, b2, b3, rfl, g1, g2, g3, g4⟩ := row_rep r
    exact ⟨xs, _, ms, a, b1, b2, b3, rfl, ⟨_, rfl, negs_scaD ms⟩, h1, h3, rfl, rfl, g1, g2, g4⟩
end Dn

set_option Elab.async false
set_option linter.all false
set_option maxRecDepth 100000
set_option maxHeartbeats 4000000
/-! Dn19: the rule for `for row in rows: row[1] = [-part for part in row[2]]`. -/
namespace Dn
open PySem PySem.Spec PyProof.Rows L2
/-- the ground after the row at a got its new list at pn -/
theorem row_new {K : PySem.W.Frag} {G : Hp} {xs : List D} {ms : List Int} {a b1 b2 b3 pn : Addr} (hx : xs.all scaD = true) (ga : G a = some (.lst [.ref b1, .ref b2, .ref b3])) (r1 : Rep K G (.lst xs) (.ref b1)) (r3 : Rep K G (.lst (ms.map D.int)) (.ref b3)) (rp : Rep K G (.lst (ms.map fun n => D.int (-n))) (.ref pn)) :
    Rep K (upd G a (.lst [.ref b1, .ref pn, .ref b3])) (.lst [.lst xs, .lst (ms.map fun n => D.int (-n)), .lst (ms.map D.int)]) (.ref a) := by
  refine rep_lst upd_same (.cons (flat_repl (d := .lst xs) hx r1 ga) (.cons (flat_repl (d := .lst (ms.map fun n => D.int (-n))) (negs_scaD ms) rp ga) (.one (flat_repl (d := .lst (ms.map D.int)) (ints_scaD ms) r3 ga))))
theorem row_else {K : PySem.W.Frag} {G : Hp} {d e x : D} {a x0 : Addr} {t : List V} {v : V} {u : HO} (h : negOf d = some e) (hx : x = d ∨ x = e) (r : Rep K G x v) (ne : v ≠ .ref a) (ga : G a = some (.lst (.ref x0 :: t))) : Rep K (upd G a u) x v := by
  have key : ∀ (xs ys : List D) (ms : List Int), x = .lst [.lst xs, .lst ys, .lst (ms.map D.int)] → xs.all scaD = true → ys.all scaD = true → Rep K (upd G a u) x v := by
    rintro xs ys ms rfl h1 h2
    obtain ⟨a', b1, b2, b3, rfl, g1, g2, g3, g4⟩ := row_rep r
    have na : a' ≠ a := fun z => ne (by rw [z])
    exact rep_lst (by rw [upd_ne na]; exact g1) (.cons (flat_repl (d := .lst xs) h1 g2 ga) (.cons (flat_repl (d := .lst ys) h2 g3 ga) (.one (flat_repl (d := .lst (ms.map D.int)) (ints_scaD ms) g4 ga))))
  obtain ⟨xs, ys, ms, rfl, ⟨h1, h2, h3⟩, rfl⟩ := negOf_inv h
  rcases hx with z | z
  · exact key xs ys ms z h1 h2
  · exact key xs _ ms z h1 (negs_scaD ms)
theorem set_back {ρ : Rho} {k j : Nat} {ds : List D} (h : ownLst ρ k = some ds) (hj : j < ρ.length) : (ρ.set k (some (.own (.lst ds)))).set j (ρ[j]?.join) = ρ := by
  have hlk : k < ρ.length := (List.getElem?_eq_some_iff.mp (ownLst_at h)).1
  have a1 : ρ.set k (some (.own (.lst ds))) = ρ := by
    apply List.ext_getElem?
    intro i
    by_cases hi : k = i
    · subst hi
      rw [List.getElem?_set_self hlk, ownLst_at h]
    · rw [List.getElem?_set_ne hi]
  rw [a1]
  apply List.ext_getElem?
  intro i
  by_cases hi : j = i
  · subst hi
    rw [List.getElem?_set_self hj, List.getElem?_eq_getElem hj]
    rfl
  · rw [List.getElem?_set_ne hi]
theorem Due.end_ {ds es ds' : List D} (h : Due ds es ds' ds.length) (el : es.length = ds.length) : ds' = es := by
  apply List.ext_getElem?
  intro n
  by_cases hn : n < ds.length
  · have e1 : ds[n]? = some ds[n] := List.getElem?_eq_getElem hn
    have hn2 : n < es.length := by omega
    have e2 : es[n]? = some es[n] := List.getElem?_eq_getElem hn2
    rw [(h.2 n _ _ e1 e2).1 hn, e2]
  · rw [List.getElem?_eq_none (by have := h.1; omega), List.getElem?_eq_none (by omega)]
theorem Due.step {vs : List V} {a : Addr} {ds es ds' : List D} {i : Nat} (h : Due ds es ds' i) (el : es.length = ds.length) (hv : vs[i]? = some (.ref a)) : Due ds es (mix vs a ds' es 0) (i + 1) := by
  refine ⟨by rw [mix_len (by rw [el, h.1]), h.1], fun n d e h1 h2 => ?_⟩
  have hn : n < ds'.length := by rw [h.1]; exact (List.getElem?_eq_some_iff.mp h1).1
  have g := mix_get (vs := vs) (a := a) (n := 0) (List.getElem?_eq_getElem hn) h2
  rw [Nat.zero_add] at g
  obtain ⟨p1, p2⟩ := h.2 n d e h1 h2
  by_cases hc : vs[n]? = some (.ref a)
  · rw [if_pos hc] at g
    exact ⟨fun _ => g, .inr g⟩
  · rw [if_neg hc] at g
    refine ⟨fun hlt => ?_, ?_⟩
    · have : n ≠ i := fun z => hc (by rw [z]; exact hv)
      have := p1 (by omega)
      rw [List.getElem?_eq_getElem hn] at this
      rw [g, this]
    · rcases p2 with p2 | p2
      · rw [List.getElem?_eq_getElem hn] at p2
        exact .inl (by rw [g, p2])
      · rw [List.getElem?_eq_getElem hn] at p2
        exact .inr (by rw [g, p2])
theorem noOwn_one {ρ : Rho} {q : Nat} : noOwn ρ [q] = true ↔ ∀ o, ρ[q]? ≠ some (some (.own o)) := by
  unfold noOwn
  simp only [List.all_cons, List.all_nil, Bool.and_true]
  constructor
  · intro h o e
    rw [e] at h
    cases h
  · intro h
    split
    · rename_i o e
      exact absurd e (h o)
    · rfl
theorem isFz_join {ρ : Rho} {j : Nat} (h : isFz ρ j = true) (o : OO) : ρ[j]?.join ≠ some (.own o) := by
  unfold isFz at h
  cases e : ρ[j]? with
  | none => exact fun z => nomatch z
  | some s =>
    cases s with
    | none => exact fun z => nomatch z
    | some s =>
      cases s with
      | fz d => exact fun z => nomatch z
      | own o' => rw [e] at h; cases h
/-- the frame without a slot -/
theorem Rl.drop {K : PySem.W.Frag} {c : Cg} {B G H : Hp} {σ : L2.St} {ρ : Rho} (i : Nat) (r : Rl K c B G H σ ρ) : Rl K c B G H σ (ρ.set i none) where
  sub := r.sub
  base := r.base
  ext := r.ext
  fresh := r.fresh
  len := by rw [List.length_set]; exact r.len
  slots := fun j s q => by
    by_cases hj : i = j
    · subst hj
      have hl : i < ρ.length := by
        have := (List.getElem?_eq_some_iff.mp q).1
        simpa using this
      rw [List.getElem?_set_self hl] at q
      cases q
    · rw [List.getElem?_set_ne hj] at q
      exact r.slots j s q
  dist := fun a b o1 o2 w hab q1 q2 q3 => by
    have hl : ∀ {o : OO} {n : Nat}, (ρ.set i none)[n]? = some (some (.own o)) → i ≠ n := fun {o n} q z => by
      subst z
      have hl : i < ρ.length := by
        have := (List.getElem?_eq_some_iff.mp q).1
        simpa using this
      rw [List.getElem?_set_self hl] at q
      cases q
    have na := hl q1
    have nb := hl q2
    rw [List.getElem?_set_ne na] at q1
    rw [List.getElem?_set_ne nb] at q2
    exact r.dist a b o1 o2 w hab q1 q2 q3
  pin := r.pin
/-- the loop's turn: the ground and the frame after the row got its new list -/
theorem neg_turn {K : PySem.W.Frag} {c : Cg} {B G H : Hp} {σ : L2.St} {ρ : Rho} {k j i : Nat} {ds es ds' : List D} {vs : List V} {p a b1 b2 b3 pn : Addr} {d e x : D} {ms : List Int}
    (hG0 : ∀ a o, c.G0 a = some o → ∃ ns : List Int, o = .lst (ns.map V.int)) (hfl : negFlat ρ k j = true) (hlj : j < ρ.length) (hlk : k < ρ.length) (hjk : j ≠ k)
    (eg : ∀ (n : Nat) (d : D), ds[n]? = some d → ∃ e, es[n]? = some e ∧ negOf d = some e) (el : es.length = ds.length)
    (r : Rl K c B G H σ ((ρ.set k (some (.own (.lst ds')))).set j (some (.fz x)))) (due : Due ds es ds' i)
    (hp : H p = some (.lst vs)) (hk : σ[k]? = some (some (.ref p))) (hj : σ[j]? = some (some (.ref a)))
    (hd : ds[i]? = some d) (he : es[i]? = some e) (hne : negOf d = some e) (hx : ds'[i]? = some x) (hv : vs[i]? = some (.ref a))
    (ga : G a = some (.lst [.ref b1, .ref b2, .ref b3])) (r3 : Rep K G (.lst (ms.map D.int)) (.ref b3)) (rp : Rep K G (.lst (ms.map fun n => D.int (-n))) (.ref pn)) :
    Rl K c B (upd G a (.lst [.ref b1, .ref pn, .ref b3])) (upd H a (.lst [.ref b1, .ref pn, .ref b3])) σ ((ρ.set k (some (.own (.lst (mix vs a ds' es 0))))).set j (some (.fz e))) ∧ upd H a (.lst [.ref b1, .ref pn, .ref b3]) p = some (.lst vs) := by
  have own_k : ((ρ.set k (some (.own (.lst ds')))).set j (some (.fz x)))[k]? = some (some (.own (.lst ds'))) := by
    rw [List.getElem?_set_ne hjk, List.getElem?_set_self hlk]
  obtain ⟨u, hu, p0, rfl, gp, bp, vs0, hp0, hvs⟩ := r.slots k _ own_k
  rw [hk] at hu
  cases hu
  rw [hp] at hp0
  cases hp0
  have pa : p ≠ a := fun z => by
    rw [z, ga] at gp
    cases gp
  have ha0 : c.G0 a = none := by
    cases q : c.G0 a with
    | none => rfl
    | some o =>
      obtain ⟨ns, rfl⟩ := hG0 a o q
      have := r.ext a _ q
      rw [ga] at this
      cases ns with
      | nil => cases this
      | cons n ns => cases this
  -- any row at the address a
  have atA : ∀ (n : Nat) (d e y : D), ds[n]? = some d → es[n]? = some e → ds'[n]? = some y → Rep K G y (.ref a) → Rep K (upd G a (.lst [.ref b1, .ref pn, .ref b3])) e (.ref a) := by
    intro n d e y h1 h2 h3 h4
    obtain ⟨e', q1, q2⟩ := eg n d h1
    rw [h2] at q1
    cases q1
    have hy : y = d ∨ y = e := by
      rcases (due.2 n d e h1 h2).2 with z | z
      · rw [h3] at z
        exact .inl (Option.some.inj z)
      · rw [h3] at z
        exact .inr (Option.some.inj z)
    obtain ⟨xs, zs, ns, a', c1, c2, c3, rfl, ⟨ys, hye, hys⟩, hxs, hns, hzs, ea, g1, g2, g3⟩ := due_row q2 hy h4
    cases ea
    rw [ga] at g1
    cases g1
    have emn : ms = ns := by
      obtain ⟨w1, i1, j1⟩ := lst_at r3
      obtain ⟨w2, i2, j2⟩ := lst_at g3
      rw [i1] at i2
      cases i2
      have e1 := Reps.ints_inv j1
      have e2 := Reps.ints_inv j2
      rw [e1] at e2
      have inj : ∀ {l m : List Int}, l.map V.int = m.map V.int → l = m := by
        intro l
        induction l with
        | nil =>
          intro m h
          cases m with
          | nil => rfl
          | cons y m => cases h
        | cons y l ih =>
          intro m h
          cases m with
          | nil => cases h
          | cons z m =>
            have h : V.int y :: l.map V.int = V.int z :: m.map V.int := h
            injection h with h1 h2
            injection h1 with h1
            rw [h1, ih h2]
      exact inj e2
    subst emn
    exact row_new hxs ga g2 r3 rp
  have hrs : Reps K (upd G a (.lst [.ref b1, .ref pn, .ref b3])) (mix vs a ds' es 0) vs := by
    refine Reps.of_get (by rw [mix_len (by rw [el, due.1]), hvs.length]) fun n y v h1 h2 => ?_
    have hn : n < ds'.length := by
      have := (List.getElem?_eq_some_iff.mp h1).1
      rw [mix_len (by rw [el, due.1])] at this
      exact this
    have hn2 : n < es.length := by rw [el, ← due.1]; exact hn
    have hn3 : n < ds.length := by rw [← due.1]; exact hn
    have g := mix_get (vs := vs) (a := a) (n := 0) (List.getElem?_eq_getElem hn) (List.getElem?_eq_getElem hn2)
    rw [Nat.zero_add, h1] at g
    obtain ⟨w, hw, rw'⟩ := hvs.get n _ (List.getElem?_eq_getElem hn)
    rw [h2] at hw
    cases hw
    by_cases hc : vs[n]? = some (.ref a)
    · rw [if_pos hc] at g
      cases g
      rw [h2] at hc
      cases hc
      exact atA n _ _ _ (List.getElem?_eq_getElem hn3) (List.getElem?_eq_getElem hn2) (List.getElem?_eq_getElem hn) rw'
    · rw [if_neg hc] at g
      cases g
      obtain ⟨e', q1, q2⟩ := eg n _ (List.getElem?_eq_getElem hn3)
      have hy := (due.2 n _ _ (List.getElem?_eq_getElem hn3) q1).2
      rw [List.getElem?_eq_getElem hn] at hy
      exact row_else q2 (hy.imp Option.some.inj Option.some.inj) rw' (fun z => hc (by rw [h2, z])) ga
  refine ⟨r.repl ga ha0 (by simp) (fun n s hs => ?_) (fun n o hs => ?_), by rw [upd_ne pa]; exact hp⟩
  · by_cases nj : j = n
    · subst nj
      rw [List.getElem?_set_self (by simpa using hlj)] at hs
      cases hs
      obtain ⟨w, hw, rw'⟩ := hvs.get i _ hx
      rw [hv] at hw
      cases hw
      exact ⟨_, hj, atA i d e x hd he hx rw'⟩
    · rw [List.getElem?_set_ne nj] at hs
      by_cases nk : k = n
      · subst nk
        rw [List.getElem?_set_self hlk] at hs
        cases hs
        refine ⟨_, hk, p, rfl, by rw [upd_ne pa]; exact gp, bp, vs, by rw [upd_ne pa]; exact hp, hrs⟩
      · rw [List.getElem?_set_ne nk] at hs
        obtain ⟨w, w1, w2⟩ := r.slots n s (by rw [List.getElem?_set_ne nj, List.getElem?_set_ne nk]; exact hs)
        exact ⟨w, w1, flaS_repl (negFlat_at hfl (Ne.symm nk) (Ne.symm nj) hs) w2 ga⟩
  · by_cases nj : j = n
    · subst nj
      rw [List.getElem?_set_self (by simpa using hlj)] at hs
      cases hs
    · rw [List.getElem?_set_ne nj] at hs
      rw [List.getElem?_set_ne nj]
      by_cases nk : k = n
      · subst nk
        exact ⟨_, List.getElem?_set_self hlk⟩
      · rw [List.getElem?_set_ne nk] at hs
        exact ⟨_, by rw [List.getElem?_set_ne nk]; exact hs⟩
theorem pds_neg {X : Cx} {c : Cg} {k j q : Nat} {tg e : Expr} {body : List Stmt} {pos : Pos} (hpo : PassesOwn (model X.prog X.w) X.A X.env X.xe) (hc : X.calm = true) (hG0 : ∀ a o, c.G0 a = some o → ∃ ns : List Int, o = .lst (ns.map V.int))
    (hi : PI X tg e (iList X.K (tVar k))) (hg : PG X tg (gName j)) (hb : PSs X body (tAsg (tN X.K c (negE j q)) (gSub (tVar j) (tC (.int 1)) rSetL))) (hpj : npin c j = true) (hpk : npin c k = true) (hs : ∀ x, foldedSetIterable e X.env x = pure x := by intro _; rfl) :
    PS X (.For tg e body [] pos) (tS0 X.K c (negM k j q)) := PS_imp (ps_for hpo hc hi hg hb hs) fun De σ H h => by
  obtain ⟨B, G, ρ, r, h⟩ := h
  unfold negM at h
  cases e0 : ownLst ρ k with
  | none => rw [e0] at h; exact h.elim
  | some ds =>
    rw [e0] at h
    dsimp only at h
    cases e1 : negAll ds with
    | none => rw [e1] at h; exact h.elim
    | some es =>
      rw [e1] at h
      dsimp only at h
      by_cases hcd : negFlat ρ k j = true ∧ isFz ρ j = true ∧ noOwn ρ [q] = true ∧ (j < ρ.length ∧ q < ρ.length) ∧ (j ≠ k ∧ q ≠ j ∧ q ≠ k)
      · rw [if_pos hcd] at h
        obtain ⟨hfl, hzj, hno, ⟨hlj, hlq⟩, hjk, hqj, hqk⟩ := hcd
        obtain ⟨u, hu, p, rfl, gp, bp, vs, hp, hvs⟩ := r.slots k _ (ownLst_at e0)
        obtain ⟨el, eg⟩ := negAll_at e1
        have hlk : k < ρ.length := (List.getElem?_eq_some_iff.mp (ownLst_at e0)).1
        have hlen : vs.length = ds.length := hvs.length
        have start := set_back e0 hlj
        refine ⟨_, hu, p, rfl, ⟨vs, lsq hp⟩, fun i m σ' H' => m = ds.length - i ∧ i ≤ ds.length ∧ ∃ G' ds' rj, Rl X.K c B G' H' σ' ((ρ.set k (some (.own (.lst ds')))).set j rj) ∧ Due ds es ds' i ∧ H' p = some (.lst vs) ∧ σ'[k]? = some (some (.ref p)) ∧ (∀ o, rj ≠ some (.own o)) ∧ (i = 0 → rj = ρ[j]?.join ∧ ds' = ds) ∧ (∀ n, i = n + 1 → ∃ l, es[n]? = some l ∧ rj = some (.fz l)),
          ⟨ds.length, by simp, Nat.zero_le _, G, ds, ρ[j]?.join, by rw [start]; exact r, ⟨rfl, fun n d e h1 h2 => ⟨fun z => absurd z (Nat.not_lt_zero n), .inl h1⟩⟩, hp, hu, fun o z => isFz_join hzj o z, fun _ => ⟨rfl, rfl⟩, fun n z => nomatch z⟩, ?_⟩
        rintro i m σ' H' ⟨rfl, hi, G', ds', rj, r', due, hp', hk', hno', h0, h1⟩
        by_cases hd : i < ds.length
        · have hdi : ds[i]? = some ds[i] := List.getElem?_eq_getElem hd
          obtain ⟨ei, he1, he2⟩ := eg i _ hdi
          have hi' : i < ds'.length := by rw [due.1]; exact hd
          have hxi : ds'[i]? = some ds'[i] := List.getElem?_eq_getElem hi'
          have hyi := (due.2 i _ _ hdi he1).2
          rw [hxi] at hyi
          have hyi := hyi.imp Option.some.inj Option.some.inj
          have own_k : ((ρ.set k (some (.own (.lst ds')))).set j rj)[k]? = some (some (.own (.lst ds'))) := by
            rw [List.getElem?_set_ne hjk, List.getElem?_set_self hlk]
          obtain ⟨u', hu', p0, rfl, gp', bp', vs0, hp0, hvs'⟩ := r'.slots k _ own_k
          rw [hk'] at hu'
          cases hu'
          rw [hp'] at hp0
          cases hp0
          obtain ⟨v, hv, rv⟩ := hvs'.get i _ hxi
          refine .inr ⟨⟨vs, v, lsq hp', hv⟩, fun σ2 H2 => (i + 1 ≤ ds.length ∧ ∃ G' ds' rj, Rl X.K c B G' H2 σ2 ((ρ.set k (some (.own (.lst ds')))).set j rj) ∧ Due ds es ds' (i + 1) ∧ H2 p = some (.lst vs) ∧ σ2[k]? = some (some (.ref p)) ∧ (∀ o, rj ≠ some (.own o)) ∧ (i + 1 = 0 → rj = ρ[j]?.join ∧ ds' = ds) ∧ (∀ n, i + 1 = n + 1 → ∃ l, es[n]? = some l ∧ rj = some (.fz l))), fun σ2 H2 w => ⟨ds.length - (i + 1), by omega, rfl, w⟩, ?_⟩
          rintro x H2 ⟨rfl, hx⟩
          have hx := hx vs (lsq hp')
          rw [hv] at hx
          cases hx
          obtain ⟨xs, zs, ms, a, b1, b2, b3, hee, ⟨ys, hye, hys⟩, hxs, hms, hzs, rfl, ga, rb1, rb3⟩ := due_row he2 hyi rv
          have r1 := r'.put (i := j) (fun w => npin_ok hpj w) rv
          rw [List.set_set] at r1
          have lj : ((ρ.set k (some (.own (.lst ds')))).set j (some (.fz ds'[i])))[j]? = some (some (.fz ds'[i])) := List.getElem?_set_self (by simpa using hlj)
          have hev := negE_eval (j := j) (q := q) (ρ := ((ρ.set k (some (.own (.lst ds')))).set j (some (.fz ds'[i]))).set k none) (x := .lst xs) (y := .lst ys) (ns := ms) (by rw [List.getElem?_set_ne (Ne.symm hjk), lj, hye]) (by simpa using hlq) (noOwn_one.mpr fun o => by
            rw [List.getElem?_set_ne (Ne.symm hqk), List.getElem?_set_ne (Ne.symm hqj), List.getElem?_set_ne (Ne.symm hqk)]
            exact noOwn_one.mp hno o) (Nat.le_trans hms (by decide))
          have hu1 : (σ'.set j (some (.ref a)))[k]? = some (some (.ref p)) := by
            rw [List.getElem?_set_ne hjk]
            exact hk'
          have rd := r1.drop k
          have own1 : ((ρ.set k (some (.own (.lst ds')))).set j (some (.fz ds'[i])))[k]? = some (some (.own (.lst ds'))) := by
            rw [List.getElem?_set_ne hjk, List.getElem?_set_self hlk]
          have nd : New B G' (σ'.set j (some (.ref a))) (((ρ.set k (some (.own (.lst ds')))).set j (some (.fz ds'[i]))).set k none) p := ⟨gp', bp', fun n o hn z => by
            by_cases nk : k = n
            · subst nk
              rw [List.getElem?_set_self (by simpa using hlk)] at hn
              cases hn
            · rw [List.getElem?_set_ne nk] at hn
              exact r1.dist k n _ _ _ nk own1 hn hu1 z⟩
          have rg := rd.guard nd hp'
          refine ⟨_, G', _, rg, ?_⟩
          rw [hev]
          intro G2 H2 s2 r2 pn nw ⟨nv, hpn, hnv⟩
          have hja : (σ'.set j (some (.ref a)))[j]? = some (some (.ref a)) := List.getElem?_set_self (by rw [← r'.len]; simpa using hlj)
          have ga2 := s2 _ _ ga
          refine ⟨_, hja, a, [.ref b1, .ref b2, .ref b3], 1, 1, rfl, rfl, r2.sub _ _ ga2, rfl, ?_⟩
          have r3 := r2.lay nw hpn
          have s3 : Sub G2 (upd G2 pn (.lst nv)) := .new nw.1
          obtain ⟨r4, n4, hpp⟩ := r3.unguard (r'.ext.free gp') bp'
          have r5 := r4.putN (i := k) (o := .lst ds') (npin_ok hpk) n4 ⟨vs, hpp, hvs'.mono (s2.trans s3)⟩
          have t1 : (σ'.set j (some (.ref a))).set k (some (.ref p)) = σ'.set j (some (.ref a)) := by
            apply List.ext_getElem?
            intro n
            by_cases nk : k = n
            · subst nk
              rw [List.getElem?_set_self (List.getElem?_eq_some_iff.mp hu1).1, hu1]
            · rw [List.getElem?_set_ne nk]
          have t2 : (((ρ.set k (some (.own (.lst ds')))).set j (some (.fz ds'[i]))).set k none).set k (some (.own (.lst ds'))) = (ρ.set k (some (.own (.lst ds')))).set j (some (.fz ds'[i])) := by
            rw [List.set_set]
            apply List.ext_getElem?
            intro n
            by_cases nk : k = n
            · subst nk
              rw [List.getElem?_set_self (by simpa using hlk), own1]
            · rw [List.getElem?_set_ne nk]
          rw [t1, t2] at r5
          obtain ⟨q1, q2⟩ := neg_turn hG0 hfl hlj hlk hjk eg el r5 due hpp hu1 hja hdi he1 he2 hxi hv (s3 _ _ ga2) (rb3.mono (s2.trans s3)) (rep_lst upd_same (hnv.mono s3))
          exact ⟨hd, _, _, _, q1, due.step el hv, q2, by rw [List.getElem?_set_ne hjk]; exact hk', fun o z => (nomatch z), fun z => (nomatch z), fun n z => ⟨ei, by cases z; exact he1, rfl⟩⟩
        · have hdi : i = ds.length := by omega
          subst hdi
          have same := due.end_ el
          rw [same] at r'
          refine .inl ⟨⟨vs, lsq hp', by rw [hlen]; exact Nat.le_refl _⟩, ?_⟩
          cases q : ds.length with
          | zero =>
            have : es = [] := List.eq_nil_of_length_eq_zero (by rw [el, q])
            rw [this] at h
            obtain ⟨z1, z2⟩ := h0 q
            rw [z1, ← same, z2, start] at r'
            exact h _ _ _ r'
          | succ n =>
            obtain ⟨l, l1, l2⟩ := h1 n q
            have hl : es.getLast? = some l := by rw [List.getLast?_eq_getElem?, el, q]; exact l1
            rw [hl] at h
            rw [l2] at r'
            exact h _ _ _ r'
      · rw [if_neg hcd] at h
        exact h.elim
/-- the statement as it is written -/
theorem pds_negS {X : Cx} {c : Cg} {k j q : Nat} {r y : Str} {eN : Expr} {p p1 p2 p4 p5 pos pos' : Pos} {jj : Nat} (hpo : PassesOwn (model X.prog X.w) X.A X.env X.xe) (hN : X.N.Nodup) (hG0 : ∀ a o, c.G0 a = some o → ∃ ns : List Int, o = .lst (ns.map V.int))
    (hn : PE X eN (tN X.K c (negE j q))) (hc : X.calm = true := by rfl) (hk : X.N[k]? = some y := by rfl) (hj : X.N[j]? = some r := by rfl)
    (hvk : Vis X.env.scope y := by first | exact Or.inl rfl | exact Or.inr (Or.inl rfl) | exact Or.inr (Or.inr rfl)) (hvj : Vis X.env.scope r := by first | exact Or.inl rfl | exact Or.inr (Or.inl rfl) | exact Or.inr (Or.inr rfl))
    (hlj : Loc X.env.scope r := by first | exact Or.inl rfl | exact Or.inr rfl) (hf : X.fn r = true ∨ X.env.scope.names.lookup r = some .local := by first | exact .inl rfl | exact .inr rfl)
    (d1 : (y == ("__debug__" : Str)) = false := by decide) (d2 : (y == ("__classdict__" : Str)) = false := by decide) (d3 : (r == ("__debug__" : Str)) = false := by decide) (d4 : (r == ("__classdict__" : Str)) = false := by decide)
    (hpj : npin c j = true := by rfl) (hpk : npin c k = true := by rfl)
    (ha : ∀ v, assign (.Subscript (.Name r p) (.Constant (.int 1) jj p4) p5) X.env v = (do
      let ov ← holding [v] (eval (.Name r p) X.env)
      let iv ← holding [v, ov] (eval (.Constant (.int 1) jj p4) X.env)
      standAt p5
      holding [v, ov, iv] (setItem ov iv v)
      release [v, ov, iv] []) := by intro _; rfl)
    (hs : swapsWithSole [.Subscript (.Name r p) (.Constant (.int 1) jj p4) p5] eN pos'.line X.env = pure false := by rfl) (hw : swappedStores [.Subscript (.Name r p) (.Constant (.int 1) jj p4) p5] eN X.env = pure none := by rfl)
    (h1 : (assignEach [.Subscript (.Name r p) (.Constant (.int 1) jj p4) p5] X.env).map (·.2) = [assign (.Subscript (.Name r p) (.Constant (.int 1) jj p4) p5) X.env] := by rfl) :
    PS X (.For (.Name r p1) (.Name y p2) [.Assign [.Subscript (.Name r p) (.Constant (.int 1) jj p4) p5] eN pos'] [] pos) (tS0 X.K c (negM k j q)) :=
  pds_neg hpo hc hG0 (pi_list (pe_var (i := k) hk hvk d1 d2)) (pg_name (i := j) hN hj hlj hf) (pss_one (ps_asg hn (pg_sub (pe_var (i := j) hj hvj d3 d4) pe_int set_list ha) hs hw h1)) hpj hpk
end Dn

set_option Elab.async false
set_option linter.all false
set_option maxRecDepth 100000
set_option maxHeartbeats 400000
/-! P1: what a denotation comes to, piece by piece. -/
namespace Dn
open PySem PySem.Spec PyProof.Rows L2
section
variable {α β : Type} {ρ ρ1 ρ2 ρ3 : Rho}
theorem bind_ok {m : M α} {f : α → M β} {a : α} (h : m ρ = .ok a ρ1) : bind m f ρ = f a ρ1 := by
  unfold bind
  rw [h]
theorem bind_err {m : M α} {f : α → M β} {x : Exn} (h : m ρ = .err x ρ1) : bind m f ρ = .err x ρ1 := by
  unfold bind
  rw [h]
theorem m2_ok {ma mb : M D} {g : D → D → Option D} {x y z : D} (h1 : ma ρ = .ok x ρ1) (h2 : mb ρ1 = .ok y ρ2) (h : g x y = some z) : m2 ma mb g ρ = .ok z ρ2 := by
  unfold m2
  rw [bind_ok h1, bind_ok h2]
  unfold lift
  rw [h]
theorem m1_ok {ma : M D} {g : D → Option D} {x z : D} (h1 : ma ρ = .ok x ρ1) (h : g x = some z) : m1 ma g ρ = .ok z ρ1 := by
  unfold m1
  rw [bind_ok h1]
  unfold lift
  rw [h]
theorem as_nil : mAs aNil ρ = .ok [] ρ := rfl
theorem as_cons {ma : M D} {ra : M (List Pa)} {d : D} {ds : List D} (h1 : ma ρ = .ok d ρ1) (h2 : mAs ra ρ1 = .ok ds ρ2) : mAs (aV ma ra) ρ = .ok (d :: ds) ρ2 := by
  unfold mAs at h2 ⊢
  unfold bind at h2
  cases e : ra ρ1 with
  | no => rw [e] at h2; cases h2
  | err x ρ' => rw [e] at h2; cases h2
  | ok ps ρ' =>
    rw [e] at h2
    have h2 : lift (datas ps) ρ' = .ok ds ρ2 := h2
    unfold lift at h2
    cases q : datas ps with
    | none => rw [q] at h2; cases h2
    | some es =>
      rw [q] at h2
      cases h2
      have h3 : aV ma ra ρ = .ok (.v d :: ps) ρ2 := by
        unfold aV
        rw [bind_ok h1]
        exact bind_ok e
      rw [bind_ok h3]
      show lift ((datas ps).map (d :: ·)) ρ2 = _
      rw [q]
      rfl
theorem as1 {ma : M D} {d : D} (h1 : ma ρ = .ok d ρ1) : mAs (aV ma aNil) ρ = .ok [d] ρ1 := as_cons h1 as_nil
theorem mC_ok {ra : M (List Pa)} {g : List D → Option D} {ds : List D} {z : D} (h : mAs ra ρ = .ok ds ρ1) (hg : g ds = some z) : mC ra g ρ = .ok z ρ1 := by
  unfold mC
  rw [bind_ok h]
  unfold lift
  rw [hg]
theorem mNs_ok {ra : M (List Pa)} {g : List D → Option OO} {ds : List D} {z : OO} (h : mAs ra ρ = .ok ds ρ1) (hg : g ds = some z) : mNs ra g ρ = .ok z ρ1 := by
  unfold mNs
  rw [bind_ok h]
  unfold lift
  rw [hg]
theorem tup_ok {ra : M (List Pa)} {ds : List D} (h : mAs ra ρ = .ok ds ρ1) (hl : ds.length ≤ 16777216 := by simp) : tupM ra ρ = .ok (.tup ds) ρ1 := by
  unfold tupM
  rw [bind_ok h, if_pos hl]
  rfl
theorem lst_ok {ra : M (List Pa)} {ds : List D} (h : mAs ra ρ = .ok ds ρ1) (hl : ds.length ≤ 16777216 := by simp) : lstM ra ρ = .ok (.lst ds) ρ1 := by
  unfold lstM
  rw [bind_ok h, if_pos hl]
  rfl
theorem fz_ok {m : M OO} {ds : List D} (h : m ρ = .ok (.lst ds) ρ1) : fzM m ρ = .ok (.lst ds) ρ1 := by
  unfold fzM
  rw [bind_ok h]
  rfl
theorem ret_ok {ma : M D} {d : D} (h : ma ρ = .ok d ρ1) : retM ma ρ = .ok (.rt d) ρ1 := bind_ok h
theorem drop_ok {ma : M D} {d : D} (h : ma ρ = .ok d ρ1) : dropM ma ρ = .ok .nx ρ1 := bind_ok h
theorem asg_ok {i : Nat} {ma : M D} {d : D} (h : ma ρ = .ok d ρ1) : asgM i ma ρ = .ok .nx (ρ1.set i (some (.fz d))) := bind_ok h
theorem asg2 {i : Nat} {ma : M D} {d : D} {r : Rs Fl} (h : ma ρ = .ok d ρ1) (h2 : Rs.ok Fl.nx (ρ1.set i (some (.fz d))) = r) : asgM i ma ρ = r := (asg_ok h).trans h2
theorem asgN_ok {i : Nat} {ma : M OO} {d : OO} (h : ma ρ = .ok d ρ1) : asgN i ma ρ = .ok .nx (ρ1.set i (some (.own d))) := bind_ok h
theorem asgN2 {i : Nat} {ma : M OO} {d : OO} {r : Rs Fl} (h : ma ρ = .ok d ρ1) (h2 : Rs.ok Fl.nx (ρ1.set i (some (.own d))) = r) : asgN i ma ρ = r := (asgN_ok h).trans h2
theorem seq_ok {a b : M Fl} (h : a ρ = .ok .nx ρ1) : seqM a b ρ = b ρ1 := by
  unfold seqM
  rw [h]
theorem seq2 {a b : M Fl} {r : Rs Fl} (h : a ρ = .ok .nx ρ1) (h2 : b ρ1 = r) : seqM a b ρ = r := (seq_ok h).trans h2
theorem seq_rt {a b : M Fl} {d : D} (h : a ρ = .ok (.rt d) ρ1) : seqM a b ρ = .ok (.rt d) ρ1 := by
  unfold seqM
  rw [h]
theorem seq_bk {a b : M Fl} (h : a ρ = .ok .bk ρ1) : seqM a b ρ = .ok .bk ρ1 := by
  unfold seqM
  rw [h]
theorem seq_err {a b : M Fl} {x : Exn} (h : a ρ = .err x ρ1) : seqM a b ρ = .err x ρ1 := by
  unfold seqM
  rw [h]
theorem ifS_t {t : M Bool} {a b : M Fl} (h : t ρ = .ok true ρ1) : ifS t a b ρ = a ρ1 := bind_ok h
theorem ifS_f {t : M Bool} {a b : M Fl} (h : t ρ = .ok false ρ1) : ifS t a b ρ = b ρ1 := bind_ok h
theorem ifM_t {t : M Bool} {a b : M α} (h : t ρ = .ok true ρ1) : ifM t a b ρ = a ρ1 := bind_ok h
theorem ifM_f {t : M Bool} {a b : M α} (h : t ρ = .ok false ρ1) : ifM t a b ρ = b ρ1 := bind_ok h
theorem mB_ok {m : M D} {b : Bool} (h : m ρ = .ok (.bl b) ρ1) : mB m ρ = .ok b ρ1 := bind_ok h
theorem mT_ok {m : M D} {b : Bool} (h : m ρ = .ok (.bl b) ρ1) : mT m ρ = .ok b ρ1 := bind_ok h
theorem notM_ok {m : M Bool} {b : Bool} (h : m ρ = .ok b ρ1) : notM m ρ = .ok (!b) ρ1 := bind_ok h
theorem or_f {a b : M Bool} (h : a ρ = .ok false ρ1) : orM a b ρ = b ρ1 := bind_ok h
theorem or_t {a b : M Bool} (h : a ρ = .ok true ρ1) : orM a b ρ = .ok true ρ1 := bind_ok h
theorem and_f {a b : M Bool} (h : a ρ = .ok false ρ1) : andM a b ρ = .ok false ρ1 := bind_ok h
theorem and_t {a b : M Bool} (h : a ρ = .ok true ρ1) : andM a b ρ = b ρ1 := bind_ok h
theorem andV_t {a b : M D} (h : a ρ = .ok (.bl true) ρ1) : andV a b ρ = b ρ1 := bind_ok (mB_ok h)
theorem andV_f {a b : M D} (h : a ρ = .ok (.bl false) ρ1) : andV a b ρ = .ok (.bl false) ρ1 := bind_ok (mB_ok h)
theorem it_ok {ma : M D} {d : D} {ds : List D} (h : ma ρ = .ok d ρ1) (hi : items d = some ds) : itM ma ρ = .ok ds ρ1 := by
  unfold itM
  rw [bind_ok h, hi]
  rfl
theorem for_ok {it : M (List D)} {t : Tg} {body : M Fl} {ds : List D} (h : it ρ = .ok ds ρ1) : forM it t body ρ = forL t body ds ρ1 := bind_ok h
theorem for2 {it : M (List D)} {t : Tg} {body : M Fl} {ds : List D} {r : Rs Fl} (h : it ρ = .ok ds ρ1) (h2 : forL t body ds ρ1 = r) : forM it t body ρ = r := (for_ok h).trans h2
theorem ift2 {t : M Bool} {a b : M Fl} {r : Rs Fl} (h : t ρ = .ok true ρ1) (h2 : a ρ1 = r) : ifS t a b ρ = r := (ifS_t h).trans h2
theorem iff2 {t : M Bool} {a b : M Fl} {r : Rs Fl} (h : t ρ = .ok false ρ1) (h2 : b ρ1 = r) : ifS t a b ρ = r := (ifS_f h).trans h2
theorem ifMt2 {t : M Bool} {a b : M α} {r : Rs α} (h : t ρ = .ok true ρ1) (h2 : a ρ1 = r) : ifM t a b ρ = r := (ifM_t h).trans h2
theorem ifMf2 {t : M Bool} {a b : M α} {r : Rs α} (h : t ρ = .ok false ρ1) (h2 : b ρ1 = r) : ifM t a b ρ = r := (ifM_f h).trans h2
theorem orf2 {a b : M Bool} {r : Rs Bool} (h : a ρ = .ok false ρ1) (h2 : b ρ1 = r) : orM a b ρ = r := (or_f h).trans h2
theorem andt2 {a b : M Bool} {r : Rs Bool} (h : a ρ = .ok true ρ1) (h2 : b ρ1 = r) : andM a b ρ = r := (and_t h).trans h2
theorem andVt2 {a b : M D} {r : Rs D} (h : a ρ = .ok (.bl true) ρ1) (h2 : b ρ1 = r) : andV a b ρ = r := (andV_t h).trans h2
theorem seqrt2 {a b : M Fl} {d : D} {r : Rs Fl} (h : a ρ = .ok (.rt d) ρ1) (h2 : Rs.ok (Fl.rt d) ρ1 = r) : seqM a b ρ = r := (seq_rt h).trans h2
theorem ret2 {ma : M D} {d : D} {r : Rs Fl} (h : ma ρ = .ok d ρ1) (h2 : Rs.ok (Fl.rt d) ρ1 = r) : retM ma ρ = r := (ret_ok h).trans h2
theorem zip_ok {ra : M (List Pa)} {d e : D} {xs ys : List D} (h : mAs ra ρ = .ok [d, e] ρ1) (h1 : items d = some xs) (h2 : items e = some ys) : zipM ra ρ = .ok (zipD xs ys) ρ1 := by
  unfold zipM
  rw [bind_ok h]
  show lift ((items d).bind fun xs => (items e).map fun ys => zipD xs ys) ρ1 = _
  rw [h1, h2]
  rfl
theorem rng2_ok {ra : M (List Pa)} {i j : Int} {n : Nat} (h : mAs ra ρ = .ok [.int i, .int j] ρ1) (hi : lim i) (hj : lim j) (hn : (j - i).toNat = n) : rngM2 ra ρ = .ok (rngD i 1 n) ρ1 := by
  subst hn
  unfold rngM2
  rw [bind_ok h]
  show lift (if lim i ∧ lim j then some (rngD i 1 (j - i).toNat) else none) ρ1 = _
  rw [if_pos ⟨hi, hj⟩]
  rfl
theorem tgS_ok {t : Tg} {ma : M D} {d : D} (h : ma ρ = .ok d ρ1) (ht : t d ρ1 = some ρ2) : tgS t ma ρ = .ok .nx ρ2 := by
  unfold tgS
  rw [bind_ok h, ht]
theorem tgT_ok {n : Nat} {t : Tgs} {d : D} {ds : List D} {r : Option Rho} (h : items d = some ds) (hn : ds.length = n) (ht : t ds ρ = r) : tgT n t d ρ = r := by
  unfold tgT
  rw [h]
  show (if ds.length = n then t ds ρ else none) = r
  rw [if_pos hn]
  exact ht
theorem rng1_ok {ra : M (List Pa)} {j : Int} (h : mAs ra ρ = .ok [.int j] ρ1) (hj : lim j) : rngM1 ra ρ = .ok (rngD 0 1 j.toNat) ρ1 := by
  unfold rngM1
  rw [bind_ok h]
  show lift (if lim j then some (rngD 0 1 j.toNat) else none) ρ1 = _
  rw [if_pos hj]
  rfl
theorem fn_rt {msk : List Bool} {n : Nat} {mb : M Fl} {sls : List Sl} {d : D} {os : List (Option OO)} (hk : okM msk sls = true) (hm : mb (sls.map some ++ List.replicate (n - sls.length) none) = .ok (.rt d) ρ) (he : ends msk ρ = some os) : fnDen msk n mb sls = .ok (.rt d) os := by
  unfold fnDen
  rw [if_pos hk, hm]
  show endM msk (.rt d) ρ = _
  unfold endM
  rw [he]
theorem fn_nx {msk : List Bool} {n : Nat} {mb : M Fl} {sls : List Sl} {os : List (Option OO)} (hk : okM msk sls = true) (hm : mb (sls.map some ++ List.replicate (n - sls.length) none) = .ok .nx ρ) (he : ends msk ρ = some os) : fnDen msk n mb sls = .ok (.rt .non) os := by
  unfold fnDen
  rw [if_pos hk, hm]
  show endM msk (.rt .non) ρ = _
  unfold endM
  rw [he]
theorem datas_sls : ∀ {ps : List Pa} {ds : List D}, datas ps = some ds → slotsP ps = [] ∧ slsOf ps ρ = some (ds.map Sl.fz) ∧ putO ps (ds.map fun _ => none) ρ = some ρ
  | [], ds, h => by
    cases h
    exact ⟨rfl, rfl, rfl⟩
  | .v d :: ps, ds, h => by
    have h : (datas ps).map (d :: ·) = some ds := h
    cases q : datas ps with
    | none => rw [q] at h; cases h
    | some es =>
      rw [q] at h
      cases h
      obtain ⟨h1, h2, h3⟩ := datas_sls q
      refine ⟨h1, ?_, h3⟩
      show (slsOf ps ρ).map (.fz d :: ·) = _
      rw [h2]
      rfl
  | .s i :: ps, ds, h => by cases h
theorem mAs_inv {ra : M (List Pa)} {ds : List D} (h : mAs ra ρ = .ok ds ρ1) : ∃ ps, ra ρ = .ok ps ρ1 ∧ datas ps = some ds := by
  unfold mAs bind at h
  cases e : ra ρ with
  | no => rw [e] at h; cases h
  | err x ρ' => rw [e] at h; cases h
  | ok ps ρ' =>
    rw [e] at h
    have h : lift (datas ps) ρ' = .ok ds ρ1 := h
    unfold lift at h
    cases q : datas ps with
    | none => rw [q] at h; cases h
    | some es =>
      rw [q] at h
      cases h
      exact ⟨ps, rfl, q⟩
theorem callR_ok {den : Den} {ps : List Pa} {ds : List D} {r : Out} (h : datas ps = some ds) (hd : den (ds.map Sl.fz) = .ok r (ds.map fun _ => none)) : callR den ps ρ = .ok r ρ := by
  obtain ⟨h1, h2, h3⟩ := datas_sls (ρ := ρ) h
  unfold callR
  rw [h1, if_pos List.nodup_nil, h2]
  show (match den (ds.map Sl.fz) with
    | .ok r os => (match putO ps os ρ with
      | some ρ' => Rs.ok r ρ'
      | none => .no)
    | .err x os => (match putO ps os ρ with
      | some ρ' => .err x ρ'
      | none => .no)
    | .no => .no) = _
  rw [hd]
  show (match putO ps (ds.map fun _ => none) ρ with
      | some ρ' => Rs.ok r ρ'
      | none => .no) = _
  rw [h3]
theorem callR_err {den : Den} {ps : List Pa} {ds : List D} {x : Exn} (h : datas ps = some ds) (hd : den (ds.map Sl.fz) = .err x (ds.map fun _ => none)) : callR den ps ρ = .err x ρ := by
  obtain ⟨h1, h2, h3⟩ := datas_sls (ρ := ρ) h
  unfold callR
  rw [h1, if_pos List.nodup_nil, h2]
  show (match den (ds.map Sl.fz) with
    | .ok r os => (match putO ps os ρ with
      | some ρ' => Rs.ok r ρ'
      | none => .no)
    | .err x os => (match putO ps os ρ with
      | some ρ' => .err x ρ'
      | none => .no)
    | .no => .no) = _
  rw [hd]
  show (match putO ps (ds.map fun _ => none) ρ with
      | some ρ' => Rs.err x ρ'
      | none => .no) = _
  rw [h3]
theorem call_ok {den : Den} {ra : M (List Pa)} {ds : List D} {d : D} (h : mAs ra ρ = .ok ds ρ1) (hd : den (ds.map Sl.fz) = .ok (.rt d) (ds.map fun _ => none)) : callD den ra ρ = .ok d ρ1 := by
  obtain ⟨ps, h1, h2⟩ := mAs_inv h
  unfold callD
  rw [bind_ok (bind_ok h1 |>.trans (callR_ok h2 hd))]
  rfl
theorem call_err {den : Den} {ra : M (List Pa)} {ds : List D} {x : Exn} (h : mAs ra ρ = .ok ds ρ1) (hd : den (ds.map Sl.fz) = .err x (ds.map fun _ => none)) : callD den ra ρ = .err x ρ1 := by
  obtain ⟨ps, h1, h2⟩ := mAs_inv h
  unfold callD
  rw [bind_err (bind_ok h1 |>.trans (callR_err h2 hd))]
/-- a call on an own object and data -/
theorem call_s {den : Den} {k : Nat} {mx : M D} {s : Sl} {d v : D} {o : OO} (hk : ρ[k]? = some (some s)) (hx : mx ρ = .ok d ρ) (hd : den [s, .fz d] = .ok (.rt v) [some o, none]) : callD den (aS k (aV mx aNil)) ρ = .ok v (ρ.set k (some (.own o))) := by
  have h1 : aS k (aV mx aNil) ρ = .ok [.s k, .v d] ρ := by
    unfold aS
    rw [hk]
    show bind (aV mx aNil) (fun ps => ret (.s k :: ps)) ρ = _
    rw [bind_ok (show aV mx aNil ρ = .ok [.v d] ρ from bind_ok hx)]
    rfl
  have h2 : callR den [.s k, .v d] ρ = .ok (.rt v) (ρ.set k (some (.own o))) := by
    unfold callR
    rw [if_pos (by simp [slotsP])]
    show (match (match ρ[k]? with
      | some (some s) => (some [Sl.fz d]).map (s :: ·)
      | _ => none) with
      | none => Rs.no
      | some sls => match den sls with
        | .ok r os => (match putO [.s k, .v d] os ρ with
          | some ρ' => .ok r ρ'
          | none => .no)
        | .err x os => (match putO [.s k, .v d] os ρ with
          | some ρ' => .err x ρ'
          | none => .no)
        | .no => .no) = _
    rw [hk]
    show (match den [s, .fz d] with
        | .ok r os => (match putO [.s k, .v d] os ρ with
          | some ρ' => Rs.ok r ρ'
          | none => .no)
        | .err x os => (match putO [.s k, .v d] os ρ with
          | some ρ' => .err x ρ'
          | none => .no)
        | .no => .no) = _
    rw [hd]
    rfl
  unfold callD
  rw [bind_ok ((bind_ok h1).trans h2)]
  rfl
end
/-! ### comprehensions -/
theorem lcLoop_of {α : Type} {t : Tg} {cond : M Bool} {elt : M D} {vs : List Nat} {ρ : Rho} (g : α → D) (p : α → Bool) (f : α → D) : ∀ (xs : List α) (acc : List D), (∀ x ∈ xs, ∃ ρ1, t (g x) ρ = some ρ1 ∧ cond ρ1 = .ok (p x) ρ1 ∧ (p x = true → elt ρ1 = .ok (f x) ρ1) ∧ wipeR ρ1 vs = ρ) →
    lcLoop t cond elt vs (xs.map g) acc ρ = .ok (acc ++ (xs.filter p).map f) ρ
  | [], acc, _ => by simp [lcLoop]
  | x :: xs, acc, h => by
    obtain ⟨ρ1, h1, h2, h3, h4⟩ := h x List.mem_cons_self
    rw [List.map_cons]
    unfold lcLoop
    rw [h1]
    show (match cond ρ1 with
      | .ok true ρ2 => (match elt ρ2 with
        | .ok x ρ3 => lcLoop t cond elt vs (xs.map g) (acc ++ [x]) (wipeR ρ3 vs)
        | _ => .no)
      | .ok false ρ2 => lcLoop t cond elt vs (xs.map g) acc (wipeR ρ2 vs)
      | _ => .no) = _
    rw [h2]
    cases q : p x with
    | false =>
      show lcLoop t cond elt vs (xs.map g) acc (wipeR ρ1 vs) = _
      rw [h4, lcLoop_of g p f xs acc fun y hy => h y (List.mem_cons_of_mem _ hy), List.filter_cons_of_neg (by simp [q])]
    | true =>
      show (match elt ρ1 with
        | .ok x ρ3 => lcLoop t cond elt vs (xs.map g) (acc ++ [x]) (wipeR ρ3 vs)
        | _ => .no) = _
      rw [h3 q]
      show lcLoop t cond elt vs (xs.map g) (acc ++ [f x]) (wipeR ρ1 vs) = _
      rw [h4, lcLoop_of g p f xs _ fun y hy => h y (List.mem_cons_of_mem _ hy), List.filter_cons_of_pos q]
      simp
theorem lcM_of {α : Type} {it : M (List D)} {t : Tg} {cond : M Bool} {elt : M D} {vs : List Nat} {ρ ρ0 : Rho} {ds : List D} (g : α → D) (p : α → Bool) (f : α → D) (xs : List α) (hi : it ρ0 = .ok ds ρ) (hd : ds = xs.map g) (hz : szOk xs.length) (no : noOwn ρ vs = true) (back : unwipe ρ (wipeR ρ vs) vs = ρ)
    (h : ∀ x ∈ xs, ∃ ρ1, t (g x) (wipeR ρ vs) = some ρ1 ∧ cond ρ1 = .ok (p x) ρ1 ∧ (p x = true → elt ρ1 = .ok (f x) ρ1) ∧ wipeR ρ1 vs = wipeR ρ vs) : lcM it t cond elt vs ρ0 = .ok (.lst ((xs.filter p).map f)) ρ := by
  subst hd
  unfold lcM
  rw [bind_ok hi, if_pos ⟨by rw [List.length_map]; exact hz, no⟩, lcLoop_of g p f xs [] h]
  show Rs.ok (OO.lst ([] ++ (xs.filter p).map f)) (unwipe ρ (wipeR ρ vs) vs) = _
  rw [back, List.nil_append]
theorem lcM_map {α : Type} {it : M (List D)} {t : Tg} {elt : M D} {vs : List Nat} {ρ ρ0 : Rho} {ds : List D} (g : α → D) (f : α → D) (xs : List α) (hi : it ρ0 = .ok ds ρ) (hd : ds = xs.map g) (hz : szOk xs.length) (no : noOwn ρ vs = true) (back : unwipe ρ (wipeR ρ vs) vs = ρ)
    (h : ∀ x ∈ xs, ∃ ρ1, t (g x) (wipeR ρ vs) = some ρ1 ∧ elt ρ1 = .ok (f x) ρ1 ∧ wipeR ρ1 vs = wipeR ρ vs) : lcM it t yesM elt vs ρ0 = .ok (.lst (xs.map f)) ρ := by
  have := lcM_of (cond := yesM) g (fun _ => true) f xs hi hd hz no back fun x hx => by
    obtain ⟨ρ1, h1, h2, h3⟩ := h x hx
    exact ⟨ρ1, h1, rfl, fun _ => h2, h3⟩
  rw [this, List.filter_eq_self.mpr (fun _ _ => rfl)]
theorem zipD_map {α β : Type} (f : α → D) (g : β → D) : ∀ (xs : List α) (ys : List β), zipD (xs.map f) (ys.map g) = (xs.zip ys).map fun p => .tup [f p.1, g p.2]
  | [], ys => by cases ys <;> rfl
  | x :: xs, [] => rfl
  | x :: xs, y :: ys => by
    show D.tup [f x, g y] :: zipD (xs.map f) (ys.map g) = _
    rw [zipD_map f g xs ys]
    rfl
theorem deqs_refl_ints : ∀ ns : List Int, deqs (ns.map D.int) (ns.map D.int) = true
  | [] => rfl
  | n :: ns => by
    show (deq (.int n) (.int n) && deqs (ns.map D.int) (ns.map D.int)) = true
    rw [deqs_refl_ints ns]
    simp [deq]
theorem dNe_int (a b : Int) : dNe (.int a) (.int b) = some (.bl (decide (a ≠ b))) := by
  unfold dNe
  rw [if_pos (show eqOk (.int a) (.int b) = true from rfl)]
  congr 2
  show (!(a == b)) = _
  by_cases h : a = b
  · subst h
    simp
  · simp [h]
theorem dEq_int (a b : Int) : dEq (.int a) (.int b) = some (.bl (decide (a = b))) := by
  unfold dEq
  rw [if_pos (show eqOk (.int a) (.int b) = true from rfl)]
  rfl
end Dn

set_option Elab.async false
set_option linter.all false
set_option maxRecDepth 100000
set_option maxHeartbeats 0
namespace K75
open PySem PySem.Spec PyProof.Rows L2 Dn
section
variable {P : Program} {w : World} {K : PySem.W.Frag} {mg : Str → Option Value} {base h : Heap}
def top (i : Nat) : Stmt := PySem.Challenge.pw_sixpins_k75_determinants_of_any_matrix.main.body.getD i (.Pass ⟨0, 0, 0, 0⟩)
def mk (x : Str) (i : Nat) : He.DefD := ⟨(x, none), x, x, defArgs (top i), defBody (top i), defScope (top i), [], []⟩
def fn : List He.DefD := [mk "is_integer" 6, mk "is_listed" 7, mk "are_integers" 8, mk "is_row" 9, mk "shrunk" 11, mk "plain_of" 12, mk "row_told" 13, mk "mixed_row" 16, mk "place_told" 17, mk "powers_of" 19, mk "product_in" 20, mk "need_matrix" 24, mk "table_at" 25, mk "determinant_in" 26, mk "matrix_at" 27, mk "determinant_form" 28, mk "_law_well" 30, mk "_law_dip" 31, mk "_law_pick" 32, mk "_law_shared" 33, mk "_law_plain" 34, mk "_law_dot" 35, mk "_law_cross" 36, mk "_law_three" 37, mk "_law_third" 38, mk "_law_heard" 39, mk "_law_matrix" 40, mk "law" 41]
def fa : List He.Fa := [.glo "is_integer", .glo "is_listed", .glo "are_integers", .glo "is_row", .glo "shrunk", .glo "plain_of", .glo "row_told", .glo "mixed_row", .glo "place_told", .glo "powers_of", .glo "product_in", .glo "need_matrix", .glo "table_at", .glo "determinant_in", .glo "matrix_at", .glo "determinant_form", .glo "_law_well", .glo "_law_dip", .glo "_law_pick", .glo "_law_shared", .glo "_law_plain", .glo "_law_dot", .glo "_law_cross", .glo "_law_three", .glo "_law_third", .glo "_law_heard", .glo "_law_matrix", .glo "law", .glo "PinError", .glo "BadRow", .glo "BadForm", .free "abs", .free "all", .free "any", .free "bool", .free "enumerate", .free "int", .free "isinstance", .free "len", .free "list"] ++ [.free "range", .free "sum", .free "tuple", .free "zip", .exm "BadRow" "BadRow" true, .exm "BadRow" "BadForm" false, .exm "BadForm" "BadRow" false, .exm "BadForm" "BadForm" true]
def fx : List Fx := [.val "gcd" (.builtin "math.gcd"), .con "WIDE" (.int 4), .con "FORM_WIDE" (.int 20), .con "WAYS" (.kt [.kt [.int 0, .int 1, .int 2, .int 1], .kt [.int 1, .int 2, .int 0, .int 1], .kt [.int 2, .int 0, .int 1, .int 1], .kt [.int 0, .int 2, .int 1, .int (-1)], .kt [.int 2, .int 1, .int 0, .int (-1)], .kt [.int 1, .int 0, .int 2, .int (-1)]])]
def ec_BadRow : EcD := ⟨"BadRow", "BadRow.__init__", inClass (top 3) 0⟩
theorem tx_BadRow : (ec_BadRow).txt := ⟨_, _, _, _, _, _, _, _, _, _, _, _, _, _, rfl, rfl, rfl, rfl⟩
def ec_BadForm : EcD := ⟨"BadForm", "BadForm.__init__", inClass (top 4) 0⟩
theorem tx_BadForm : (ec_BadForm).txt := ⟨_, _, _, _, _, _, _, _, _, _, _, _, _, _, rfl, rfl, rfl, rfl⟩
def ex : List EcD := [ec_BadRow, ec_BadForm]
variable (c : SaysX P fx fa fn ex K) (XK : K.In h) (G : h.Ns mainGlobals mg)
/-! ### is_integer -/
abbrev st_is_integer : Stmt := top 6
theorem sc_is_integer : FnScope ["value"] ["value"] (defScope st_is_integer) := ⟨rfl, rfl, rfl, by decide +kernel, rfl, by decide +kernel, by decide +kernel⟩
def m_is_integer (e : Str → Addr) : M Fl := retM (andV (mC (aV (rdV 0) (aV (ret (.ty "int")) (aNil))) dIsi) (notV (mC (aV (rdV 0) (aV (ret (.ty "bool")) (aNil))) dIsi)))
def den_is_integer (e : Str → Addr) : Den := fnDen [false] 1 (m_is_integer e)
include c XK G in
theorem cd_is_integer : Cd P w K mg base 1 "is_integer" (den_is_integer (He.ga K)) := by
  obtain ⟨fd, F⟩ := c.saysE.says.def_ 0 (d := mk "is_integer" 6) rfl
  refine cd_of F (He.glo_ok XK G (c.saysE.says.fact 0 (f := .glo "is_integer") rfl)) sc_is_integer rfl (fun _ _ _ _ _ _ us hl => match us, hl with | [_], _ => rfl) fun cdv A outer s H vs E Gh hr tk po => ?_
  have nd := (sc_is_integer).nd
  exact pds_one (pds_ret (pd_and (pd_callB cd_isi rfl (He.free_ok XK G (c.saysE.says.fact 37 (f := .free "isinstance") rfl)) Boot.«isinstance» (pda_v (pd_var 0) (pda_v (pd_type "int" rfl (He.free_ok XK G (c.saysE.says.fact 36 (f := .free "int") rfl)) Boot.«int») (pda_nil)))) (pd_one (pd_not (pd_callB cd_isi rfl (He.free_ok XK G (c.saysE.says.fact 37 (f := .free "isinstance") rfl)) Boot.«isinstance» (pda_v (pd_var 0) (pda_v (pd_type "bool" rfl (He.free_ok XK G (c.saysE.says.fact 34 (f := .free "bool") rfl)) Boot.«bool») (pda_nil))))))))
/-! ### is_listed -/
abbrev st_is_listed : Stmt := top 7
theorem sc_is_listed : FnScope ["value"] ["value"] (defScope st_is_listed) := ⟨rfl, rfl, rfl, by decide +kernel, rfl, by decide +kernel, by decide +kernel⟩
def m_is_listed (e : Str → Addr) : M Fl := retM (mIsT (rdV 0) ["list", "tuple"])
def den_is_listed (e : Str → Addr) : Den := fnDen [false] 1 (m_is_listed e)
include c XK G in
theorem cd_is_listed : Cd P w K mg base 1 "is_listed" (den_is_listed (He.ga K)) := by
  obtain ⟨fd, F⟩ := c.saysE.says.def_ 1 (d := mk "is_listed" 7) rfl
  refine cd_of F (He.glo_ok XK G (c.saysE.says.fact 1 (f := .glo "is_listed") rfl)) sc_is_listed rfl (fun _ _ _ _ _ _ us hl => match us, hl with | [_], _ => rfl) fun cdv A outer s H vs E Gh hr tk po => ?_
  have nd := (sc_is_listed).nd
  exact pds_one (pds_ret (pd_isT rfl (He.free_ok XK G (c.saysE.says.fact 37 (f := .free "isinstance") rfl)) Boot.«isinstance» (pd_var 0) (pe_type "list" rfl (He.free_ok XK G (c.saysE.says.fact 39 (f := .free "list") rfl)) Boot.«list») (pe_type "tuple" rfl (He.free_ok XK G (c.saysE.says.fact 42 (f := .free "tuple") rfl)) Boot.«tuple»)))
/-! ### are_integers -/
abbrev st_are_integers : Stmt := top 8
theorem sc_are_integers : FnScope ["value", "many", "part"] ["value", "many"] (defScope st_are_integers) := ⟨rfl, rfl, rfl, by decide +kernel, rfl, by decide +kernel, by decide +kernel⟩
def m_are_integers (e : Str → Addr) : M Fl := retM (andV (callD (den_is_listed e) (aV (rdV 0) (aNil))) (andV (m2 (mC (aV (rdV 0) (aNil)) dLen) (rdV 1) dEq) (mC (aV (fzM (lcM (itM (rdV 0)) (tgN 2) (yesM) (callD (den_is_integer e) (aV (rdV 2) (aNil))) [2])) (aNil)) dAll)))
def den_are_integers (e : Str → Addr) : Den := fnDen [false, false] 3 (m_are_integers e)
include c XK G in
theorem cd_are_integers : Cd P w K mg base 2 "are_integers" (den_are_integers (He.ga K)) := by
  obtain ⟨fd, F⟩ := c.saysE.says.def_ 2 (d := mk "are_integers" 8) rfl
  refine cd_of F (He.glo_ok XK G (c.saysE.says.fact 2 (f := .glo "are_integers") rfl)) sc_are_integers rfl (fun _ _ _ _ _ _ us hl => match us, hl with | [_, _], _ => rfl) fun cdv A outer s H vs E Gh hr tk po => ?_
  have nd := (sc_are_integers).nd
  exact pds_one (pds_ret (pd_and (pd_call (cd_is_listed c XK G) (hr.mono (by decide)) tk rfl (pda_v (pd_var 0) (pda_nil))) (pd_and (pd_cmp (od_eq (hu64 hr)) (pd_callB cd_len rfl (He.free_ok XK G (c.saysE.says.fact 38 (f := .free "len") rfl)) Boot.«len» (pda_v (pd_var 0) (pda_nil))) (pd_var 1) (nomark _)) (pd_one (pd_callB (cd_all rfl) rfl (He.free_ok XK G (c.saysE.says.fact 32 (f := .free "all") rfl)) Boot.«all» (pda_v (pd_fz (pdn_lc (own := [("part", 2)]) rfl nd (pdi_seq (pd_var 0)) (blkOk_by (by kernel_rfl)) (fun _ _ _ _ _ => pdg_name (i := 2) nd) (fun _ _ _ _ _ => pts_yes) (fun _ _ _ _ _ => pd_call (cd_is_integer c XK G) (hr.mono (by decide)) takes0 rfl (pda_v (pd_var 2) (pda_nil))))) (pda_nil)))))))
/-! ### is_row -/
abbrev st_is_row : Stmt := top 9
theorem sc_is_row : FnScope ["value", "many", "part"] ["value", "many"] (defScope st_is_row) := ⟨rfl, rfl, rfl, by decide +kernel, rfl, by decide +kernel, by decide +kernel⟩
def m_is_row (e : Str → Addr) : M Fl := retM (andV (callD (den_are_integers e) (aV (rdV 0) (aV (rdV 1) (aNil)))) (mC (aV (fzM (lcM (itM (rdV 0)) (tgN 2) (yesM) (m2 (rdV 2) (ret (.int 0)) dNe) [2])) (aNil)) dAny))
def den_is_row (e : Str → Addr) : Den := fnDen [false, false] 3 (m_is_row e)
include c XK G in
theorem cd_is_row : Cd P w K mg base 3 "is_row" (den_is_row (He.ga K)) := by
  obtain ⟨fd, F⟩ := c.saysE.says.def_ 3 (d := mk "is_row" 9) rfl
  refine cd_of F (He.glo_ok XK G (c.saysE.says.fact 3 (f := .glo "is_row") rfl)) sc_is_row rfl (fun _ _ _ _ _ _ us hl => match us, hl with | [_, _], _ => rfl) fun cdv A outer s H vs E Gh hr tk po => ?_
  have nd := (sc_is_row).nd
  exact pds_one (pds_ret (pd_and (pd_call (cd_are_integers c XK G) (hr.mono (by decide)) tk rfl (pda_v (pd_var 0) (pda_v (pd_var 1) (pda_nil)))) (pd_one (pd_callB (cd_any rfl) rfl (He.free_ok XK G (c.saysE.says.fact 33 (f := .free "any") rfl)) Boot.«any» (pda_v (pd_fz (pdn_lc (own := [("part", 2)]) rfl nd (pdi_seq (pd_var 0)) (blkOk_by (by kernel_rfl)) (fun _ _ _ _ _ => pdg_name (i := 2) nd) (fun _ _ _ _ _ => pts_yes) (fun _ _ _ _ _ => pd_cmp (od_ne (hu64 hr)) (pd_var 2) (pd_int) (nomark _)))) (pda_nil))))))
/-! ### shrunk -/
abbrev st_shrunk : Stmt := top 11
theorem sc_shrunk : FnScope ["row", "shared", "part"] ["row"] (defScope st_shrunk) := ⟨rfl, rfl, rfl, by decide +kernel, rfl, by decide +kernel, by decide +kernel⟩
def m_shrunk (e : Str → Addr) : M Fl := seqM (asgM 1 (ret (.int 0))) (seqM (forM (itM (rdV 0)) (tgN 2) (asgM 1 (mC (aV (rdV 1) (aV (rdV 2) (aNil))) dGcd))) (retM (ifM (mB (m2 (rdV 1) (ret (.int 1)) dGt)) (mC (aV (fzM (lcM (itM (rdV 0)) (tgN 2) (yesM) (m2 (rdV 2) (rdV 1) dFdiv) [2])) (aNil)) dTuple) (mC (aV (rdV 0) (aNil)) dTuple))))
def den_shrunk (e : Str → Addr) : Den := fnDen [false] 3 (m_shrunk e)
include c XK G in
theorem cd_shrunk : Cd P w K mg base 1 "shrunk" (den_shrunk (He.ga K)) := by
  obtain ⟨fd, F⟩ := c.saysE.says.def_ 4 (d := mk "shrunk" 11) rfl
  refine cd_of F (He.glo_ok XK G (c.saysE.says.fact 4 (f := .glo "shrunk") rfl)) sc_shrunk rfl (fun _ _ _ _ _ _ us hl => match us, hl with | [_], _ => rfl) fun cdv A outer s H vs E Gh hr tk po => ?_
  have nd := (sc_shrunk).nd
  exact pds_cons (pds_set (i := 1) nd (pd_int)) (pds_cons (pds_for po rfl (pdi_seq (pd_var 0)) (pdg_name (i := 2) nd) (pds_one (pds_set (i := 1) nd (pd_callF cd_gcd rfl (val_ok XK G (c.saysE.fx 0 (f := .val "gcd" (.builtin "math.gcd")) rfl)) (pda_v (pd_var 1) (pda_v (pd_var 2) (pda_nil))))))) (pds_one (pds_ret (pd_ifExp (pd_tcmp od_gt (pd_var 1) (pd_int) (nomark _)) (pd_callTy cd_tuple rfl (He.free_ok XK G (c.saysE.says.fact 42 (f := .free "tuple") rfl)) Boot.«tuple» (pda_v (pd_fz (pdn_lc (own := [("part", 2)]) rfl nd (pdi_seq (pd_var 0)) (blkOk_by (by kernel_rfl)) (fun _ _ _ _ _ => pdg_name (i := 2) nd) (fun _ _ _ _ _ => pts_yes) (fun _ _ _ _ _ => pd_op od_fdiv (pd_var 2) (pd_var 1)))) (pda_nil))) (pd_callTy cd_tuple rfl (He.free_ok XK G (c.saysE.says.fact 42 (f := .free "tuple") rfl)) Boot.«tuple» (pda_v (pd_var 0) (pda_nil)))))))
/-! ### plain_of -/
abbrev st_plain_of : Stmt := top 12
theorem sc_plain_of : FnScope ["row", "found", "part"] ["row"] (defScope st_plain_of) := ⟨rfl, rfl, rfl, by decide +kernel, rfl, by decide +kernel, by decide +kernel⟩
def m_plain_of (e : Str → Addr) : M Fl := seqM (asgM 1 (callD (den_shrunk e) (aV (rdV 0) (aNil)))) (retM (ifM (mB (m2 (m2 (fzM (lcM (itM (rdV 1)) (tgN 2) (mB (m2 (rdV 2) (ret (.int 0)) dNe)) (rdV 2) [2])) (ret (.int 0)) dIx) (ret (.int 0)) dGt)) (rdV 1) (mC (aV (fzM (lcM (itM (rdV 1)) (tgN 2) (yesM) (m1 (rdV 2) dNeg) [2])) (aNil)) dTuple)))
def den_plain_of (e : Str → Addr) : Den := fnDen [false] 3 (m_plain_of e)
include c XK G in
theorem cd_plain_of : Cd P w K mg base 2 "plain_of" (den_plain_of (He.ga K)) := by
  obtain ⟨fd, F⟩ := c.saysE.says.def_ 5 (d := mk "plain_of" 12) rfl
  refine cd_of F (He.glo_ok XK G (c.saysE.says.fact 5 (f := .glo "plain_of") rfl)) sc_plain_of rfl (fun _ _ _ _ _ _ us hl => match us, hl with | [_], _ => rfl) fun cdv A outer s H vs E Gh hr tk po => ?_
  have nd := (sc_plain_of).nd
  exact pds_cons (pds_set (i := 1) nd (pd_call (cd_shrunk c XK G) (hr.mono (by decide)) tk rfl (pda_v (pd_var 0) (pda_nil)))) (pds_one (pds_ret (pd_ifExp (pd_tcmp od_gt (pd_ix (pd_fz (pdn_lc (own := [("part", 2)]) rfl nd (pdi_seq (pd_var 1)) (blkOk_by (by kernel_rfl)) (fun _ _ _ _ _ => pdg_name (i := 2) nd) (fun _ _ _ _ _ => pts_one (pd_tcmp (od_ne (hu64 hr)) (pd_var 2) (pd_int) (nomark _))) (fun _ _ _ _ _ => pd_var 2))) (pd_int)) (pd_int) (nomark _)) (pd_var 1) (pd_callTy cd_tuple rfl (He.free_ok XK G (c.saysE.says.fact 42 (f := .free "tuple") rfl)) Boot.«tuple» (pda_v (pd_fz (pdn_lc (own := [("part", 2)]) rfl nd (pdi_seq (pd_var 1)) (blkOk_by (by kernel_rfl)) (fun _ _ _ _ _ => pdg_name (i := 2) nd) (fun _ _ _ _ _ => pts_yes) (fun _ _ _ _ _ => pd_un ud_neg (pd_var 2)))) (pda_nil))))))
/-! ### row_told -/
abbrev st_row_told : Stmt := top 13
theorem sc_row_told : FnScope ["value", "many", "part"] ["value", "many", "part"] (defScope st_row_told) := ⟨rfl, rfl, rfl, by decide +kernel, rfl, by decide +kernel, by decide +kernel⟩
def m_row_told (e : Str → Addr) : M Fl := seqM (ifS (notM (mT (callD (den_is_row e) (aV (rdV 0) (aV (rdV 1) (aNil)))))) (raiseM (e "BadRow") (rdV 2)) (nextM)) (retM (callD (den_plain_of e) (aV (rdV 0) (aNil))))
def den_row_told (e : Str → Addr) : Den := fnDen [false, false, false] 3 (m_row_told e)
include c XK G in
theorem cd_row_told : Cd P w K mg base 4 "row_told" (den_row_told (He.ga K)) := by
  obtain ⟨fd, F⟩ := c.saysE.says.def_ 6 (d := mk "row_told" 13) rfl
  refine cd_of F (He.glo_ok XK G (c.saysE.says.fact 6 (f := .glo "row_told") rfl)) sc_row_told rfl (fun _ _ _ _ _ _ us hl => match us, hl with | [_, _, _], _ => rfl) fun cdv A outer s H vs E Gh hr tk po => ?_
  have nd := (sc_row_told).nd
  exact pds_cons (pds_if (pd_tnot (pd_truth (pd_call (cd_is_row c XK G) (hr.mono (by decide)) tk rfl (pda_v (pd_var 0) (pda_v (pd_var 1) (pda_nil)))))) (pds_one (pds_raise (c.err 0 tx_BadRow) (He.glo_ok XK G (c.saysE.says.fact 29 (f := .glo "BadRow") rfl)) hr tk (pd_var 2))) (pds_nil)) (pds_one (pds_ret (pd_call (cd_plain_of c XK G) (hr.mono (by decide)) tk rfl (pda_v (pd_var 0) (pda_nil)))))
/-! ### mixed_row -/
abbrev st_mixed_row : Stmt := top 16
theorem sc_mixed_row : FnScope ["first", "one", "second", "other", "mine", "its"] ["first", "one", "second", "other"] (defScope st_mixed_row) := ⟨rfl, rfl, rfl, by decide +kernel, rfl, by decide +kernel, by decide +kernel⟩
def m_mixed_row (e : Str → Addr) : M Fl := retM (mC (aV (fzM (lcM (zipM (aV (rdV 1) (aV (rdV 3) (aNil)))) (tgT 2 (tgsCons (tgN 4) (tgsCons (tgN 5) (tgsNil)))) (yesM) (m2 (m2 (rdV 0) (rdV 4) dMul) (m2 (rdV 2) (rdV 5) dMul) dAdd) [4, 5])) (aNil)) dTuple)
def den_mixed_row (e : Str → Addr) : Den := fnDen [false, false, false, false] 6 (m_mixed_row e)
include c XK G in
theorem cd_mixed_row : Cd P w K mg base 1 "mixed_row" (den_mixed_row (He.ga K)) := by
  obtain ⟨fd, F⟩ := c.saysE.says.def_ 7 (d := mk "mixed_row" 16) rfl
  refine cd_of F (He.glo_ok XK G (c.saysE.says.fact 7 (f := .glo "mixed_row") rfl)) sc_mixed_row rfl (fun _ _ _ _ _ _ us hl => match us, hl with | [_, _, _, _], _ => rfl) fun cdv A outer s H vs E Gh hr tk po => ?_
  have nd := (sc_mixed_row).nd
  exact pds_one (pds_ret (pd_callTy cd_tuple rfl (He.free_ok XK G (c.saysE.says.fact 42 (f := .free "tuple") rfl)) Boot.«tuple» (pda_v (pd_fz (pdn_lc (own := [("mine", 4), ("its", 5)]) rfl nd (pdi_zip rfl (He.free_ok XK G (c.saysE.says.fact 43 (f := .free "zip") rfl)) (pda_v (pd_var 1) (pda_v (pd_var 3) (pda_nil)))) (blkOk_by (by kernel_rfl)) (fun _ _ _ _ _ => pdg_t (n := 2) rfl (pdgs_c (pdg_name (i := 4) nd) (pdgs_c (pdg_name (i := 5) nd) (pdgs_nil)))) (fun _ _ _ _ _ => pts_yes) (fun _ _ _ _ _ => pd_op od_add (pd_op od_mul (pd_var 0) (pd_var 4)) (pd_op od_mul (pd_var 2) (pd_var 5))))) (pda_nil))))
/-! ### place_told -/
abbrev st_place_told : Stmt := top 17
theorem sc_place_told : FnScope ["value", "part"] ["value", "part"] (defScope st_place_told) := ⟨rfl, rfl, rfl, by decide +kernel, rfl, by decide +kernel, by decide +kernel⟩
def m_place_told (e : Str → Addr) : M Fl := retM (callD (den_row_told e) (aV (rdV 0) (aV (ret (.int 4)) (aV (rdV 1) (aNil)))))
def den_place_told (e : Str → Addr) : Den := fnDen [false, false] 2 (m_place_told e)
include c XK G in
theorem cd_place_told : Cd P w K mg base 5 "place_told" (den_place_told (He.ga K)) := by
  obtain ⟨fd, F⟩ := c.saysE.says.def_ 8 (d := mk "place_told" 17) rfl
  refine cd_of F (He.glo_ok XK G (c.saysE.says.fact 8 (f := .glo "place_told") rfl)) sc_place_told rfl (fun _ _ _ _ _ _ us hl => match us, hl with | [_, _], _ => rfl) fun cdv A outer s H vs E Gh hr tk po => ?_
  have nd := (sc_place_told).nd
  exact pds_one (pds_ret (pd_call (cd_row_told c XK G) (hr.mono (by decide)) tk rfl (pda_v (pd_var 0) (pda_v (pd_con (con_ok XK G (c.saysE.fx 1 (f := .con "WIDE" (.int 4)) rfl))) (pda_v (pd_var 1) (pda_nil))))))
/-! ### powers_of -/
abbrev st_powers_of : Stmt := top 19
theorem sc_powers_of : FnScope ["letters", "degree", "power", "rest"] ["letters", "degree"] (defScope st_powers_of) := ⟨rfl, rfl, rfl, by decide +kernel, rfl, by decide +kernel, by decide +kernel⟩
def m_powers_of (e : Str → Addr) (rec : Den) : M Fl := seqM (ifS (mB (m2 (rdV 0) (ret (.int 1)) dEq)) (retM (fzM (lstM (aV (tupM (aV (rdV 1) (aNil))) (aNil))))) (nextM)) (retM (fzM (lcM2 (rngM3 (aV (rdV 1) (aV (m1 (ret (.int 1)) dNeg) (aV (m1 (ret (.int 1)) dNeg) (aNil))))) (tgN 2) (yesM) (itM (callD rec (aV (m2 (rdV 0) (ret (.int 1)) dSub) (aV (m2 (rdV 1) (rdV 2) dSub) (aNil))))) (tgN 3) (yesM) (tupM (aV (rdV 2) (aStar (rdV 3) (aNil)))) [2, 3] [3])))
def den_powers_of (e : Str → Addr) : Nat → Den
  | 0 => fun _ => .no
  | n + 1 => fnDen [false, false] 4 (m_powers_of e (den_powers_of e n))
include c XK G in
theorem cd_powers_of : ∀ n, Cd P w K mg base (0 + n) "powers_of" (den_powers_of (He.ga K) n)
  | 0 => by
    obtain ⟨fd, F⟩ := c.saysE.says.def_ 9 (d := mk "powers_of" 19) rfl
    exact cd_zero (st := st_powers_of) (ps := ["letters", "degree"]) F (He.glo_ok XK G (c.saysE.says.fact 9 (f := .glo "powers_of") rfl)) (fun _ _ _ _ _ _ us hl => match us, hl with | [_, _], _ => rfl)
  | n + 1 => by
    have ih := cd_powers_of n
    obtain ⟨fd, F⟩ := c.saysE.says.def_ 9 (d := mk "powers_of" 19) rfl
    refine cd_of F (He.glo_ok XK G (c.saysE.says.fact 9 (f := .glo "powers_of") rfl)) sc_powers_of rfl (fun _ _ _ _ _ _ us hl => match us, hl with | [_, _], _ => rfl) fun cdv A outer s H vs E Gh hr tk po => ?_
    have nd := (sc_powers_of).nd
    exact pds_cons (pds_if (pd_tcmp (od_eq (hu64 hr)) (pd_var 0) (pd_int) (nomark _)) (pds_one (pds_ret (pd_fz (pdn_lst (pda_v (pd_tup (pda_v (pd_var 1) (pda_nil))) (pda_nil)))))) (pds_nil)) (pds_one (pds_ret (pd_fz (pdn_lc2 (own := [("power", 2), ("rest", 3)]) (vs1 := [3]) rfl nd (pdi_rng3 rfl (He.free_ok XK G (c.saysE.says.fact 40 (f := .free "range") rfl)) (pda_v (pd_var 1) (pda_v (pd_un ud_neg (pd_int)) (pda_v (pd_un ud_neg (pd_int)) (pda_nil))))) (blkOk_by (by kernel_rfl)) (fun _ _ _ _ _ => pdg_name (i := 2) nd) (fun _ _ _ _ _ => pts_yes) (fun _ _ _ _ _ => pdi_seq (pd_call (ih) hr takes0 rfl (pda_v (pd_op od_sub (pd_var 0) (pd_int)) (pda_v (pd_op od_sub (pd_var 1) (pd_var 2)) (pda_nil))))) (fun _ _ _ _ _ => pdg_name (i := 3) nd) (fun _ _ _ _ _ => pts_yes) (fun _ _ _ _ _ => pd_tup (pda_v (pd_var 2) (pda_star (pd_var 3) (pda_nil))))))))
/-! ### product_in -/
abbrev st_product_in : Stmt := top 20
theorem sc_product_in : FnScope ["one", "other", "letters", "degree", "further", "found", "ahead", "behind", "mine", "first", "its", "second", "powers", "number", "power", "more"] ["one", "other", "letters", "degree", "further"] (defScope st_product_in) := ⟨rfl, rfl, rfl, by decide +kernel, rfl, by decide +kernel, by decide +kernel⟩
def m_product_in (e : Str → Addr) : M Fl := seqM (asgN 5 (dcM (itM (callD (den_powers_of e 4) (aV (rdV 2) (aV (m2 (rdV 3) (rdV 4) dAdd) (aNil))))) (tgN 12) (rdV 12) (ret (.int 0)) [12])) (seqM (asgM 6 (fzM (lcM (zipM (aV (rdV 0) (aV (callD (den_powers_of e 4) (aV (rdV 2) (aV (rdV 3) (aNil)))) (aNil)))) (tgT 2 (tgsCons (tgN 13) (tgsCons (tgN 12) (tgsNil)))) (mB (m2 (rdV 13) (ret (.int 0)) dNe)) (tupM (aV (rdV 13) (aV (rdV 12) (aNil)))) [13, 12]))) (seqM (asgM 7 (fzM (lcM (zipM (aV (rdV 1) (aV (callD (den_powers_of e 4) (aV (rdV 2) (aV (rdV 4) (aNil)))) (aNil)))) (tgT 2 (tgsCons (tgN 13) (tgsCons (tgN 12) (tgsNil)))) (mB (m2 (rdV 13) (ret (.int 0)) dNe)) (tupM (aV (rdV 13) (aV (rdV 12) (aNil)))) [13, 12]))) (seqM (forM (itM (rdV 6)) (tgT 2 (tgsCons (tgN 8) (tgsCons (tgN 9) (tgsNil)))) (forM (itM (rdV 7)) (tgT 2 (tgsCons (tgN 10) (tgsCons (tgN 11) (tgsNil)))) (augM 5 (mC (aV (fzM (lcM (zipM (aV (rdV 9) (aV (rdV 11) (aNil)))) (tgT 2 (tgsCons (tgN 14) (tgsCons (tgN 15) (tgsNil)))) (yesM) (m2 (rdV 14) (rdV 15) dAdd) [14, 15])) (aNil)) dTuple) (m2 (rdV 8) (rdV 10) dMul)))) (retM (tvM 5)))))
def den_product_in (e : Str → Addr) : Den := fnDen [false, false, false, false, false] 16 (m_product_in e)
include c XK G in
theorem cd_product_in : Cd P w K mg base 5 "product_in" (den_product_in (He.ga K)) := by
  obtain ⟨fd, F⟩ := c.saysE.says.def_ 10 (d := mk "product_in" 20) rfl
  refine cd_of F (He.glo_ok XK G (c.saysE.says.fact 10 (f := .glo "product_in") rfl)) sc_product_in rfl (fun _ _ _ _ _ _ us hl => match us, hl with | [_, _, _, _, _], _ => rfl) fun cdv A outer s H vs E Gh hr tk po => ?_
  have nd := (sc_product_in).nd
  exact pds_cons (pds_dcN (i := 5) (own := [("powers", 12)]) (hu64 hr) rfl nd (pdi_seq (pd_call (cd_powers_of c XK G 4) (hr.mono (by decide)) tk rfl (pda_v (pd_var 2) (pda_v (pd_op od_add (pd_var 3) (pd_var 4)) (pda_nil))))) (blkOk_by (by kernel_rfl)) (fun _ _ _ _ _ => pdg_name (i := 12) nd) (fun _ _ _ _ _ => pd_var 12) (fun _ _ _ _ _ => pd_int) rfl) (pds_cons (pds_lc (i := 6) (own := [("number", 13), ("powers", 12)]) rfl nd (pdi_zip rfl (He.free_ok XK G (c.saysE.says.fact 43 (f := .free "zip") rfl)) (pda_v (pd_var 0) (pda_v (pd_call (cd_powers_of c XK G 4) (hr.mono (by decide)) tk rfl (pda_v (pd_var 2) (pda_v (pd_var 3) (pda_nil)))) (pda_nil)))) (blkOk_by (by kernel_rfl)) (fun _ _ _ _ _ => pdg_t (n := 2) rfl (pdgs_c (pdg_name (i := 13) nd) (pdgs_c (pdg_name (i := 12) nd) (pdgs_nil)))) (fun _ _ _ _ _ => pts_one (pd_tcmp (od_ne (hu64 hr)) (pd_var 13) (pd_int) (nomark _))) (fun _ _ _ _ _ => pd_tup (pda_v (pd_var 13) (pda_v (pd_var 12) (pda_nil)))) rfl) (pds_cons (pds_lc (i := 7) (own := [("number", 13), ("powers", 12)]) rfl nd (pdi_zip rfl (He.free_ok XK G (c.saysE.says.fact 43 (f := .free "zip") rfl)) (pda_v (pd_var 1) (pda_v (pd_call (cd_powers_of c XK G 4) (hr.mono (by decide)) tk rfl (pda_v (pd_var 2) (pda_v (pd_var 4) (pda_nil)))) (pda_nil)))) (blkOk_by (by kernel_rfl)) (fun _ _ _ _ _ => pdg_t (n := 2) rfl (pdgs_c (pdg_name (i := 13) nd) (pdgs_c (pdg_name (i := 12) nd) (pdgs_nil)))) (fun _ _ _ _ _ => pts_one (pd_tcmp (od_ne (hu64 hr)) (pd_var 13) (pd_int) (nomark _))) (fun _ _ _ _ _ => pd_tup (pda_v (pd_var 13) (pda_v (pd_var 12) (pda_nil)))) rfl) (pds_cons (pds_for po rfl (pdi_seq (pd_var 6)) (pdg_t (n := 2) rfl (pdgs_c (pdg_name (i := 8) nd) (pdgs_c (pdg_name (i := 9) nd) (pdgs_nil)))) (pds_one (pds_for po rfl (pdi_seq (pd_var 7)) (pdg_t (n := 2) rfl (pdgs_c (pdg_name (i := 10) nd) (pdgs_c (pdg_name (i := 11) nd) (pdgs_nil)))) (pds_one (pds_aug 5 (hu64 hr) (pd_callTy cd_tuple rfl (He.free_ok XK G (c.saysE.says.fact 42 (f := .free "tuple") rfl)) Boot.«tuple» (pda_v (pd_fz (pdn_lc (own := [("power", 14), ("more", 15)]) rfl nd (pdi_zip rfl (He.free_ok XK G (c.saysE.says.fact 43 (f := .free "zip") rfl)) (pda_v (pd_var 9) (pda_v (pd_var 11) (pda_nil)))) (blkOk_by (by kernel_rfl)) (fun _ _ _ _ _ => pdg_t (n := 2) rfl (pdgs_c (pdg_name (i := 14) nd) (pdgs_c (pdg_name (i := 15) nd) (pdgs_nil)))) (fun _ _ _ _ _ => pts_yes) (fun _ _ _ _ _ => pd_op od_add (pd_var 14) (pd_var 15)))) (pda_nil))) (pd_op od_mul (pd_var 8) (pd_var 10))))))) (pds_one (pds_ret (pd_tupVals 5 rfl rfl (He.free_ok XK G (c.saysE.says.fact 42 (f := .free "tuple") rfl))))))))
/-! ### need_matrix -/
abbrev st_need_matrix : Stmt := top 24
theorem sc_need_matrix : FnScope ["value", "row", "form"] ["value"] (defScope st_need_matrix) := ⟨rfl, rfl, rfl, by decide +kernel, rfl, by decide +kernel, by decide +kernel⟩
def m_need_matrix (e : Str → Addr) : M Fl := seqM (ifS (orM (notM (mT (callD (den_is_listed e) (aV (rdV 0) (aNil))))) (mB (m2 (mC (aV (rdV 0) (aNil)) dLen) (ret (.int 3)) dNe))) (raiseM (e "BadForm") (ret (.str "matrix"))) (nextM)) (forM (itM (rdV 0)) (tgN 1) (ifS (orM (notM (mT (callD (den_is_listed e) (aV (rdV 1) (aNil))))) (orM (mB (m2 (mC (aV (rdV 1) (aNil)) dLen) (ret (.int 3)) dNe)) (notM (mT (mC (aV (fzM (lcM (itM (rdV 1)) (tgN 2) (yesM) (callD (den_are_integers e) (aV (rdV 2) (aV (ret (.int 4)) (aNil)))) [2])) (aNil)) dAll))))) (raiseM (e "BadForm") (ret (.str "matrix"))) (nextM)))
def den_need_matrix (e : Str → Addr) : Den := fnDen [false] 3 (m_need_matrix e)
include c XK G in
theorem cd_need_matrix : Cd P w K mg base 3 "need_matrix" (den_need_matrix (He.ga K)) := by
  obtain ⟨fd, F⟩ := c.saysE.says.def_ 11 (d := mk "need_matrix" 24) rfl
  refine cd_of F (He.glo_ok XK G (c.saysE.says.fact 11 (f := .glo "need_matrix") rfl)) sc_need_matrix rfl (fun _ _ _ _ _ _ us hl => match us, hl with | [_], _ => rfl) fun cdv A outer s H vs E Gh hr tk po => ?_
  have nd := (sc_need_matrix).nd
  exact pds_cons (pds_if (PW.pt (pdw_or (pd_tnot (pd_truth (pd_call (cd_is_listed c XK G) (hr.mono (by decide)) tk rfl (pda_v (pd_var 0) (pda_nil))))) (pdw_or1 (pd_tcmp (od_ne (hu64 hr)) (pd_callB cd_len rfl (He.free_ok XK G (c.saysE.says.fact 38 (f := .free "len") rfl)) Boot.«len» (pda_v (pd_var 0) (pda_nil))) (pd_int) (nomark _))))) (pds_one (pds_raise (c.err 1 tx_BadForm) (He.glo_ok XK G (c.saysE.says.fact 30 (f := .glo "BadForm") rfl)) hr tk (pd_str))) (pds_nil)) (pds_one (pds_for po rfl (pdi_seq (pd_var 0)) (pdg_name (i := 1) nd) (pds_one (pds_if (PW.pt (pdw_or (pd_tnot (pd_truth (pd_call (cd_is_listed c XK G) (hr.mono (by decide)) tk rfl (pda_v (pd_var 1) (pda_nil))))) (pdw_or (pd_tcmp (od_ne (hu64 hr)) (pd_callB cd_len rfl (He.free_ok XK G (c.saysE.says.fact 38 (f := .free "len") rfl)) Boot.«len» (pda_v (pd_var 1) (pda_nil))) (pd_int) (nomark _)) (pdw_or1 (pd_tnot (pd_truth (pd_callB (cd_all rfl) rfl (He.free_ok XK G (c.saysE.says.fact 32 (f := .free "all") rfl)) Boot.«all» (pda_v (pd_fz (pdn_lc (own := [("form", 2)]) rfl nd (pdi_seq (pd_var 1)) (blkOk_by (by kernel_rfl)) (fun _ _ _ _ _ => pdg_name (i := 2) nd) (fun _ _ _ _ _ => pts_yes) (fun _ _ _ _ _ => pd_call (cd_are_integers c XK G) (hr.mono (by decide)) takes0 rfl (pda_v (pd_var 2) (pda_v (pd_con (con_ok XK G (c.saysE.fx 1 (f := .con "WIDE" (.int 4)) rfl))) (pda_nil)))))) (pda_nil))))))))) (pds_one (pds_raise (c.err 1 tx_BadForm) (He.glo_ok XK G (c.saysE.says.fact 30 (f := .glo "BadForm") rfl)) hr tk (pd_str))) (pds_nil)))))
/-! ### table_at -/
abbrev st_table_at : Stmt := top 25
theorem sc_table_at : FnScope ["matrix", "place", "row", "form", "mine", "its"] ["matrix", "place"] (defScope st_table_at) := ⟨rfl, rfl, rfl, by decide +kernel, rfl, by decide +kernel, by decide +kernel⟩
def m_table_at (e : Str → Addr) : M Fl := retM (mC (aV (fzM (lcM (itM (rdV 0)) (tgN 2) (yesM) (mC (aV (fzM (lcM (itM (rdV 2)) (tgN 3) (yesM) (mC (aV (fzM (lcM (zipM (aV (rdV 3) (aV (rdV 1) (aNil)))) (tgT 2 (tgsCons (tgN 4) (tgsCons (tgN 5) (tgsNil)))) (yesM) (m2 (rdV 4) (rdV 5) dMul) [4, 5])) (aNil)) dSum) [3])) (aNil)) dTuple) [2])) (aNil)) dTuple)
def den_table_at (e : Str → Addr) : Den := fnDen [false, false] 6 (m_table_at e)
include c XK G in
theorem cd_table_at : Cd P w K mg base 1 "table_at" (den_table_at (He.ga K)) := by
  obtain ⟨fd, F⟩ := c.saysE.says.def_ 12 (d := mk "table_at" 25) rfl
  refine cd_of F (He.glo_ok XK G (c.saysE.says.fact 12 (f := .glo "table_at") rfl)) sc_table_at rfl (fun _ _ _ _ _ _ us hl => match us, hl with | [_, _], _ => rfl) fun cdv A outer s H vs E Gh hr tk po => ?_
  have nd := (sc_table_at).nd
  exact pds_one (pds_ret (pd_callTy cd_tuple rfl (He.free_ok XK G (c.saysE.says.fact 42 (f := .free "tuple") rfl)) Boot.«tuple» (pda_v (pd_fz (pdn_lc (own := [("row", 2)]) rfl nd (pdi_seq (pd_var 0)) (blkOk_by (by kernel_rfl)) (fun _ _ _ _ _ => pdg_name (i := 2) nd) (fun _ _ _ _ _ => pts_yes) (fun _ _ _ _ _ => pd_callTy cd_tuple rfl (He.free_ok XK G (c.saysE.says.fact 42 (f := .free "tuple") rfl)) Boot.«tuple» (pda_v (pd_fz (pdn_lc (own := [("form", 3)]) rfl nd (pdi_seq (pd_var 2)) (blkOk_by (by kernel_rfl)) (fun _ _ _ _ _ => pdg_name (i := 3) nd) (fun _ _ _ _ _ => pts_yes) (fun _ _ _ _ _ => pd_callB (cd_sum rfl) rfl (He.free_ok XK G (c.saysE.says.fact 41 (f := .free "sum") rfl)) Boot.«sum» (pda_v (pd_fz (pdn_lc (own := [("mine", 4), ("its", 5)]) rfl nd (pdi_zip rfl (He.free_ok XK G (c.saysE.says.fact 43 (f := .free "zip") rfl)) (pda_v (pd_var 3) (pda_v (pd_var 1) (pda_nil)))) (blkOk_by (by kernel_rfl)) (fun _ _ _ _ _ => pdg_t (n := 2) rfl (pdgs_c (pdg_name (i := 4) nd) (pdgs_c (pdg_name (i := 5) nd) (pdgs_nil)))) (fun _ _ _ _ _ => pts_yes) (fun _ _ _ _ _ => pd_op od_mul (pd_var 4) (pd_var 5)))) (pda_nil))))) (pda_nil))))) (pda_nil))))
/-! ### determinant_in -/
abbrev st_determinant_in : Stmt := top 26
theorem sc_determinant_in : FnScope ["matrix", "found", "first", "second", "third", "sign", "both"] ["matrix"] (defScope st_determinant_in) := ⟨rfl, rfl, rfl, by decide +kernel, rfl, by decide +kernel, by decide +kernel⟩
def m_determinant_in (e : Str → Addr) : M Fl := seqM (asgM 1 (m2 (tupM (aV (ret (.int 0)) (aNil))) (ret (.int 20)) dMul)) (seqM (forM (itM (ret (.kt [.kt [.int 0, .int 1, .int 2, .int 1], .kt [.int 1, .int 2, .int 0, .int 1], .kt [.int 2, .int 0, .int 1, .int 1], .kt [.int 0, .int 2, .int 1, .int (-1)], .kt [.int 2, .int 1, .int 0, .int (-1)], .kt [.int 1, .int 0, .int 2, .int (-1)]]))) (tgT 4 (tgsCons (tgN 2) (tgsCons (tgN 3) (tgsCons (tgN 4) (tgsCons (tgN 5) (tgsNil)))))) (seqM (asgM 6 (callD (den_product_in e) (aV (m2 (m2 (rdV 0) (ret (.int 0)) dIx) (rdV 2) dIx) (aV (m2 (m2 (rdV 0) (ret (.int 1)) dIx) (rdV 3) dIx) (aV (ret (.int 4)) (aV (ret (.int 1)) (aV (ret (.int 1)) (aNil)))))))) (asgM 1 (callD (den_mixed_row e) (aV (ret (.int 1)) (aV (rdV 1) (aV (rdV 5) (aV (callD (den_product_in e) (aV (rdV 6) (aV (m2 (m2 (rdV 0) (ret (.int 2)) dIx) (rdV 4) dIx) (aV (ret (.int 4)) (aV (ret (.int 2)) (aV (ret (.int 1)) (aNil))))))) (aNil))))))))) (retM (rdV 1)))
def den_determinant_in (e : Str → Addr) : Den := fnDen [false] 7 (m_determinant_in e)
include c XK G in
theorem cd_determinant_in : Cd P w K mg base 6 "determinant_in" (den_determinant_in (He.ga K)) := by
  obtain ⟨fd, F⟩ := c.saysE.says.def_ 13 (d := mk "determinant_in" 26) rfl
  refine cd_of F (He.glo_ok XK G (c.saysE.says.fact 13 (f := .glo "determinant_in") rfl)) sc_determinant_in rfl (fun _ _ _ _ _ _ us hl => match us, hl with | [_], _ => rfl) fun cdv A outer s H vs E Gh hr tk po => ?_
  have nd := (sc_determinant_in).nd
  exact pds_cons (pds_set (i := 1) nd (pd_op od_mul (pd_tup (pda_v (pd_int) (pda_nil))) (pd_con (con_ok XK G (c.saysE.fx 2 (f := .con "FORM_WIDE" (.int 20)) rfl))))) (pds_cons (pds_for po rfl (pdi_seq (pd_con (con_ok XK G (c.saysE.fx 3 (f := .con "WAYS" (.kt [.kt [.int 0, .int 1, .int 2, .int 1], .kt [.int 1, .int 2, .int 0, .int 1], .kt [.int 2, .int 0, .int 1, .int 1], .kt [.int 0, .int 2, .int 1, .int (-1)], .kt [.int 2, .int 1, .int 0, .int (-1)], .kt [.int 1, .int 0, .int 2, .int (-1)]])) rfl)))) (pdg_t (n := 4) rfl (pdgs_c (pdg_name (i := 2) nd) (pdgs_c (pdg_name (i := 3) nd) (pdgs_c (pdg_name (i := 4) nd) (pdgs_c (pdg_name (i := 5) nd) (pdgs_nil)))))) (pds_cons (pds_set (i := 6) nd (pd_call (cd_product_in c XK G) (hr.mono (by decide)) tk rfl (pda_v (pd_ix (pd_ix (pd_var 0) (pd_int)) (pd_var 2)) (pda_v (pd_ix (pd_ix (pd_var 0) (pd_int)) (pd_var 3)) (pda_v (pd_con (con_ok XK G (c.saysE.fx 1 (f := .con "WIDE" (.int 4)) rfl))) (pda_v (pd_int) (pda_v (pd_int) (pda_nil)))))))) (pds_one (pds_set (i := 1) nd (pd_call (cd_mixed_row c XK G) (hr.mono (by decide)) tk rfl (pda_v (pd_int) (pda_v (pd_var 1) (pda_v (pd_var 5) (pda_v (pd_call (cd_product_in c XK G) (hr.mono (by decide)) tk rfl (pda_v (pd_var 6) (pda_v (pd_ix (pd_ix (pd_var 0) (pd_int)) (pd_var 4)) (pda_v (pd_con (con_ok XK G (c.saysE.fx 1 (f := .con "WIDE" (.int 4)) rfl))) (pda_v (pd_int) (pda_v (pd_int) (pda_nil))))))) (pda_nil)))))))))) (pds_one (pds_ret (pd_var 1))))
/-! ### matrix_at -/
abbrev st_matrix_at : Stmt := top 27
theorem sc_matrix_at : FnScope ["matrix", "place"] ["matrix", "place"] (defScope st_matrix_at) := ⟨rfl, rfl, rfl, by decide +kernel, rfl, by decide +kernel, by decide +kernel⟩
def m_matrix_at (e : Str → Addr) : M Fl := seqM (dropM (callD (den_need_matrix e) (aV (rdV 0) (aNil)))) (retM (callD (den_table_at e) (aV (rdV 0) (aV (callD (den_place_told e) (aV (rdV 1) (aV (ret (.str "place")) (aNil)))) (aNil)))))
def den_matrix_at (e : Str → Addr) : Den := fnDen [false, false] 2 (m_matrix_at e)
include c XK G in
theorem cd_matrix_at : Cd P w K mg base 6 "matrix_at" (den_matrix_at (He.ga K)) := by
  obtain ⟨fd, F⟩ := c.saysE.says.def_ 14 (d := mk "matrix_at" 27) rfl
  refine cd_of F (He.glo_ok XK G (c.saysE.says.fact 14 (f := .glo "matrix_at") rfl)) sc_matrix_at rfl (fun _ _ _ _ _ _ us hl => match us, hl with | [_, _], _ => rfl) fun cdv A outer s H vs E Gh hr tk po => ?_
  have nd := (sc_matrix_at).nd
  exact pds_cons (pds_expr (pd_call (cd_need_matrix c XK G) (hr.mono (by decide)) tk rfl (pda_v (pd_var 0) (pda_nil)))) (pds_one (pds_ret (pd_call (cd_table_at c XK G) (hr.mono (by decide)) tk rfl (pda_v (pd_var 0) (pda_v (pd_call (cd_place_told c XK G) (hr.mono (by decide)) tk rfl (pda_v (pd_var 1) (pda_v (pd_str) (pda_nil)))) (pda_nil))))))
/-! ### determinant_form -/
abbrev st_determinant_form : Stmt := top 28
theorem sc_determinant_form : FnScope ["matrix"] ["matrix"] (defScope st_determinant_form) := ⟨rfl, rfl, rfl, by decide +kernel, rfl, by decide +kernel, by decide +kernel⟩
def m_determinant_form (e : Str → Addr) : M Fl := seqM (dropM (callD (den_need_matrix e) (aV (rdV 0) (aNil)))) (retM (callD (den_determinant_in e) (aV (rdV 0) (aNil))))
def den_determinant_form (e : Str → Addr) : Den := fnDen [false] 1 (m_determinant_form e)
include c XK G in
theorem cd_determinant_form : Cd P w K mg base 7 "determinant_form" (den_determinant_form (He.ga K)) := by
  obtain ⟨fd, F⟩ := c.saysE.says.def_ 15 (d := mk "determinant_form" 28) rfl
  refine cd_of F (He.glo_ok XK G (c.saysE.says.fact 15 (f := .glo "determinant_form") rfl)) sc_determinant_form rfl (fun _ _ _ _ _ _ us hl => match us, hl with | [_], _ => rfl) fun cdv A outer s H vs E Gh hr tk po => ?_
  have nd := (sc_determinant_form).nd
  exact pds_cons (pds_expr (pd_call (cd_need_matrix c XK G) (hr.mono (by decide)) tk rfl (pda_v (pd_var 0) (pda_nil)))) (pds_one (pds_ret (pd_call (cd_determinant_in c XK G) (hr.mono (by decide)) tk rfl (pda_v (pd_var 0) (pda_nil)))))
/-! ### _law_well -/
abbrev st__law_well : Stmt := top 30
theorem sc__law_well : FnScope ["script", "cell"] ["script"] (defScope st__law_well) := ⟨rfl, rfl, rfl, by decide +kernel, rfl, by decide +kernel, by decide +kernel⟩
def m__law_well (e : Str → Addr) : M Fl := retN (lstM (aV (fzM (lcM (itM (mCut (rdV 0) (pNo) (pYes (ret (.int 62))))) (tgN 1) (yesM) (mC (aV (rdV 1) (aNil)) dInt) [1])) (aV (ret (.int 0)) (aV (ret (.int 0)) (aNil)))))
def den__law_well (e : Str → Addr) : Den := fnDen [false] 2 (m__law_well e)
include c XK G in
theorem cd__law_well : Cd P w K mg base 1 "_law_well" (den__law_well (He.ga K)) := by
  obtain ⟨fd, F⟩ := c.saysE.says.def_ 16 (d := mk "_law_well" 30) rfl
  refine cd_of F (He.glo_ok XK G (c.saysE.says.fact 16 (f := .glo "_law_well") rfl)) sc__law_well rfl (fun _ _ _ _ _ _ us hl => match us, hl with | [_], _ => rfl) fun cdv A outer s H vs E Gh hr tk po => ?_
  have nd := (sc__law_well).nd
  exact pds_one (pds_retN (pdn_lst (pda_v (pd_fz (pdn_lc (own := [("cell", 1)]) rfl nd (pdi_seq (pd_slice (pd_var 0) (pdo_none) (pdo_some (pd_int)))) (blkOk_by (by kernel_rfl)) (fun _ _ _ _ _ => pdg_name (i := 1) nd) (fun _ _ _ _ _ => pts_yes) (fun _ _ _ _ _ => pd_callTy cd_int rfl (He.free_ok XK G (c.saysE.says.fact 36 (f := .free "int") rfl)) Boot.«int» (pda_v (pd_var 1) (pda_nil))))) (pda_v (pd_int) (pda_v (pd_int) (pda_nil))))))
/-! ### _law_dip -/
abbrev st__law_dip : Stmt := top 31
theorem sc__law_dip : FnScope ["well", "many", "at", "cell", "mixed", "rest"] ["well", "many"] (defScope st__law_dip) := ⟨rfl, rfl, rfl, by decide +kernel, rfl, by decide +kernel, by decide +kernel⟩
def m__law_dip (e : Str → Addr) : M Fl := seqM (ifS (mB (m2 (mIxO 0 (ret (.int 2))) (ret (.int 0)) dGt)) (seqM (asgM 5 (mC (aV (mIxO 0 (ret (.int 2))) (aNil)) dInt)) (seqM (stM 0 (m2 (rdV 5) (rdV 1) dFdiv) (ret (.int 2))) (retM (m2 (mC (aV (rdV 5) (aNil)) dInt) (rdV 1) dMod)))) (nextM)) (seqM (asgM 2 (mIxO 0 (ret (.int 1)))) (seqM (stM 0 (m2 (rdV 2) (ret (.int 1)) dAdd) (ret (.int 1))) (seqM (asgM 3 (m2 (m2 (ret (.int 91193)) (rdV 2) dMul) (ret (.int 7411)) dAdd)) (seqM (ifS (mB (m2 (mIxO 0 (ret (.int 0))) (fzM (lstM (aNil))) dNe)) (asgM 3 (m2 (mIxO 0 (ret (.int 0))) (m2 (mC (aV (rdV 2) (aNil)) dInt) (mC (aV (mIxO 0 (ret (.int 0))) (aNil)) dLen) dMod) dIx)) (nextM)) (seqM (ifS (andM (mB (m2 (rdV 2) (mC (aV (mIxO 0 (ret (.int 0))) (aNil)) dLen) dLt)) (mB (m2 (mC (aV (rdV 3) (aNil)) dAbs) (m2 (ret (.int 10)) (ret (.int 18)) dPow) dGe))) (seqM (asgM 5 (m2 (m2 (ret (.int 2)) (m2 (mC (aV (rdV 3) (aNil)) dAbs) (m2 (ret (.int 10)) (ret (.int 18)) dPow) dSub) dMul) (mC (aV (m2 (rdV 3) (ret (.int 0)) dLt) (aNil)) dInt) dAdd)) (seqM (stM 0 (m2 (mC (aV (rdV 5) (aNil)) dInt) (rdV 1) dFdiv) (ret (.int 2))) (retM (m2 (mC (aV (rdV 5) (aNil)) dInt) (rdV 1) dMod)))) (nextM)) (seqM (asgM 4 (m2 (mC (aV (m2 (m2 (m2 (m2 (mC (aV (rdV 3) (aNil)) dInt) (ret (.int 2147483579)) dMod) (m2 (ret (.int 30971)) (rdV 2) dMul) dAdd) (ret (.int 7411)) dAdd) (ret (.int 5)) dPow) (aNil)) dInt) (ret (.int 2147483563)) dMod)) (seqM (asgM 4 (m2 (mC (aV (m2 (m2 (m2 (m2 (rdV 4) (m2 (m2 (ret (.int 2)) (rdV 2) dMul) (ret (.int 5227)) dAdd) dMul) (m2 (m2 (ret (.int 91193)) (rdV 2) dMul) (rdV 2) dMul) dAdd) (ret (.int 30971)) dAdd) (ret (.int 3)) dPow) (aNil)) dInt) (ret (.int 2147483549)) dMod)) (retM (m2 (mC (aV (m2 (rdV 4) (ret (.int 64)) dFdiv) (aNil)) dInt) (rdV 1) dMod)))))))))
def den__law_dip (e : Str → Addr) : Den := fnDen [true, false] 6 (m__law_dip e)
include c XK G in
theorem cd__law_dip : Cd P w K mg base 1 "_law_dip" (den__law_dip (He.ga K)) := by
  obtain ⟨fd, F⟩ := c.saysE.says.def_ 17 (d := mk "_law_dip" 31) rfl
  refine cd_of F (He.glo_ok XK G (c.saysE.says.fact 17 (f := .glo "_law_dip") rfl)) sc__law_dip rfl (fun _ _ _ _ _ _ us hl => match us, hl with | [_, _], _ => rfl) fun cdv A outer s H vs E Gh hr tk po => ?_
  have nd := (sc__law_dip).nd
  exact pds_cons (pds_if (pd_tcmp od_gt (pd_ixO 0 (pd_int)) (pd_int) (nomark _)) (pds_cons (pds_set (i := 5) nd (pd_callTy cd_int rfl (He.free_ok XK G (c.saysE.says.fact 36 (f := .free "int") rfl)) Boot.«int» (pda_v (pd_ixO 0 (pd_int)) (pda_nil)))) (pds_cons (pds_store 0 (pd_op od_fdiv (pd_var 5) (pd_var 1)) (pd_int)) (pds_one (pds_ret (pd_op od_mod (pd_callTy cd_int rfl (He.free_ok XK G (c.saysE.says.fact 36 (f := .free "int") rfl)) Boot.«int» (pda_v (pd_var 5) (pda_nil))) (pd_var 1)))))) (pds_nil)) (pds_cons (pds_set (i := 2) nd (pd_ixO 0 (pd_int))) (pds_cons (pds_store 0 (pd_op od_add (pd_var 2) (pd_int)) (pd_int)) (pds_cons (pds_set (i := 3) nd (pd_op od_add (pd_op od_mul (pd_int) (pd_var 2)) (pd_int))) (pds_cons (pds_if (pd_tcmp (od_ne (hu64 hr)) (pd_ixO 0 (pd_int)) (pd_fz (pdn_lst (pda_nil))) (nomark _)) (pds_one (pds_set (i := 3) nd (pd_ix (pd_ixO 0 (pd_int)) (pd_op od_mod (pd_callTy cd_int rfl (He.free_ok XK G (c.saysE.says.fact 36 (f := .free "int") rfl)) Boot.«int» (pda_v (pd_var 2) (pda_nil))) (pd_callB cd_len rfl (He.free_ok XK G (c.saysE.says.fact 38 (f := .free "len") rfl)) Boot.«len» (pda_v (pd_ixO 0 (pd_int)) (pda_nil))))))) (pds_nil)) (pds_cons (pds_if (PW.pt (pdw_and (pd_tcmp od_lt (pd_var 2) (pd_callB cd_len rfl (He.free_ok XK G (c.saysE.says.fact 38 (f := .free "len") rfl)) Boot.«len» (pda_v (pd_ixO 0 (pd_int)) (pda_nil))) (nomark _)) (pdw_and1 (pd_tcmp od_ge (pd_callB cd_abs rfl (He.free_ok XK G (c.saysE.says.fact 31 (f := .free "abs") rfl)) Boot.«abs» (pda_v (pd_var 3) (pda_nil))) (pd_op od_pow (pd_int) (pd_int)) (nomark _))))) (pds_cons (pds_set (i := 5) nd (pd_op od_add (pd_op od_mul (pd_int) (pd_op od_sub (pd_callB cd_abs rfl (He.free_ok XK G (c.saysE.says.fact 31 (f := .free "abs") rfl)) Boot.«abs» (pda_v (pd_var 3) (pda_nil))) (pd_op od_pow (pd_int) (pd_int)))) (pd_callTy cd_int rfl (He.free_ok XK G (c.saysE.says.fact 36 (f := .free "int") rfl)) Boot.«int» (pda_v (pd_cmp od_lt (pd_var 3) (pd_int) (nomark _)) (pda_nil))))) (pds_cons (pds_store 0 (pd_op od_fdiv (pd_callTy cd_int rfl (He.free_ok XK G (c.saysE.says.fact 36 (f := .free "int") rfl)) Boot.«int» (pda_v (pd_var 5) (pda_nil))) (pd_var 1)) (pd_int)) (pds_one (pds_ret (pd_op od_mod (pd_callTy cd_int rfl (He.free_ok XK G (c.saysE.says.fact 36 (f := .free "int") rfl)) Boot.«int» (pda_v (pd_var 5) (pda_nil))) (pd_var 1)))))) (pds_nil)) (pds_cons (pds_set (i := 4) nd (pd_op od_mod (pd_callTy cd_int rfl (He.free_ok XK G (c.saysE.says.fact 36 (f := .free "int") rfl)) Boot.«int» (pda_v (pd_op od_pow (pd_op od_add (pd_op od_add (pd_op od_mod (pd_callTy cd_int rfl (He.free_ok XK G (c.saysE.says.fact 36 (f := .free "int") rfl)) Boot.«int» (pda_v (pd_var 3) (pda_nil))) (pd_int)) (pd_op od_mul (pd_int) (pd_var 2))) (pd_int)) (pd_int)) (pda_nil))) (pd_int))) (pds_cons (pds_set (i := 4) nd (pd_op od_mod (pd_callTy cd_int rfl (He.free_ok XK G (c.saysE.says.fact 36 (f := .free "int") rfl)) Boot.«int» (pda_v (pd_op od_pow (pd_op od_add (pd_op od_add (pd_op od_mul (pd_var 4) (pd_op od_add (pd_op od_mul (pd_int) (pd_var 2)) (pd_int))) (pd_op od_mul (pd_op od_mul (pd_int) (pd_var 2)) (pd_var 2))) (pd_int)) (pd_int)) (pda_nil))) (pd_int))) (pds_one (pds_ret (pd_op od_mod (pd_callTy cd_int rfl (He.free_ok XK G (c.saysE.says.fact 36 (f := .free "int") rfl)) Boot.«int» (pda_v (pd_op od_fdiv (pd_var 4) (pd_int)) (pda_nil))) (pd_var 1)))))))))))
/-! ### _law_pick -/
abbrev st__law_pick : Stmt := top 32
theorem sc__law_pick : FnScope ["well", "some"] ["well", "some"] (defScope st__law_pick) := ⟨rfl, rfl, rfl, by decide +kernel, rfl, by decide +kernel, by decide +kernel⟩
def m__law_pick (e : Str → Addr) : M Fl := retM (m2 (rdV 1) (callD (den__law_dip e) (aS 0 (aV (mC (aV (rdV 1) (aNil)) dLen) (aNil)))) dIx)
def den__law_pick (e : Str → Addr) : Den := fnDen [true, false] 2 (m__law_pick e)
include c XK G in
theorem cd__law_pick : Cd P w K mg base 2 "_law_pick" (den__law_pick (He.ga K)) := by
  obtain ⟨fd, F⟩ := c.saysE.says.def_ 18 (d := mk "_law_pick" 32) rfl
  refine cd_of F (He.glo_ok XK G (c.saysE.says.fact 18 (f := .glo "_law_pick") rfl)) sc__law_pick rfl (fun _ _ _ _ _ _ us hl => match us, hl with | [_, _], _ => rfl) fun cdv A outer s H vs E Gh hr tk po => ?_
  have nd := (sc__law_pick).nd
  exact pds_one (pds_ret (pd_ix (pd_var 1) (pd_call (cd__law_dip c XK G) (hr.mono (by decide)) tk rfl (pda_s 0 (pda_v (pd_callB cd_len rfl (He.free_ok XK G (c.saysE.says.fact 38 (f := .free "len") rfl)) Boot.«len» (pda_v (pd_var 1) (pda_nil))) (pda_nil))))))
/-! ### _law_shared -/
abbrev st__law_shared : Stmt := top 33
theorem sc__law_shared : FnScope ["one", "other", "turn"] ["one", "other"] (defScope st__law_shared) := ⟨rfl, rfl, rfl, by decide +kernel, rfl, by decide +kernel, by decide +kernel⟩
def m__law_shared (e : Str → Addr) : M Fl := seqM (forM (rngM1 (aV (m2 (m2 (ret (.int 2)) (m1 (mC (aV (rdV 1) (aNil)) dAbs) dBits) dMul) (ret (.int 4)) dAdd) (aNil))) (tgN 2) (seqM (ifS (mB (m2 (rdV 1) (ret (.int 0)) dEq)) (ret .bk) (nextM)) (parM 0 1 (aV (rdV 1) (aV (m2 (mC (aV (rdV 0) (aNil)) dInt) (rdV 1) dMod) (aNil)))))) (retM (mC (aV (rdV 0) (aNil)) dAbs))
def den__law_shared (e : Str → Addr) : Den := fnDen [false, false] 3 (m__law_shared e)
include c XK G in
theorem cd__law_shared : Cd P w K mg base 1 "_law_shared" (den__law_shared (He.ga K)) := by
  obtain ⟨fd, F⟩ := c.saysE.says.def_ 19 (d := mk "_law_shared" 33) rfl
  refine cd_of F (He.glo_ok XK G (c.saysE.says.fact 19 (f := .glo "_law_shared") rfl)) sc__law_shared rfl (fun _ _ _ _ _ _ us hl => match us, hl with | [_, _], _ => rfl) fun cdv A outer s H vs E Gh hr tk po => ?_
  have nd := (sc__law_shared).nd
  exact pds_cons (pds_for po rfl (pdi_rng1 rfl (He.free_ok XK G (c.saysE.says.fact 40 (f := .free "range") rfl)) (pda_v (pd_op od_add (pd_op od_mul (pd_int) (pd_bits (pd_callB cd_abs rfl (He.free_ok XK G (c.saysE.says.fact 31 (f := .free "abs") rfl)) Boot.«abs» (pda_v (pd_var 1) (pda_nil))))) (pd_int)) (pda_nil))) (pdg_name (i := 2) nd) (pds_cons (pds_if (pd_tcmp (od_eq (hu64 hr)) (pd_var 1) (pd_int) (nomark _)) (pds_one (pds_break)) (pds_nil)) (pds_one (pds_par (i := 0) (j := 1) rfl nd (pda_v (pd_var 1) (pda_v (pd_op od_mod (pd_callTy cd_int rfl (He.free_ok XK G (c.saysE.says.fact 36 (f := .free "int") rfl)) Boot.«int» (pda_v (pd_var 0) (pda_nil))) (pd_var 1)) (pda_nil))))))) (pds_one (pds_ret (pd_callB cd_abs rfl (He.free_ok XK G (c.saysE.says.fact 31 (f := .free "abs") rfl)) Boot.«abs» (pda_v (pd_var 0) (pda_nil)))))
/-! ### _law_plain -/
abbrev st__law_plain : Stmt := top 34
theorem sc__law_plain : FnScope ["row", "shared", "first", "part"] ["row"] (defScope st__law_plain) := ⟨rfl, rfl, rfl, by decide +kernel, rfl, by decide +kernel, by decide +kernel⟩
def m__law_plain (e : Str → Addr) : M Fl := seqM (tgS (tgT 2 (tgsCons (tgN 1) (tgsCons (tgN 2) (tgsNil)))) (tupM (aV (ret (.int 0)) (aV (ret (.int 0)) (aNil))))) (seqM (forM (itM (rdV 0)) (tgN 3) (seqM (asgM 1 (callD (den__law_shared e) (aV (rdV 1) (aV (rdV 3) (aNil))))) (asgM 2 (ifM (mB (m2 (rdV 2) (ret (.int 0)) dEq)) (rdV 3) (rdV 2))))) (seqM (ifS (mB (m2 (rdV 1) (ret (.int 0)) dEq)) (retM (mC (aV (rdV 0) (aNil)) dTuple)) (nextM)) (seqM (asgM 1 (ifM (mB (m2 (rdV 2) (ret (.int 0)) dGt)) (rdV 1) (m1 (rdV 1) dNeg))) (retM (mC (aV (fzM (lcM (itM (rdV 0)) (tgN 3) (yesM) (m2 (rdV 3) (rdV 1) dFdiv) [3])) (aNil)) dTuple)))))
def den__law_plain (e : Str → Addr) : Den := fnDen [false] 4 (m__law_plain e)
include c XK G in
theorem cd__law_plain : Cd P w K mg base 2 "_law_plain" (den__law_plain (He.ga K)) := by
  obtain ⟨fd, F⟩ := c.saysE.says.def_ 20 (d := mk "_law_plain" 34) rfl
  refine cd_of F (He.glo_ok XK G (c.saysE.says.fact 20 (f := .glo "_law_plain") rfl)) sc__law_plain rfl (fun _ _ _ _ _ _ us hl => match us, hl with | [_], _ => rfl) fun cdv A outer s H vs E Gh hr tk po => ?_
  have nd := (sc__law_plain).nd
  exact pds_cons (pds_asg (pd_tup (pda_v (pd_int) (pda_v (pd_int) (pda_nil)))) (pdg_t (n := 2) rfl (pdgs_c (pdg_name (i := 1) nd) (pdgs_c (pdg_name (i := 2) nd) (pdgs_nil))))) (pds_cons (pds_for po rfl (pdi_seq (pd_var 0)) (pdg_name (i := 3) nd) (pds_cons (pds_set (i := 1) nd (pd_call (cd__law_shared c XK G) (hr.mono (by decide)) tk rfl (pda_v (pd_var 1) (pda_v (pd_var 3) (pda_nil))))) (pds_one (pds_set (i := 2) nd (pd_ifExp (pd_tcmp (od_eq (hu64 hr)) (pd_var 2) (pd_int) (nomark _)) (pd_var 3) (pd_var 2)))))) (pds_cons (pds_if (pd_tcmp (od_eq (hu64 hr)) (pd_var 1) (pd_int) (nomark _)) (pds_one (pds_ret (pd_callTy cd_tuple rfl (He.free_ok XK G (c.saysE.says.fact 42 (f := .free "tuple") rfl)) Boot.«tuple» (pda_v (pd_var 0) (pda_nil))))) (pds_nil)) (pds_cons (pds_set (i := 1) nd (pd_ifExp (pd_tcmp od_gt (pd_var 2) (pd_int) (nomark _)) (pd_var 1) (pd_un ud_neg (pd_var 1)))) (pds_one (pds_ret (pd_callTy cd_tuple rfl (He.free_ok XK G (c.saysE.says.fact 42 (f := .free "tuple") rfl)) Boot.«tuple» (pda_v (pd_fz (pdn_lc (own := [("part", 3)]) rfl nd (pdi_seq (pd_var 0)) (blkOk_by (by kernel_rfl)) (fun _ _ _ _ _ => pdg_name (i := 3) nd) (fun _ _ _ _ _ => pts_yes) (fun _ _ _ _ _ => pd_op od_fdiv (pd_var 3) (pd_var 1)))) (pda_nil))))))))
/-! ### _law_dot -/
abbrev st__law_dot : Stmt := top 35
theorem sc__law_dot : FnScope ["one", "other", "mine", "its"] ["one", "other"] (defScope st__law_dot) := ⟨rfl, rfl, rfl, by decide +kernel, rfl, by decide +kernel, by decide +kernel⟩
def m__law_dot (e : Str → Addr) : M Fl := retM (mC (aV (fzM (lcM (zipM (aV (rdV 0) (aV (rdV 1) (aNil)))) (tgT 2 (tgsCons (tgN 2) (tgsCons (tgN 3) (tgsNil)))) (yesM) (m2 (rdV 2) (rdV 3) dMul) [2, 3])) (aNil)) dSum)
def den__law_dot (e : Str → Addr) : Den := fnDen [false, false] 4 (m__law_dot e)
include c XK G in
theorem cd__law_dot : Cd P w K mg base 1 "_law_dot" (den__law_dot (He.ga K)) := by
  obtain ⟨fd, F⟩ := c.saysE.says.def_ 21 (d := mk "_law_dot" 35) rfl
  refine cd_of F (He.glo_ok XK G (c.saysE.says.fact 21 (f := .glo "_law_dot") rfl)) sc__law_dot rfl (fun _ _ _ _ _ _ us hl => match us, hl with | [_, _], _ => rfl) fun cdv A outer s H vs E Gh hr tk po => ?_
  have nd := (sc__law_dot).nd
  exact pds_one (pds_ret (pd_callB (cd_sum rfl) rfl (He.free_ok XK G (c.saysE.says.fact 41 (f := .free "sum") rfl)) Boot.«sum» (pda_v (pd_fz (pdn_lc (own := [("mine", 2), ("its", 3)]) rfl nd (pdi_zip rfl (He.free_ok XK G (c.saysE.says.fact 43 (f := .free "zip") rfl)) (pda_v (pd_var 0) (pda_v (pd_var 1) (pda_nil)))) (blkOk_by (by kernel_rfl)) (fun _ _ _ _ _ => pdg_t (n := 2) rfl (pdgs_c (pdg_name (i := 2) nd) (pdgs_c (pdg_name (i := 3) nd) (pdgs_nil)))) (fun _ _ _ _ _ => pts_yes) (fun _ _ _ _ _ => pd_op od_mul (pd_var 2) (pd_var 3)))) (pda_nil))))
/-! ### _law_cross -/
abbrev st__law_cross : Stmt := top 36
theorem sc__law_cross : FnScope ["one", "other", "a", "b", "c", "d", "e", "f"] ["one", "other"] (defScope st__law_cross) := ⟨rfl, rfl, rfl, by decide +kernel, rfl, by decide +kernel, by decide +kernel⟩
def m__law_cross (e : Str → Addr) : M Fl := seqM (tgS (tgT 3 (tgsCons (tgN 2) (tgsCons (tgN 3) (tgsCons (tgN 4) (tgsNil))))) (rdV 0)) (seqM (tgS (tgT 3 (tgsCons (tgN 5) (tgsCons (tgN 6) (tgsCons (tgN 7) (tgsNil))))) (rdV 1)) (retM (tupM (aV (m2 (m2 (rdV 3) (rdV 7) dMul) (m2 (rdV 4) (rdV 6) dMul) dSub) (aV (m2 (m2 (rdV 4) (rdV 5) dMul) (m2 (rdV 2) (rdV 7) dMul) dSub) (aV (m2 (m2 (rdV 2) (rdV 6) dMul) (m2 (rdV 3) (rdV 5) dMul) dSub) (aNil)))))))
def den__law_cross (e : Str → Addr) : Den := fnDen [false, false] 8 (m__law_cross e)
include c XK G in
theorem cd__law_cross : Cd P w K mg base 1 "_law_cross" (den__law_cross (He.ga K)) := by
  obtain ⟨fd, F⟩ := c.saysE.says.def_ 22 (d := mk "_law_cross" 36) rfl
  refine cd_of F (He.glo_ok XK G (c.saysE.says.fact 22 (f := .glo "_law_cross") rfl)) sc__law_cross rfl (fun _ _ _ _ _ _ us hl => match us, hl with | [_, _], _ => rfl) fun cdv A outer s H vs E Gh hr tk po => ?_
  have nd := (sc__law_cross).nd
  exact pds_cons (pds_asg (pd_var 0) (pdg_t (n := 3) rfl (pdgs_c (pdg_name (i := 2) nd) (pdgs_c (pdg_name (i := 3) nd) (pdgs_c (pdg_name (i := 4) nd) (pdgs_nil)))))) (pds_cons (pds_asg (pd_var 1) (pdg_t (n := 3) rfl (pdgs_c (pdg_name (i := 5) nd) (pdgs_c (pdg_name (i := 6) nd) (pdgs_c (pdg_name (i := 7) nd) (pdgs_nil)))))) (pds_one (pds_ret (pd_tup (pda_v (pd_op od_sub (pd_op od_mul (pd_var 3) (pd_var 7)) (pd_op od_mul (pd_var 4) (pd_var 6))) (pda_v (pd_op od_sub (pd_op od_mul (pd_var 4) (pd_var 5)) (pd_op od_mul (pd_var 2) (pd_var 7))) (pda_v (pd_op od_sub (pd_op od_mul (pd_var 2) (pd_var 6)) (pd_op od_mul (pd_var 3) (pd_var 5))) (pda_nil))))))))
/-! ### _law_three -/
abbrev st__law_three : Stmt := top 37
theorem sc__law_three : FnScope ["one", "other", "third"] ["one", "other", "third"] (defScope st__law_three) := ⟨rfl, rfl, rfl, by decide +kernel, rfl, by decide +kernel, by decide +kernel⟩
def m__law_three (e : Str → Addr) : M Fl := retM (callD (den__law_dot e) (aV (callD (den__law_cross e) (aV (rdV 0) (aV (rdV 1) (aNil)))) (aV (rdV 2) (aNil))))
def den__law_three (e : Str → Addr) : Den := fnDen [false, false, false] 3 (m__law_three e)
include c XK G in
theorem cd__law_three : Cd P w K mg base 2 "_law_three" (den__law_three (He.ga K)) := by
  obtain ⟨fd, F⟩ := c.saysE.says.def_ 23 (d := mk "_law_three" 37) rfl
  refine cd_of F (He.glo_ok XK G (c.saysE.says.fact 23 (f := .glo "_law_three") rfl)) sc__law_three rfl (fun _ _ _ _ _ _ us hl => match us, hl with | [_, _, _], _ => rfl) fun cdv A outer s H vs E Gh hr tk po => ?_
  have nd := (sc__law_three).nd
  exact pds_one (pds_ret (pd_call (cd__law_dot c XK G) (hr.mono (by decide)) tk rfl (pda_v (pd_call (cd__law_cross c XK G) (hr.mono (by decide)) tk rfl (pda_v (pd_var 0) (pda_v (pd_var 1) (pda_nil)))) (pda_v (pd_var 2) (pda_nil)))))
/-! ### _law_third -/
abbrev st__law_third : Stmt := top 38
theorem sc__law_third : FnScope ["form", "row", "total", "at", "one", "other", "third"] ["form", "row"] (defScope st__law_third) := ⟨rfl, rfl, rfl, by decide +kernel, rfl, by decide +kernel, by decide +kernel⟩
def m__law_third (e : Str → Addr) : M Fl := seqM (tgS (tgT 2 (tgsCons (tgN 2) (tgsCons (tgN 3) (tgsNil)))) (tupM (aV (ret (.int 0)) (aV (ret (.int 0)) (aNil))))) (seqM (forM (rngM1 (aV (ret (.int 4)) (aNil))) (tgN 4) (forM (rngM2 (aV (rdV 4) (aV (ret (.int 4)) (aNil)))) (tgN 5) (forM (rngM2 (aV (rdV 5) (aV (ret (.int 4)) (aNil)))) (tgN 6) (seqM (asgM 2 (m2 (rdV 2) (m2 (m2 (m2 (m2 (rdV 0) (rdV 3) dIx) (m2 (rdV 1) (rdV 4) dIx) dMul) (m2 (rdV 1) (rdV 5) dIx) dMul) (m2 (rdV 1) (rdV 6) dIx) dMul) dAdd)) (asgM 3 (m2 (rdV 3) (ret (.int 1)) dAdd)))))) (retM (rdV 2)))
def den__law_third (e : Str → Addr) : Den := fnDen [false, false] 7 (m__law_third e)
include c XK G in
theorem cd__law_third : Cd P w K mg base 1 "_law_third" (den__law_third (He.ga K)) := by
  obtain ⟨fd, F⟩ := c.saysE.says.def_ 24 (d := mk "_law_third" 38) rfl
  refine cd_of F (He.glo_ok XK G (c.saysE.says.fact 24 (f := .glo "_law_third") rfl)) sc__law_third rfl (fun _ _ _ _ _ _ us hl => match us, hl with | [_, _], _ => rfl) fun cdv A outer s H vs E Gh hr tk po => ?_
  have nd := (sc__law_third).nd
  exact pds_cons (pds_asg (pd_tup (pda_v (pd_int) (pda_v (pd_int) (pda_nil)))) (pdg_t (n := 2) rfl (pdgs_c (pdg_name (i := 2) nd) (pdgs_c (pdg_name (i := 3) nd) (pdgs_nil))))) (pds_cons (pds_for po rfl (pdi_rng1 rfl (He.free_ok XK G (c.saysE.says.fact 40 (f := .free "range") rfl)) (pda_v (pd_int) (pda_nil))) (pdg_name (i := 4) nd) (pds_one (pds_for po rfl (pdi_rng2 rfl (He.free_ok XK G (c.saysE.says.fact 40 (f := .free "range") rfl)) (pda_v (pd_var 4) (pda_v (pd_int) (pda_nil)))) (pdg_name (i := 5) nd) (pds_one (pds_for po rfl (pdi_rng2 rfl (He.free_ok XK G (c.saysE.says.fact 40 (f := .free "range") rfl)) (pda_v (pd_var 5) (pda_v (pd_int) (pda_nil)))) (pdg_name (i := 6) nd) (pds_cons (pds_set (i := 2) nd (pd_op od_add (pd_var 2) (pd_op od_mul (pd_op od_mul (pd_op od_mul (pd_ix (pd_var 0) (pd_var 3)) (pd_ix (pd_var 1) (pd_var 4))) (pd_ix (pd_var 1) (pd_var 5))) (pd_ix (pd_var 1) (pd_var 6))))) (pds_one (pds_set (i := 3) nd (pd_op od_add (pd_var 3) (pd_int)))))))))) (pds_one (pds_ret (pd_var 2))))
/-! ### _law_heard -/
abbrev st__law_heard : Stmt := top 39
theorem sc__law_heard : FnScope ["matrix", "place", "first", "second", "error"] ["matrix", "place"] (defScope st__law_heard) := ⟨rfl, rfl, rfl, by decide +kernel, rfl, by decide +kernel, by decide +kernel⟩
def m__law_heard (e : Str → Addr) : M Fl := seqM (tgS (tgT 2 (tgsCons (tgN 2) (tgsCons (tgN 3) (tgsNil)))) (tupM (aV (ret .non) (aV (ret .non) (aNil))))) (seqM (tryM (dropM (callD (den_matrix_at e) (aV (rdV 0) (aV (rdV 1) (aNil))))) 4 [⟨e "BadForm", [e "BadRow"], fun x => asgM 2 (tupM (aV (ret (.str "form")) (aV (fldX x "part") (aNil))))⟩, ⟨e "BadRow", [e "BadForm"], fun x => asgM 2 (tupM (aV (ret (.str "row")) (aV (fldX x "part") (aNil))))⟩]) (seqM (tryM (dropM (callD (den_determinant_form e) (aV (rdV 0) (aNil)))) 4 [⟨e "BadForm", [e "BadRow"], fun x => asgM 3 (tupM (aV (ret (.str "form")) (aV (fldX x "part") (aNil))))⟩]) (retM (tupM (aV (rdV 2) (aV (rdV 3) (aNil)))))))
def den__law_heard (e : Str → Addr) : Den := fnDen [false, false] 5 (m__law_heard e)
include c XK G in
theorem cd__law_heard : Cd P w K mg base 8 "_law_heard" (den__law_heard (He.ga K)) := by
  obtain ⟨fd, F⟩ := c.saysE.says.def_ 25 (d := mk "_law_heard" 39) rfl
  refine cd_of F (He.glo_ok XK G (c.saysE.says.fact 25 (f := .glo "_law_heard") rfl)) sc__law_heard rfl (fun _ _ _ _ _ _ us hl => match us, hl with | [_, _], _ => rfl) fun cdv A outer s H vs E Gh hr tk po => ?_
  have nd := (sc__law_heard).nd
  exact pds_cons (pds_asg (pd_tup (pda_v (pd_non) (pda_v (pd_non) (pda_nil)))) (pdg_t (n := 2) rfl (pdgs_c (pdg_name (i := 2) nd) (pdgs_c (pdg_name (i := 3) nd) (pdgs_nil))))) (pds_cons (pds_try (i := 4) (n := "error") rfl rfl nd rfl rfl rfl tk (clOk_cons (⟨He.exm_ok (c.saysE.says.fact 47 (f := .exm "BadForm" "BadForm" true) rfl), no_cons (He.exm_ok (c.saysE.says.fact 45 (f := .exm "BadRow" "BadForm" false) rfl)) (no_nil)⟩) (clOk_cons (⟨He.exm_ok (c.saysE.says.fact 44 (f := .exm "BadRow" "BadRow" true) rfl), no_cons (He.exm_ok (c.saysE.says.fact 46 (f := .exm "BadForm" "BadRow" false) rfl)) (no_nil)⟩) (clOk_nil))) (fun W pn xe tk1 po1 => pds_one (pds_expr (pd_call (cd_matrix_at c XK G) (hr.mono (by decide)) tk1 rfl (pda_v (pd_var 0) (pda_v (pd_var 1) (pda_nil)))))) (.cons ⟨rfl, by decide, .inl (He.glo_ok XK G (c.saysE.says.fact 30 (f := .glo "BadForm") rfl))⟩ (suite_of fun a oe d pn x G0 H0 hz hf hx xr => pds_one (pds_set (i := 2) nd (pd_tup (pda_v (pd_str) (pda_v (pd_fld (c.err 1 tx_BadForm).xf (c.err 1 tx_BadForm).noN hz hf xr rfl (.inl rfl) (by decide) (by decide) rfl) (pda_nil)))))) (.cons ⟨rfl, by decide, .inl (He.glo_ok XK G (c.saysE.says.fact 29 (f := .glo "BadRow") rfl))⟩ (suite_of fun a oe d pn x G0 H0 hz hf hx xr => pds_one (pds_set (i := 2) nd (pd_tup (pda_v (pd_str) (pda_v (pd_fld (c.err 0 tx_BadRow).xf (c.err 0 tx_BadRow).noN hz hf xr rfl (.inl rfl) (by decide) (by decide) rfl) (pda_nil)))))) (.nil)))) (pds_cons (pds_try (i := 4) (n := "error") rfl rfl nd rfl rfl rfl tk (clOk_cons (⟨He.exm_ok (c.saysE.says.fact 47 (f := .exm "BadForm" "BadForm" true) rfl), no_cons (He.exm_ok (c.saysE.says.fact 45 (f := .exm "BadRow" "BadForm" false) rfl)) (no_nil)⟩) (clOk_nil)) (fun W pn xe tk1 po1 => pds_one (pds_expr (pd_call (cd_determinant_form c XK G) (hr.mono (by decide)) tk1 rfl (pda_v (pd_var 0) (pda_nil))))) (.cons ⟨rfl, by decide, .inl (He.glo_ok XK G (c.saysE.says.fact 30 (f := .glo "BadForm") rfl))⟩ (suite_of fun a oe d pn x G0 H0 hz hf hx xr => pds_one (pds_set (i := 3) nd (pd_tup (pda_v (pd_str) (pda_v (pd_fld (c.err 1 tx_BadForm).xf (c.err 1 tx_BadForm).noN hz hf xr rfl (.inl rfl) (by decide) (by decide) rfl) (pda_nil)))))) (.nil))) (pds_one (pds_ret (pd_tup (pda_v (pd_var 2) (pda_v (pd_var 3) (pda_nil))))))))
/-! ### _law_matrix -/
abbrev st__law_matrix : Stmt := top 40
theorem sc__law_matrix : FnScope ["well", "size", "way", "rows", "many", "row", "a", "b", "c", "zero", "form", "one", "other", "at", "part", "mine", "its", "place"] ["well"] (defScope st__law_matrix) := ⟨rfl, rfl, rfl, by decide +kernel, rfl, by decide +kernel, by decide +kernel⟩
def m__law_matrix (e : Str → Addr) : M Fl := seqM (tgS (tgT 2 (tgsCons (tgN 1) (tgsCons (tgN 2) (tgsNil)))) (tupM (aV (callD (den__law_pick e) (aS 0 (aV (fzM (lstM (aV (ret (.int 1)) (aV (ret (.int 2)) (aV (ret (.int 9)) (aV (m2 (ret (.int 10)) (ret (.int 9)) dPow) (aV (m2 (ret (.int 10)) (ret (.int 29)) dPow) (aNil)))))))) (aNil)))) (aV (callD (den__law_dip e) (aS 0 (aV (ret (.int 7)) (aNil)))) (aNil))))) (seqM (asgN 3 (lcM (rngM1 (aV (ret (.int 3)) (aNil))) (tgN 5) (yesM) (fzM (lcM (rngM1 (aV (ret (.int 3)) (aNil))) (tgN 10) (yesM) (fzM (lcM (rngM1 (aV (ret (.int 4)) (aNil))) (tgN 14) (yesM) (m2 (callD (den__law_dip e) (aS 0 (aV (m2 (m2 (ret (.int 2)) (rdV 1) dMul) (ret (.int 1)) dAdd) (aNil)))) (rdV 1) dSub) [14])) [10])) [5])) (seqM (ifS (mB (m2 (rdV 2) (ret (.int 0)) dEq)) (seqM (asgM 4 (fzM (lstM (aV (m2 (callD (den__law_dip e) (aS 0 (aV (ret (.int 5)) (aNil)))) (ret (.int 2)) dSub) (aV (m2 (callD (den__law_dip e) (aS 0 (aV (ret (.int 5)) (aNil)))) (ret (.int 2)) dSub) (aNil)))))) (stM 3 (fzM (lcM (zipM (aV (mIxO 3 (ret (.int 0))) (aV (mIxO 3 (ret (.int 1))) (aNil)))) (tgT 2 (tgsCons (tgN 11) (tgsCons (tgN 12) (tgsNil)))) (yesM) (fzM (lcM (zipM (aV (rdV 11) (aV (rdV 12) (aNil)))) (tgT 2 (tgsCons (tgN 15) (tgsCons (tgN 16) (tgsNil)))) (yesM) (m2 (m2 (m2 (rdV 4) (ret (.int 0)) dIx) (rdV 15) dMul) (m2 (m2 (rdV 4) (ret (.int 1)) dIx) (rdV 16) dMul) dAdd) [15, 16])) [11, 12])) (ret (.int 2)))) (nextM)) (seqM (ifS (mB (m2 (rdV 2) (ret (.int 1)) dEq)) (seqM (negM 3 5 14) (nextM)) (nextM)) (seqM (ifS (mB (m2 (rdV 2) (ret (.int 2)) dEq)) (asgN 3 (lcM (enumM (aV (rdV 3) (aNil))) (tgT 2 (tgsCons (tgN 13) (tgsCons (tgN 5) (tgsNil)))) (yesM) (fzM (lcM (enumM (aV (rdV 5) (aNil))) (tgT 2 (tgsCons (tgN 17) (tgsCons (tgN 10) (tgsNil)))) (yesM) (ifM (mB (m2 (rdV 13) (rdV 17) dEq)) (rdV 10) (fzM (lstM (aV (ret (.int 0)) (aV (ret (.int 0)) (aV (ret (.int 0)) (aV (ret (.int 0)) (aNil)))))))) [17, 10])) [13, 5])) (nextM)) (seqM (ifS (mB (m2 (rdV 2) (ret (.int 3)) dEq)) (seqM (tgS (tgT 3 (tgsCons (tgN 6) (tgsCons (tgN 7) (tgsCons (tgN 8) (tgsNil))))) (mIxO 3 (ret (.int 0)))) (seqM (asgM 9 (fzM (lstM (aV (ret (.int 0)) (aV (ret (.int 0)) (aV (ret (.int 0)) (aV (ret (.int 0)) (aNil)))))))) (asgN 3 (lstM (aV (fzM (lstM (aV (rdV 9) (aV (rdV 8) (aV (fzM (lcM (itM (rdV 7)) (tgN 14) (yesM) (m1 (rdV 14) dNeg) [14])) (aNil)))))) (aV (fzM (lstM (aV (fzM (lcM (itM (rdV 8)) (tgN 14) (yesM) (m1 (rdV 14) dNeg) [14])) (aV (rdV 9) (aV (rdV 6) (aNil)))))) (aV (fzM (lstM (aV (rdV 7) (aV (fzM (lcM (itM (rdV 6)) (tgN 14) (yesM) (m1 (rdV 14) dNeg) [14])) (aV (rdV 9) (aNil)))))) (aNil)))))))) (nextM)) (seqM (retM (tupM (aV (rdV 3) (aV (m2 (rdV 2) (tupM (aV (ret (.int 0)) (aV (ret (.int 1)) (aV (ret (.int 3)) (aNil))))) dIn) (aNil))))) (nextM)))))))
def den__law_matrix (e : Str → Addr) : Den := cellDen (fnDen [true] 18 (m__law_matrix e))
include c XK G in
theorem cd__law_matrix : Cd P w K mg base 3 "_law_matrix" (den__law_matrix (He.ga K)) := by
  obtain ⟨fd, F⟩ := c.saysE.says.def_ 26 (d := mk "_law_matrix" 40) rfl
  refine cd_cell F (He.glo_ok XK G (c.saysE.says.fact 26 (f := .glo "_law_matrix") rfl)) sc__law_matrix (fun _ _ _ _ _ _ us hl => match us, hl with | [_], _ => rfl) fun cdv A outer s H vs E Gh hG0 hr tk po => ?_
  have nd := (sc__law_matrix).nd
  exact pds_cons0 (ps0 (pds_asg (pd_tup (pda_v (pd_call (cd__law_pick c XK G) (hr.mono (by decide)) tk rfl (pda_s 0 (pda_v (pd_fz (pdn_lst (pda_v (pd_int) (pda_v (pd_int) (pda_v (pd_int) (pda_v (pd_op od_pow (pd_int) (pd_int)) (pda_v (pd_op od_pow (pd_int) (pd_int)) (pda_nil)))))))) (pda_nil)))) (pda_v (pd_call (cd__law_dip c XK G) (hr.mono (by decide)) tk rfl (pda_s 0 (pda_v (pd_int) (pda_nil)))) (pda_nil)))) (pdg_t (n := 2) rfl (pdgs_c (pdg_name (i := 1) nd) (pdgs_c (pdg_name (i := 2) nd) (pdgs_nil)))))) (pds_cons0 (ps0 (pds_lcN (i := 3) (own := [("row", 5)]) rfl nd (pdi_rng1 rfl (He.free_ok XK G (c.saysE.says.fact 40 (f := .free "range") rfl)) (pda_v (pd_int) (pda_nil))) (blkOk_by (by kernel_rfl)) (fun _ _ _ _ _ => pdg_name (i := 5) nd) (fun _ _ _ _ _ => pts_yes) (fun _ _ _ _ _ => pd_fz (pdn_lc (own := [("form", 10)]) rfl nd (pdi_rng1 rfl (He.free_ok XK G (c.saysE.says.fact 40 (f := .free "range") rfl)) (pda_v (pd_int) (pda_nil))) (blkOk_by (by kernel_rfl)) (fun _ _ _ _ _ => pdg_name (i := 10) nd) (fun _ _ _ _ _ => pts_yes) (fun _ _ _ _ _ => pd_fz (pdn_lc (own := [("part", 14)]) rfl nd (pdi_rng1 rfl (He.free_ok XK G (c.saysE.says.fact 40 (f := .free "range") rfl)) (pda_v (pd_int) (pda_nil))) (blkOk_by (by kernel_rfl)) (fun _ _ _ _ _ => pdg_name (i := 14) nd) (fun _ _ _ _ _ => pts_yes) (fun _ _ _ _ _ => pd_op od_sub (pd_call (cd__law_dip c XK G) (hr.mono (by decide)) takes0 rfl (pda_s 0 (pda_v (pd_op od_add (pd_op od_mul (pd_int) (pd_var 1)) (pd_int)) (pda_nil)))) (pd_var 1)))))) rfl)) (pds_cons0 (ps0 (pds_if (pd_tcmp (od_eq (hu64 hr)) (pd_var 2) (pd_int) (nomark _)) (pds_cons (pds_set (i := 4) nd (pd_fz (pdn_lst (pda_v (pd_op od_sub (pd_call (cd__law_dip c XK G) (hr.mono (by decide)) tk rfl (pda_s 0 (pda_v (pd_int) (pda_nil)))) (pd_int)) (pda_v (pd_op od_sub (pd_call (cd__law_dip c XK G) (hr.mono (by decide)) tk rfl (pda_s 0 (pda_v (pd_int) (pda_nil)))) (pd_int)) (pda_nil)))))) (pds_one (pds_store 3 (pd_fz (pdn_lc (own := [("one", 11), ("other", 12)]) rfl nd (pdi_zip rfl (He.free_ok XK G (c.saysE.says.fact 43 (f := .free "zip") rfl)) (pda_v (pd_ixO 3 (pd_int)) (pda_v (pd_ixO 3 (pd_int)) (pda_nil)))) (blkOk_by (by kernel_rfl)) (fun _ _ _ _ _ => pdg_t (n := 2) rfl (pdgs_c (pdg_name (i := 11) nd) (pdgs_c (pdg_name (i := 12) nd) (pdgs_nil)))) (fun _ _ _ _ _ => pts_yes) (fun _ _ _ _ _ => pd_fz (pdn_lc (own := [("mine", 15), ("its", 16)]) rfl nd (pdi_zip rfl (He.free_ok XK G (c.saysE.says.fact 43 (f := .free "zip") rfl)) (pda_v (pd_var 11) (pda_v (pd_var 12) (pda_nil)))) (blkOk_by (by kernel_rfl)) (fun _ _ _ _ _ => pdg_t (n := 2) rfl (pdgs_c (pdg_name (i := 15) nd) (pdgs_c (pdg_name (i := 16) nd) (pdgs_nil)))) (fun _ _ _ _ _ => pts_yes) (fun _ _ _ _ _ => pd_op od_add (pd_op od_mul (pd_ix (pd_var 4) (pd_int)) (pd_var 15)) (pd_op od_mul (pd_ix (pd_var 4) (pd_int)) (pd_var 16))))))) (pd_int)))) (pds_nil))) (pds_cons0 (pds_if0 (pd_tcmp (od_eq (hu64 hr)) (pd_var 2) (pd_int) (nomark _)) (pds_cons0 (pds_negS (k := 3) (j := 5) (q := 14) po nd hG0 (pdn_lc (own := [("part", 14)]) rfl nd (pdi_seq (pd_ix (pd_var 5) (pd_int))) (blkOk_by (by kernel_rfl)) (fun _ _ _ _ _ => pdg_name (i := 14) nd) (fun _ _ _ _ _ => pts_yes) (fun _ _ _ _ _ => pd_un ud_neg (pd_var 14)))) (pss0 pds_nil)) (pss0 pds_nil)) (pds_cons0 (ps0 (pds_if (pd_tcmp (od_eq (hu64 hr)) (pd_var 2) (pd_int) (nomark _)) (pds_one (pds_lcN (i := 3) (own := [("at", 13), ("row", 5)]) rfl nd (pdi_enum rfl (He.free_ok XK G (c.saysE.says.fact 35 (f := .free "enumerate") rfl)) (pda_v (pd_var 3) (pda_nil))) (blkOk_by (by kernel_rfl)) (fun _ _ _ _ _ => pdg_t (n := 2) rfl (pdgs_c (pdg_name (i := 13) nd) (pdgs_c (pdg_name (i := 5) nd) (pdgs_nil)))) (fun _ _ _ _ _ => pts_yes) (fun _ _ _ _ _ => pd_fz (pdn_lc (own := [("place", 17), ("form", 10)]) rfl nd (pdi_enum rfl (He.free_ok XK G (c.saysE.says.fact 35 (f := .free "enumerate") rfl)) (pda_v (pd_var 5) (pda_nil))) (blkOk_by (by kernel_rfl)) (fun _ _ _ _ _ => pdg_t (n := 2) rfl (pdgs_c (pdg_name (i := 17) nd) (pdgs_c (pdg_name (i := 10) nd) (pdgs_nil)))) (fun _ _ _ _ _ => pts_yes) (fun _ _ _ _ _ => pd_ifExp (pd_tcmp (od_eq (hu64 hr)) (pd_var 13) (pd_var 17) (nomark _)) (pd_var 10) (pd_fz (pdn_lst (pda_v (pd_int) (pda_v (pd_int) (pda_v (pd_int) (pda_v (pd_int) (pda_nil)))))))))) rfl)) (pds_nil))) (pds_cons0 (ps0 (pds_if (pd_tcmp (od_eq (hu64 hr)) (pd_var 2) (pd_int) (nomark _)) (pds_cons (pds_asg (pd_ixO 3 (pd_int)) (pdg_t (n := 3) rfl (pdgs_c (pdg_name (i := 6) nd) (pdgs_c (pdg_name (i := 7) nd) (pdgs_c (pdg_name (i := 8) nd) (pdgs_nil)))))) (pds_cons (pds_set (i := 9) nd (pd_fz (pdn_lst (pda_v (pd_int) (pda_v (pd_int) (pda_v (pd_int) (pda_v (pd_int) (pda_nil)))))))) (pds_one (pds_setN (i := 3) nd (pdn_lst (pda_v (pd_fz (pdn_lst (pda_v (pd_var 9) (pda_v (pd_var 8) (pda_v (pd_fz (pdn_lc (own := [("part", 14)]) rfl nd (pdi_seq (pd_var 7)) (blkOk_by (by kernel_rfl)) (fun _ _ _ _ _ => pdg_name (i := 14) nd) (fun _ _ _ _ _ => pts_yes) (fun _ _ _ _ _ => pd_un ud_neg (pd_var 14)))) (pda_nil)))))) (pda_v (pd_fz (pdn_lst (pda_v (pd_fz (pdn_lc (own := [("part", 14)]) rfl nd (pdi_seq (pd_var 8)) (blkOk_by (by kernel_rfl)) (fun _ _ _ _ _ => pdg_name (i := 14) nd) (fun _ _ _ _ _ => pts_yes) (fun _ _ _ _ _ => pd_un ud_neg (pd_var 14)))) (pda_v (pd_var 9) (pda_v (pd_var 6) (pda_nil)))))) (pda_v (pd_fz (pdn_lst (pda_v (pd_var 7) (pda_v (pd_fz (pdn_lc (own := [("part", 14)]) rfl nd (pdi_seq (pd_var 6)) (blkOk_by (by kernel_rfl)) (fun _ _ _ _ _ => pdg_name (i := 14) nd) (fun _ _ _ _ _ => pts_yes) (fun _ _ _ _ _ => pd_un ud_neg (pd_var 14)))) (pda_v (pd_var 9) (pda_nil)))))) (pda_nil))))))))) (pds_nil))) (pds_cons0 (ps0 (pds_ret (pd_tup (pda_v (pd_var 3) (pda_v (pd_cmp od_in (pd_var 2) (pd_tup (pda_v (pd_int) (pda_v (pd_int) (pda_v (pd_int) (pda_nil))))) rfl) (pda_nil)))))) (pss0 pds_nil)))))))
/-! ### law -/
abbrev st_law : Stmt := top 41
theorem sc_law : FnScope ["script", "well", "matrix", "is_zero", "told", "places", "one", "turn", "place", "short", "long", "odd", "zero", "other", "plain", "table", "at", "row", "each", "part", "form"] ["script"] (defScope st_law) := ⟨rfl, rfl, rfl, by decide +kernel, rfl, by decide +kernel, by decide +kernel⟩
def m_law (e : Str → Addr) : M Fl := seqM (asgN 1 (callN (den__law_well e) (aV (rdV 0) (aNil)))) (seqM (tgS (tgT 2 (tgsCons (tgN 2) (tgsCons (tgN 3) (tgsNil)))) (callD (den__law_matrix e) (aS 1 (aNil)))) (seqM (asgM 4 (callD (den_determinant_form e) (aV (rdV 2) (aNil)))) (seqM (ifS (orM (notM (mT (mC (aV (rdV 4) (aV (ret (.ty "tuple")) (aNil))) dIsi))) (orM (mB (m2 (mC (aV (rdV 4) (aNil)) dLen) (ret (.int 20)) dNe)) (andM (mT (rdV 3)) (mB (m2 (rdV 4) (m2 (tupM (aV (ret (.int 0)) (aNil))) (ret (.int 20)) dMul) dNe))))) (retM (ret (.bl false))) (nextM)) (seqM (ifS (orM (mB (m2 (fzM (lcM (itM (rdV 4)) (tgN 19) (orM (mT (mC (aV (rdV 19) (aV (ret (.ty "bool")) (aNil))) dIsi)) (notM (mT (mC (aV (rdV 19) (aV (ret (.ty "int")) (aNil))) dIsi)))) (rdV 19) [19])) (fzM (lstM (aNil))) dNe)) (mB (m2 (callD (den_determinant_form e) (aV (mC (aV (fzM (lcM (itM (rdV 2)) (tgN 17) (yesM) (mC (aV (rdV 17) (aNil)) dTuple) [17])) (aNil)) dTuple) (aNil))) (rdV 4) dNe))) (retM (ret (.bl false))) (nextM)) (seqM (asgN 5 (lcM (rngM1 (aV (ret (.int 4)) (aNil))) (tgN 16) (yesM) (fzM (lcM (rngM1 (aV (ret (.int 4)) (aNil))) (tgN 8) (yesM) (mC (aV (m2 (rdV 16) (rdV 8) dEq) (aNil)) dInt) [8])) [16])) (seqM (forM (rngM1 (aV (ret (.int 4)) (aNil))) (tgN 6) (forM (rngM1 (aV (rdV 6) (aNil))) (tgN 13) (seqM (dropM (apM 5 (fzM (lcM (rngM1 (aV (ret (.int 4)) (aNil))) (tgN 16) (yesM) (m2 (mC (aV (m2 (rdV 16) (rdV 6) dEq) (aNil)) dInt) (m2 (ret (.int 2)) (mC (aV (m2 (rdV 16) (rdV 13) dEq) (aNil)) dInt) dMul) dAdd) [16])))) (dropM (apM 5 (fzM (lcM (rngM1 (aV (ret (.int 4)) (aNil))) (tgN 16) (yesM) (m2 (mC (aV (m2 (rdV 16) (rdV 6) dEq) (aNil)) dInt) (mC (aV (m2 (rdV 16) (rdV 13) dEq) (aNil)) dInt) dSub) [16]))))))) (seqM (forM (rngM1 (aV (ret (.int 12)) (aNil))) (tgN 7) (dropM (apM 5 (fzM (lstM (aV (m2 (callD (den__law_dip e) (aS 1 (aV (ret (.int 9)) (aNil)))) (ret (.int 4)) dSub) (aV (m2 (callD (den__law_dip e) (aS 1 (aV (ret (.int 9)) (aNil)))) (ret (.int 4)) dSub) (aV (m2 (ret (.int 1)) (callD (den__law_dip e) (aS 1 (aV (ret (.int 4)) (aNil)))) dAdd) (aV (m2 (callD (den__law_dip e) (aS 1 (aV (ret (.int 9)) (aNil)))) (ret (.int 4)) dSub) (aNil)))))))))) (seqM (forM (itM (rdV 5)) (tgN 8) (seqM (asgM 14 (callD (den__law_plain e) (aV (rdV 8) (aNil)))) (seqM (asgM 15 (fzM (lcM (itM (rdV 2)) (tgN 17) (yesM) (fzM (lcM (itM (rdV 17)) (tgN 20) (yesM) (callD (den__law_dot e) (aV (rdV 20) (aV (rdV 14) (aNil)))) [20])) [17]))) (seqM (ifS (orM (mB (m2 (fzM (lcM (itM (callD (den_matrix_at e) (aV (rdV 2) (aV (rdV 8) (aNil))))) (tgN 17) (yesM) (fzM (mNs (aV (rdV 17) (aNil)) oList)) [17])) (rdV 15) dNe)) (mB (m2 (callD (den_matrix_at e) (aV (rdV 2) (aV (fzM (lcM (itM (rdV 8)) (tgN 19) (yesM) (m2 (m1 (ret (.int 3)) dNeg) (rdV 19) dMul) [19])) (aNil)))) (callD (den_matrix_at e) (aV (rdV 2) (aV (rdV 8) (aNil)))) dNe))) (retM (ret (.bl false))) (nextM)) (ifS (mB (m2 (callD (den__law_three e) (aV (m2 (rdV 15) (ret (.int 0)) dIx) (aV (m2 (rdV 15) (ret (.int 1)) dIx) (aV (m2 (rdV 15) (ret (.int 2)) dIx) (aNil))))) (callD (den__law_third e) (aV (rdV 4) (aV (rdV 14) (aNil)))) dNe)) (retM (ret (.bl false))) (nextM)))))) (seqM (parM 9 10 (aV (mCut (rdV 2) (pNo) (pYes (ret (.int 2)))) (aV (m2 (rdV 2) (mCut (rdV 2) (pNo) (pYes (ret (.int 1)))) dAdd) (aNil)))) (seqM (asgM 11 (fzM (lstM (aV (rdV 9) (aV (rdV 10) (aV (fzM (lcM (itM (rdV 2)) (tgN 17) (yesM) (mCut (rdV 17) (pNo) (pYes (ret (.int 2)))) [17])) (aV (m2 (mCut (rdV 2) (pNo) (pYes (ret (.int 2)))) (fzM (lstM (aV (m2 (mCut (m2 (rdV 2) (ret (.int 2)) dIx) (pNo) (pYes (ret (.int 2)))) (fzM (lstM (aV (mCut (m2 (m2 (rdV 2) (ret (.int 2)) dIx) (ret (.int 2)) dIx) (pNo) (pYes (ret (.int 3)))) (aNil)))) dAdd) (aNil)))) dAdd) (aV (ret .non) (aV (ret (.str "matrix")) (aV (m2 (rdV 2) (ret (.int 0)) dIx) (aNil))))))))))) (seqM (asgM 11 (m2 (rdV 11) (fzM (lstM (aV (m2 (mCut (rdV 2) (pNo) (pYes (ret (.int 2)))) (fzM (lstM (aV (m2 (mCut (m2 (rdV 2) (ret (.int 2)) dIx) (pNo) (pYes (ret (.int 2)))) (fzM (lstM (aV (fzM (lstM (aV (ret (.int 1)) (aV (ret (.int 0)) (aV (ret (.bl true)) (aV (ret (.int 0)) (aNil))))))) (aNil)))) dAdd) (aNil)))) dAdd) (aV (m2 (mCut (rdV 2) (pNo) (pYes (ret (.int 2)))) (fzM (lstM (aV (m2 (mCut (m2 (rdV 2) (ret (.int 2)) dIx) (pNo) (pYes (ret (.int 2)))) (fzM (lstM (aV (ret (.int 7)) (aNil)))) dAdd) (aNil)))) dAdd) (aNil))))) dAdd)) (seqM (ifS (mB (m2 (fzM (lcM (itM (rdV 11)) (tgN 18) (yesM) (callD (den__law_heard e) (aV (rdV 18) (aV (tupM (aV (ret (.int 0)) (aV (ret (.int 0)) (aV (ret (.int 0)) (aV (ret (.int 0)) (aNil)))))) (aNil)))) [18])) (m2 (fzM (lstM (aV (tupM (aV (tupM (aV (ret (.str "form")) (aV (ret (.str "matrix")) (aNil)))) (aV (tupM (aV (ret (.str "form")) (aV (ret (.str "matrix")) (aNil)))) (aNil)))) (aNil)))) (mC (aV (rdV 11) (aNil)) dLen) dMul) dNe)) (retM (ret (.bl false))) (nextM)) (seqM (ifS (mB (m2 (fzM (lcM (itM (fzM (lstM (aV (tupM (aV (ret (.int 0)) (aV (ret (.int 0)) (aV (ret (.int 0)) (aV (ret (.int 0)) (aNil)))))) (aV (tupM (aV (ret (.int 1)) (aV (ret (.int 2)) (aV (ret (.int 3)) (aNil))))) (aV (ret .non) (aV (tupM (aV (ret (.int 1)) (aV (ret (.int 0)) (aV (ret (.int 0)) (aV (ret (.str "1")) (aNil)))))) (aV (fzM (lstM (aV (ret (.int 1)) (aV (ret (.int 2)) (aV (ret (.int 3)) (aV (ret (.bl true)) (aNil))))))) (aNil))))))))) (tgN 8) (yesM) (m2 (callD (den__law_heard e) (aV (rdV 2) (aV (rdV 8) (aNil)))) (ret (.int 0)) dIx) [8])) (m2 (fzM (lstM (aV (tupM (aV (ret (.str "row")) (aV (ret (.str "place")) (aNil)))) (aNil)))) (ret (.int 5)) dMul) dNe)) (retM (ret (.bl false))) (nextM)) (seqM (asgM 12 (m2 (fzM (lstM (aV (m2 (fzM (lstM (aV (tupM (aV (ret (.int 0)) (aV (ret (.int 0)) (aV (ret (.int 0)) (aV (ret (.int 0)) (aNil)))))) (aNil)))) (ret (.int 3)) dMul) (aNil)))) (ret (.int 3)) dMul)) (seqM (ifS (orM (mB (m2 (callD (den_determinant_form e) (aV (rdV 12) (aNil))) (m2 (tupM (aV (ret (.int 0)) (aNil))) (ret (.int 20)) dMul) dNe)) (mB (m2 (callD (den_matrix_at e) (aV (rdV 12) (aV (tupM (aV (ret (.int 1)) (aV (ret (.int 2)) (aV (ret (.int 3)) (aV (ret (.int 4)) (aNil)))))) (aNil)))) (m2 (tupM (aV (tupM (aV (ret (.int 0)) (aV (ret (.int 0)) (aV (ret (.int 0)) (aNil))))) (aNil))) (ret (.int 3)) dMul) dNe))) (retM (ret (.bl false))) (nextM)) (retM (m2 (callD (den__law_heard e) (aV (rdV 2) (aV (tupM (aV (ret (.int 0)) (aV (ret (.int 0)) (aV (ret (.int 0)) (aV (ret (.int 9)) (aNil)))))) (aNil)))) (tupM (aV (ret .non) (aV (ret .non) (aNil)))) dEq)))))))))))))))))
def den_law (e : Str → Addr) : Den := fnDen [false] 21 (m_law e)
include c in
theorem fn_of_law : ∃ fd : FuncData, (∀ (s : Shared) (u : Value), BindsTo s fd ⟨[u], []⟩ [("script", u)]) ∧ ∀ (w : World) (mg : Str → Option Value) (h base : Heap), K.In h → h.Ns mainGlobals mg → FnOk P w K mg base (L2.CX P w) 9 (He.ga K "law") fd ["script"] (spD K 1 (den_law (He.ga K))) := by
  obtain ⟨fd, F⟩ := c.saysE.says.def_ 27 (d := mk "law" 41) rfl
  have b := FunD.bindsA (ps := ["script"]) F (fun _ _ _ _ _ _ us hl => match us, hl with | [_], _ => rfl)
  refine ⟨fd, fun s v => b s [v] rfl, fun w mg h base XK G => fn_law (st := st_law) (ps := ["script"]) F sc_law rfl fun cdv A outer s H vs E Gh hr tk po => ?_⟩
  have nd := (sc_law).nd
  exact pds_cons (pds_setN (i := 1) nd (pdn_call (cd__law_well c XK G) (hr.mono (by decide)) tk rfl (pda_v (pd_var 0) (pda_nil)))) (pds_cons (pds_asg (pd_call (cd__law_matrix c XK G) (hr.mono (by decide)) tk rfl (pda_s 1 (pda_nil))) (pdg_t (n := 2) rfl (pdgs_c (pdg_name (i := 2) nd) (pdgs_c (pdg_name (i := 3) nd) (pdgs_nil))))) (pds_cons (pds_set (i := 4) nd (pd_call (cd_determinant_form c XK G) (hr.mono (by decide)) tk rfl (pda_v (pd_var 2) (pda_nil)))) (pds_cons (pds_if (PW.pt (pdw_or (pd_tnot (pd_truth (pd_callB cd_isi rfl (He.free_ok XK G (c.saysE.says.fact 37 (f := .free "isinstance") rfl)) Boot.«isinstance» (pda_v (pd_var 4) (pda_v (pd_type "tuple" rfl (He.free_ok XK G (c.saysE.says.fact 42 (f := .free "tuple") rfl)) Boot.«tuple») (pda_nil)))))) (pdw_or (pd_tcmp (od_ne (hu64 hr)) (pd_callB cd_len rfl (He.free_ok XK G (c.saysE.says.fact 38 (f := .free "len") rfl)) Boot.«len» (pda_v (pd_var 4) (pda_nil))) (pd_int) (nomark _)) (pdw_or1 (PW.pt (pdw_and (pd_truth (pd_var 3)) (pdw_and1 (pd_tcmp (od_ne (hu64 hr)) (pd_var 4) (pd_op od_mul (pd_tup (pda_v (pd_int) (pda_nil))) (pd_int)) (nomark _))))))))) (pds_one (pds_ret (pd_bl))) (pds_nil)) (pds_cons (pds_if (PW.pt (pdw_or (pd_tcmp (od_ne (hu64 hr)) (pd_fz (pdn_lc (own := [("part", 19)]) rfl nd (pdi_seq (pd_var 4)) (blkOk_by (by kernel_rfl)) (fun _ _ _ _ _ => pdg_name (i := 19) nd) (fun _ _ _ _ _ => pts_one (PW.pt (pdw_or (pd_truth (pd_callB cd_isi rfl (He.free_ok XK G (c.saysE.says.fact 37 (f := .free "isinstance") rfl)) Boot.«isinstance» (pda_v (pd_var 19) (pda_v (pd_type "bool" rfl (He.free_ok XK G (c.saysE.says.fact 34 (f := .free "bool") rfl)) Boot.«bool») (pda_nil))))) (pdw_or1 (pd_tnot (pd_truth (pd_callB cd_isi rfl (He.free_ok XK G (c.saysE.says.fact 37 (f := .free "isinstance") rfl)) Boot.«isinstance» (pda_v (pd_var 19) (pda_v (pd_type "int" rfl (He.free_ok XK G (c.saysE.says.fact 36 (f := .free "int") rfl)) Boot.«int») (pda_nil)))))))))) (fun _ _ _ _ _ => pd_var 19))) (pd_fz (pdn_lst (pda_nil))) (nomark _)) (pdw_or1 (pd_tcmp (od_ne (hu64 hr)) (pd_call (cd_determinant_form c XK G) (hr.mono (by decide)) tk rfl (pda_v (pd_callTy cd_tuple rfl (He.free_ok XK G (c.saysE.says.fact 42 (f := .free "tuple") rfl)) Boot.«tuple» (pda_v (pd_fz (pdn_lc (own := [("row", 17)]) rfl nd (pdi_seq (pd_var 2)) (blkOk_by (by kernel_rfl)) (fun _ _ _ _ _ => pdg_name (i := 17) nd) (fun _ _ _ _ _ => pts_yes) (fun _ _ _ _ _ => pd_callTy cd_tuple rfl (He.free_ok XK G (c.saysE.says.fact 42 (f := .free "tuple") rfl)) Boot.«tuple» (pda_v (pd_var 17) (pda_nil))))) (pda_nil))) (pda_nil))) (pd_var 4) (nomark _))))) (pds_one (pds_ret (pd_bl))) (pds_nil)) (pds_cons (pds_lcN (i := 5) (own := [("at", 16)]) rfl nd (pdi_rng1 rfl (He.free_ok XK G (c.saysE.says.fact 40 (f := .free "range") rfl)) (pda_v (pd_int) (pda_nil))) (blkOk_by (by kernel_rfl)) (fun _ _ _ _ _ => pdg_name (i := 16) nd) (fun _ _ _ _ _ => pts_yes) (fun _ _ _ _ _ => pd_fz (pdn_lc (own := [("place", 8)]) rfl nd (pdi_rng1 rfl (He.free_ok XK G (c.saysE.says.fact 40 (f := .free "range") rfl)) (pda_v (pd_int) (pda_nil))) (blkOk_by (by kernel_rfl)) (fun _ _ _ _ _ => pdg_name (i := 8) nd) (fun _ _ _ _ _ => pts_yes) (fun _ _ _ _ _ => pd_callTy cd_int rfl (He.free_ok XK G (c.saysE.says.fact 36 (f := .free "int") rfl)) Boot.«int» (pda_v (pd_cmp (od_eq (hu64 hr)) (pd_var 16) (pd_var 8) (nomark _)) (pda_nil))))) rfl) (pds_cons (pds_for po rfl (pdi_rng1 rfl (He.free_ok XK G (c.saysE.says.fact 40 (f := .free "range") rfl)) (pda_v (pd_int) (pda_nil))) (pdg_name (i := 6) nd) (pds_one (pds_for po rfl (pdi_rng1 rfl (He.free_ok XK G (c.saysE.says.fact 40 (f := .free "range") rfl)) (pda_v (pd_var 6) (pda_nil))) (pdg_name (i := 13) nd) (pds_cons (pds_expr (pd_append 5 (pd_fz (pdn_lc (own := [("at", 16)]) rfl nd (pdi_rng1 rfl (He.free_ok XK G (c.saysE.says.fact 40 (f := .free "range") rfl)) (pda_v (pd_int) (pda_nil))) (blkOk_by (by kernel_rfl)) (fun _ _ _ _ _ => pdg_name (i := 16) nd) (fun _ _ _ _ _ => pts_yes) (fun _ _ _ _ _ => pd_op od_add (pd_callTy cd_int rfl (He.free_ok XK G (c.saysE.says.fact 36 (f := .free "int") rfl)) Boot.«int» (pda_v (pd_cmp (od_eq (hu64 hr)) (pd_var 16) (pd_var 6) (nomark _)) (pda_nil))) (pd_op od_mul (pd_int) (pd_callTy cd_int rfl (He.free_ok XK G (c.saysE.says.fact 36 (f := .free "int") rfl)) Boot.«int» (pda_v (pd_cmp (od_eq (hu64 hr)) (pd_var 16) (pd_var 13) (nomark _)) (pda_nil))))))))) (pds_one (pds_expr (pd_append 5 (pd_fz (pdn_lc (own := [("at", 16)]) rfl nd (pdi_rng1 rfl (He.free_ok XK G (c.saysE.says.fact 40 (f := .free "range") rfl)) (pda_v (pd_int) (pda_nil))) (blkOk_by (by kernel_rfl)) (fun _ _ _ _ _ => pdg_name (i := 16) nd) (fun _ _ _ _ _ => pts_yes) (fun _ _ _ _ _ => pd_op od_sub (pd_callTy cd_int rfl (He.free_ok XK G (c.saysE.says.fact 36 (f := .free "int") rfl)) Boot.«int» (pda_v (pd_cmp (od_eq (hu64 hr)) (pd_var 16) (pd_var 6) (nomark _)) (pda_nil))) (pd_callTy cd_int rfl (He.free_ok XK G (c.saysE.says.fact 36 (f := .free "int") rfl)) Boot.«int» (pda_v (pd_cmp (od_eq (hu64 hr)) (pd_var 16) (pd_var 13) (nomark _)) (pda_nil))))))))))))) (pds_cons (pds_for po rfl (pdi_rng1 rfl (He.free_ok XK G (c.saysE.says.fact 40 (f := .free "range") rfl)) (pda_v (pd_int) (pda_nil))) (pdg_name (i := 7) nd) (pds_one (pds_expr (pd_append 5 (pd_fz (pdn_lst (pda_v (pd_op od_sub (pd_call (cd__law_dip c XK G) (hr.mono (by decide)) tk rfl (pda_s 1 (pda_v (pd_int) (pda_nil)))) (pd_int)) (pda_v (pd_op od_sub (pd_call (cd__law_dip c XK G) (hr.mono (by decide)) tk rfl (pda_s 1 (pda_v (pd_int) (pda_nil)))) (pd_int)) (pda_v (pd_op od_add (pd_int) (pd_call (cd__law_dip c XK G) (hr.mono (by decide)) tk rfl (pda_s 1 (pda_v (pd_int) (pda_nil))))) (pda_v (pd_op od_sub (pd_call (cd__law_dip c XK G) (hr.mono (by decide)) tk rfl (pda_s 1 (pda_v (pd_int) (pda_nil)))) (pd_int)) (pda_nil))))))))))) (pds_cons (pds_for po rfl (pdi_seq (pd_var 5)) (pdg_name (i := 8) nd) (pds_cons (pds_set (i := 14) nd (pd_call (cd__law_plain c XK G) (hr.mono (by decide)) tk rfl (pda_v (pd_var 8) (pda_nil)))) (pds_cons (pds_lc (i := 15) (own := [("row", 17)]) rfl nd (pdi_seq (pd_var 2)) (blkOk_by (by kernel_rfl)) (fun _ _ _ _ _ => pdg_name (i := 17) nd) (fun _ _ _ _ _ => pts_yes) (fun _ _ _ _ _ => pd_fz (pdn_lc (own := [("form", 20)]) rfl nd (pdi_seq (pd_var 17)) (blkOk_by (by kernel_rfl)) (fun _ _ _ _ _ => pdg_name (i := 20) nd) (fun _ _ _ _ _ => pts_yes) (fun _ _ _ _ _ => pd_call (cd__law_dot c XK G) (hr.mono (by decide)) takes0 rfl (pda_v (pd_var 20) (pda_v (pd_var 14) (pda_nil)))))) rfl) (pds_cons (pds_if (PW.pt (pdw_or (pd_tcmp (od_ne (hu64 hr)) (pd_fz (pdn_lc (own := [("row", 17)]) rfl nd (pdi_seq (pd_call (cd_matrix_at c XK G) (hr.mono (by decide)) tk rfl (pda_v (pd_var 2) (pda_v (pd_var 8) (pda_nil))))) (blkOk_by (by kernel_rfl)) (fun _ _ _ _ _ => pdg_name (i := 17) nd) (fun _ _ _ _ _ => pts_yes) (fun _ _ _ _ _ => pd_fz (pdn_list rfl (He.free_ok XK G (c.saysE.says.fact 39 (f := .free "list") rfl)) Boot.«list» (pda_v (pd_var 17) (pda_nil)))))) (pd_var 15) (nomark _)) (pdw_or1 (pd_tcmp (od_ne (hu64 hr)) (pd_call (cd_matrix_at c XK G) (hr.mono (by decide)) tk rfl (pda_v (pd_var 2) (pda_v (pd_fz (pdn_lc (own := [("part", 19)]) rfl nd (pdi_seq (pd_var 8)) (blkOk_by (by kernel_rfl)) (fun _ _ _ _ _ => pdg_name (i := 19) nd) (fun _ _ _ _ _ => pts_yes) (fun _ _ _ _ _ => pd_op od_mul (pd_un ud_neg (pd_int)) (pd_var 19)))) (pda_nil)))) (pd_call (cd_matrix_at c XK G) (hr.mono (by decide)) tk rfl (pda_v (pd_var 2) (pda_v (pd_var 8) (pda_nil)))) (nomark _))))) (pds_one (pds_ret (pd_bl))) (pds_nil)) (pds_one (pds_if (pd_tcmp (od_ne (hu64 hr)) (pd_call (cd__law_three c XK G) (hr.mono (by decide)) tk rfl (pda_v (pd_ix (pd_var 15) (pd_int)) (pda_v (pd_ix (pd_var 15) (pd_int)) (pda_v (pd_ix (pd_var 15) (pd_int)) (pda_nil))))) (pd_call (cd__law_third c XK G) (hr.mono (by decide)) tk rfl (pda_v (pd_var 4) (pda_v (pd_var 14) (pda_nil)))) (nomark _)) (pds_one (pds_ret (pd_bl))) (pds_nil))))))) (pds_cons (pds_par (i := 9) (j := 10) rfl nd (pda_v (pd_slice (pd_var 2) (pdo_none) (pdo_some (pd_int))) (pda_v (pd_op od_add (pd_var 2) (pd_slice (pd_var 2) (pdo_none) (pdo_some (pd_int)))) (pda_nil)))) (pds_cons (pds_set (i := 11) nd (pd_fz (pdn_lst (pda_v (pd_var 9) (pda_v (pd_var 10) (pda_v (pd_fz (pdn_lc (own := [("row", 17)]) rfl nd (pdi_seq (pd_var 2)) (blkOk_by (by kernel_rfl)) (fun _ _ _ _ _ => pdg_name (i := 17) nd) (fun _ _ _ _ _ => pts_yes) (fun _ _ _ _ _ => pd_slice (pd_var 17) (pdo_none) (pdo_some (pd_int))))) (pda_v (pd_op od_add (pd_slice (pd_var 2) (pdo_none) (pdo_some (pd_int))) (pd_fz (pdn_lst (pda_v (pd_op od_add (pd_slice (pd_ix (pd_var 2) (pd_int)) (pdo_none) (pdo_some (pd_int))) (pd_fz (pdn_lst (pda_v (pd_slice (pd_ix (pd_ix (pd_var 2) (pd_int)) (pd_int)) (pdo_none) (pdo_some (pd_int))) (pda_nil))))) (pda_nil))))) (pda_v (pd_non) (pda_v (pd_str) (pda_v (pd_ix (pd_var 2) (pd_int)) (pda_nil))))))))))) (pds_cons (pds_set (i := 11) nd (pd_op od_add (pd_var 11) (pd_fz (pdn_lst (pda_v (pd_op od_add (pd_slice (pd_var 2) (pdo_none) (pdo_some (pd_int))) (pd_fz (pdn_lst (pda_v (pd_op od_add (pd_slice (pd_ix (pd_var 2) (pd_int)) (pdo_none) (pdo_some (pd_int))) (pd_fz (pdn_lst (pda_v (pd_fz (pdn_lst (pda_v (pd_int) (pda_v (pd_int) (pda_v (pd_bl) (pda_v (pd_int) (pda_nil))))))) (pda_nil))))) (pda_nil))))) (pda_v (pd_op od_add (pd_slice (pd_var 2) (pdo_none) (pdo_some (pd_int))) (pd_fz (pdn_lst (pda_v (pd_op od_add (pd_slice (pd_ix (pd_var 2) (pd_int)) (pdo_none) (pdo_some (pd_int))) (pd_fz (pdn_lst (pda_v (pd_int) (pda_nil))))) (pda_nil))))) (pda_nil))))))) (pds_cons (pds_if (pd_tcmp (od_ne (hu64 hr)) (pd_fz (pdn_lc (own := [("each", 18)]) rfl nd (pdi_seq (pd_var 11)) (blkOk_by (by kernel_rfl)) (fun _ _ _ _ _ => pdg_name (i := 18) nd) (fun _ _ _ _ _ => pts_yes) (fun _ _ _ _ _ => pd_call (cd__law_heard c XK G) (hr.mono (by decide)) takes0 rfl (pda_v (pd_var 18) (pda_v (pd_tup (pda_v (pd_int) (pda_v (pd_int) (pda_v (pd_int) (pda_v (pd_int) (pda_nil)))))) (pda_nil)))))) (pd_op od_mul (pd_fz (pdn_lst (pda_v (pd_tup (pda_v (pd_tup (pda_v (pd_str) (pda_v (pd_str) (pda_nil)))) (pda_v (pd_tup (pda_v (pd_str) (pda_v (pd_str) (pda_nil)))) (pda_nil)))) (pda_nil)))) (pd_callB cd_len rfl (He.free_ok XK G (c.saysE.says.fact 38 (f := .free "len") rfl)) Boot.«len» (pda_v (pd_var 11) (pda_nil)))) (nomark _)) (pds_one (pds_ret (pd_bl))) (pds_nil)) (pds_cons (pds_if (pd_tcmp (od_ne (hu64 hr)) (pd_fz (pdn_lc (own := [("place", 8)]) rfl nd (pdi_seq (pd_fz (pdn_lst (pda_v (pd_tup (pda_v (pd_int) (pda_v (pd_int) (pda_v (pd_int) (pda_v (pd_int) (pda_nil)))))) (pda_v (pd_tup (pda_v (pd_int) (pda_v (pd_int) (pda_v (pd_int) (pda_nil))))) (pda_v (pd_non) (pda_v (pd_tup (pda_v (pd_int) (pda_v (pd_int) (pda_v (pd_int) (pda_v (pd_str) (pda_nil)))))) (pda_v (pd_fz (pdn_lst (pda_v (pd_int) (pda_v (pd_int) (pda_v (pd_int) (pda_v (pd_bl) (pda_nil))))))) (pda_nil))))))))) (blkOk_by (by kernel_rfl)) (fun _ _ _ _ _ => pdg_name (i := 8) nd) (fun _ _ _ _ _ => pts_yes) (fun _ _ _ _ _ => pd_ix (pd_call (cd__law_heard c XK G) (hr.mono (by decide)) takes0 rfl (pda_v (pd_var 2) (pda_v (pd_var 8) (pda_nil)))) (pd_int)))) (pd_op od_mul (pd_fz (pdn_lst (pda_v (pd_tup (pda_v (pd_str) (pda_v (pd_str) (pda_nil)))) (pda_nil)))) (pd_int)) (nomark _)) (pds_one (pds_ret (pd_bl))) (pds_nil)) (pds_cons (pds_set (i := 12) nd (pd_op od_mul (pd_fz (pdn_lst (pda_v (pd_op od_mul (pd_fz (pdn_lst (pda_v (pd_tup (pda_v (pd_int) (pda_v (pd_int) (pda_v (pd_int) (pda_v (pd_int) (pda_nil)))))) (pda_nil)))) (pd_int)) (pda_nil)))) (pd_int))) (pds_cons (pds_if (PW.pt (pdw_or (pd_tcmp (od_ne (hu64 hr)) (pd_call (cd_determinant_form c XK G) (hr.mono (by decide)) tk rfl (pda_v (pd_var 12) (pda_nil))) (pd_op od_mul (pd_tup (pda_v (pd_int) (pda_nil))) (pd_int)) (nomark _)) (pdw_or1 (pd_tcmp (od_ne (hu64 hr)) (pd_call (cd_matrix_at c XK G) (hr.mono (by decide)) tk rfl (pda_v (pd_var 12) (pda_v (pd_tup (pda_v (pd_int) (pda_v (pd_int) (pda_v (pd_int) (pda_v (pd_int) (pda_nil)))))) (pda_nil)))) (pd_op od_mul (pd_tup (pda_v (pd_tup (pda_v (pd_int) (pda_v (pd_int) (pda_v (pd_int) (pda_nil))))) (pda_nil))) (pd_int)) (nomark _))))) (pds_one (pds_ret (pd_bl))) (pds_nil)) (pds_one (pds_ret (pd_cmp (od_eq (hu64 hr)) (pd_call (cd__law_heard c XK G) (hr.mono (by decide)) tk rfl (pda_v (pd_var 2) (pda_v (pd_tup (pda_v (pd_int) (pda_v (pd_int) (pda_v (pd_int) (pda_v (pd_int) (pda_nil)))))) (pda_nil)))) (pd_tup (pda_v (pd_non) (pda_v (pd_non) (pda_nil)))) (nomark _)))))))))))))))))))
end
end K75


set_option Elab.async false
set_option linter.all false
set_option maxRecDepth 100000
set_option maxHeartbeats 0
namespace K75
open PySem PySem.Spec PyProof.Rows L2 Dn
abbrev rw75 := PySem.Challenge.rw_sixpins_k75_determinants_of_any_matrix
abbrev R : PySem.W.OpenRow := PySem.W.OpenLaw.row rw75
abbrev hk : PySem.W.Hook := hookX rw75.prog 5 fx fa fn ex
def ob (s : PySem.W.SharedT) : AlX := obsXG rw75.prog 5 fx fa fn ex (HandSHeadRun.getT s)
theorem ob_eq (s : PySem.W.SharedT) : ob s = hk.obs s.abs := obsXG_eq (HandSHeadRun.getT_eq s)
def names1 : List PySem.Str := ["PinError", "BadRow", "BadForm", "is_integer", "is_listed", "are_integers", "is_row", "shrunk", "plain_of", "row_told", "WIDE", "mixed_row", "place_told", "powers_of", "product_in", "FORM_WIDE", "WAYS", "need_matrix", "table_at", "determinant_in", "matrix_at", "determinant_form"]
def names2 : List PySem.Str := ["_law_well", "_law_dip", "_law_pick", "_law_shared", "_law_plain", "_law_dot", "_law_cross", "_law_three", "_law_third", "_law_heard", "_law_matrix"]
def names : List PySem.Str := names1 ++ names2
theorem run (w : PySem.World) : HandSHeadRun.RunEqI R (PySem.W.view R.prog [0, 41]) hk ob 20000 names w := by
  unfold HandSHeadRun.RunEqI
  kernel_rfl
end K75

set_option Elab.async false
set_option linter.all false
set_option maxRecDepth 100000
set_option maxHeartbeats 400000
/-! P2: the defs of k75 over ints. -/
namespace K75
open PySem PySem.Spec PyProof.Rows L2 Dn
variable (e : Str → Addr)
abbrev iL (ns : List Int) : List D := ns.map D.int
theorem for_nil {t : Tg} {body : M Fl} {ρ : Rho} : forL t body [] ρ = .ok .nx ρ := rfl
theorem for_cons {t : Tg} {body : M Fl} {d : D} {ds : List D} {ρ ρ1 ρ2 : Rho} {r : Rs Fl} (h1 : t d ρ = some ρ1) (h2 : body ρ1 = .ok .nx ρ2) (h : forL t body ds ρ2 = r) : forL t body (d :: ds) ρ = r := by
  unfold forL
  rw [h1]
  show (match body ρ1 with
      | .ok .nx ρ2 => forL t body ds ρ2
      | .ok .ct ρ2 => forL t body ds ρ2
      | .ok .bk ρ2 => .ok .nx ρ2
      | r => r) = r
  rw [h2]
  exact h
/-! ### sums of products -/
def dotL (xs ys : List Int) : Int := ((xs.zip ys).map fun p => p.1 * p.2).sum
theorem dot_eq {a b : D} {xs ys : List Int} (ha : items a = some (iL xs)) (hb : items b = some (iL ys)) (hl : szOk (xs.zip ys).length) (hm : ∀ p ∈ xs.zip ys, mulOk p.1 p.2) : den__law_dot e [.fz a, .fz b] = .ok (.rt (.int (dotL xs ys))) [none, none] := by
  refine fn_rt (ρ := [some (.fz a), some (.fz b), none, none]) rfl ?_ rfl
  refine ret_ok (mC_ok (as1 (fz_ok (lcM_map (fun p : Int × Int => .tup [.int p.1, .int p.2]) (fun p => .int (p.1 * p.2)) (xs.zip ys) (zip_ok (as_cons rfl (as1 rfl)) ha hb) (zipD_map D.int D.int xs ys) hl rfl rfl fun p hp => ⟨[some (.fz a), some (.fz b), some (.fz (.int p.1)), some (.fz (.int p.2))], rfl, m2_ok rfl rfl (if_pos (hm p hp)), rfl⟩))) ?_)
  show (ints? ((xs.zip ys).map fun p => D.int (p.1 * p.2))).map (fun ns => D.int ns.sum) = _
  have : ((xs.zip ys).map fun p => D.int (p.1 * p.2)) = (((xs.zip ys).map fun p => p.1 * p.2)).map D.int := by rw [List.map_map]; rfl
  rw [this, ints?_map]
  rfl
theorem cross_eq {a b : D} {x0 x1 x2 y0 y1 y2 : Int} (ha : items a = some [.int x0, .int x1, .int x2]) (hb : items b = some [.int y0, .int y1, .int y2])
    (h01 : mulOk x0 y1) (h02 : mulOk x0 y2) (h10 : mulOk x1 y0) (h12 : mulOk x1 y2) (h20 : mulOk x2 y0) (h21 : mulOk x2 y1) :
    den__law_cross e [.fz a, .fz b] = .ok (.rt (.tup [.int (x1 * y2 - x2 * y1), .int (x2 * y0 - x0 * y2), .int (x0 * y1 - x1 * y0)])) [none, none] := by
  refine fn_rt (ρ := [some (.fz a), some (.fz b), some (.fz (.int x0)), some (.fz (.int x1)), some (.fz (.int x2)), some (.fz (.int y0)), some (.fz (.int y1)), some (.fz (.int y2))]) rfl ?_ rfl
  have s1 : tgS (tgT 3 (tgsCons (tgN 2) (tgsCons (tgN 3) (tgsCons (tgN 4) (tgsNil))))) (rdV 0) [some (.fz a), some (.fz b), none, none, none, none, none, none] = .ok .nx [some (.fz a), some (.fz b), some (.fz (.int x0)), some (.fz (.int x1)), some (.fz (.int x2)), none, none, none] := by
    exact tgS_ok rfl (tgT_ok ha rfl rfl)
  have s2 : tgS (tgT 3 (tgsCons (tgN 5) (tgsCons (tgN 6) (tgsCons (tgN 7) (tgsNil))))) (rdV 1) [some (.fz a), some (.fz b), some (.fz (.int x0)), some (.fz (.int x1)), some (.fz (.int x2)), none, none, none] = .ok .nx [some (.fz a), some (.fz b), some (.fz (.int x0)), some (.fz (.int x1)), some (.fz (.int x2)), some (.fz (.int y0)), some (.fz (.int y1)), some (.fz (.int y2))] := by
    exact tgS_ok rfl (tgT_ok hb rfl rfl)
  refine (seq_ok s1).trans ((seq_ok s2).trans (ret_ok (tup_ok (as_cons (m2_ok (m2_ok rfl rfl (if_pos h12)) (m2_ok rfl rfl (if_pos h21)) rfl) (as_cons (m2_ok (m2_ok rfl rfl (if_pos h20)) (m2_ok rfl rfl (if_pos h02)) rfl) (as1 (m2_ok (m2_ok rfl rfl (if_pos h01)) (m2_ok rfl rfl (if_pos h10)) rfl)))))))
/-- bits -/
theorem mul_bits {x y : Int} {m n : Nat} (hx : ib x ≤ m) (hy : ib y ≤ n) (h : m + n ≤ 134217728 := by decide) : mulOk x y := by
  show (ib x : Int) + (ib y : Int) ≤ 134217728
  omega
def detI (r0 r1 r2 : List Int) : Int := match r0, r1, r2 with
  | [a, b, c], [d, f, g], [h, i, j] => (b * g - c * f) * h + (c * d - a * g) * i + (a * f - b * d) * j
  | _, _, _ => 0
theorem three_eq {a b c : D} {x0 x1 x2 y0 y1 y2 z0 z1 z2 : Int} (ha : items a = some [.int x0, .int x1, .int x2]) (hb : items b = some [.int y0, .int y1, .int y2]) (hc : items c = some [.int z0, .int z1, .int z2])
    (hx : ∀ x ∈ [x0, x1, x2, y0, y1, y2, z0, z1, z2], ib x ≤ 1000) : den__law_three e [.fz a, .fz b, .fz c] = .ok (.rt (.int (detI [x0, x1, x2] [y0, y1, y2] [z0, z1, z2]))) [none, none, none] := by
  simp only [List.mem_cons, List.not_mem_nil, or_false, forall_eq_or_imp, forall_eq] at hx
  obtain ⟨h0, h1, h2, h3, h4, h5, h6, h7, h8⟩ := hx
  have mm : ∀ {p q : Int}, ib p ≤ 1000 → ib q ≤ 1000 → mulOk p q := fun a b => mul_bits a b
  have m2' : ∀ {p q r s t : Int}, ib p ≤ 1000 → ib q ≤ 1000 → ib r ≤ 1000 → ib s ≤ 1000 → ib t ≤ 1000 → mulOk (p * q - r * s) t := fun a b c d t => mul_bits (intBits_sub_le (intBits_mul_le a b) (intBits_mul_le c d)) t
  refine fn_rt (ρ := [some (.fz a), some (.fz b), some (.fz c)]) rfl ?_ rfl
  refine ret_ok (call_ok (as_cons (call_ok (as_cons rfl (as1 rfl)) (cross_eq e ha hb (mm h0 h4) (mm h0 h5) (mm h1 h3) (mm h1 h5) (mm h2 h3) (mm h2 h4))) (as1 rfl)) ?_)
  have := dot_eq e (a := .tup [.int (x1 * y2 - x2 * y1), .int (x2 * y0 - x0 * y2), .int (x0 * y1 - x1 * y0)]) (b := c) (xs := [x1 * y2 - x2 * y1, x2 * y0 - x0 * y2, x0 * y1 - x1 * y0]) (ys := [z0, z1, z2]) rfl hc (by simp [szOk]) (by
    intro p hp
    simp only [List.zip_cons_cons, List.zip_nil_right, List.mem_cons, List.not_mem_nil, or_false] at hp
    rcases hp with rfl | rfl | rfl
    · exact m2' h1 h5 h2 h4 h6
    · exact m2' h2 h3 h0 h5 h7
    · exact m2' h0 h4 h1 h3 h8)
  refine this.trans ?_
  have : dotL [x1 * y2 - x2 * y1, x2 * y0 - x0 * y2, x0 * y1 - x1 * y0] [z0, z1, z2] = detI [x0, x1, x2] [y0, y1, y2] [z0, z1, z2] := by
    simp only [dotL, detI, List.zip_cons_cons, List.zip_nil_right, List.map_cons, List.map_nil, List.sum_cons, List.sum_nil]
    omega
  rw [this]
  rfl
/-! ### powers -/
def pws (n : Nat) : List (List Int) := match n with
  | 1 => [[1, 0, 0, 0], [0, 1, 0, 0], [0, 0, 1, 0], [0, 0, 0, 1]]
  | 2 => [[2, 0, 0, 0], [1, 1, 0, 0], [1, 0, 1, 0], [1, 0, 0, 1], [0, 2, 0, 0], [0, 1, 1, 0], [0, 1, 0, 1], [0, 0, 2, 0], [0, 0, 1, 1], [0, 0, 0, 2]]
  | 3 => [[3, 0, 0, 0], [2, 1, 0, 0], [2, 0, 1, 0], [2, 0, 0, 1], [1, 2, 0, 0], [1, 1, 1, 0], [1, 1, 0, 1], [1, 0, 2, 0], [1, 0, 1, 1], [1, 0, 0, 2], [0, 3, 0, 0], [0, 2, 1, 0], [0, 2, 0, 1], [0, 1, 2, 0], [0, 1, 1, 1], [0, 1, 0, 2], [0, 0, 3, 0], [0, 0, 2, 1], [0, 0, 1, 2], [0, 0, 0, 3]]
  | _ => []
def tI (k : List Int) : D := .tup (k.map D.int)
theorem pow1 : den_powers_of e 4 [.fz (.int 4), .fz (.int 1)] = .ok (.rt (.lst ((pws 1).map tI))) [none, none] := by with_unfolding_all rfl
theorem pow2 : den_powers_of e 4 [.fz (.int 4), .fz (.int 2)] = .ok (.rt (.lst ((pws 2).map tI))) [none, none] := by with_unfolding_all rfl
theorem pow3 : den_powers_of e 4 [.fz (.int 4), .fz (.int 3)] = .ok (.rt (.lst ((pws 3).map tI))) [none, none] := by with_unfolding_all rfl
end K75

set_option Elab.async false
set_option linter.all false
set_option maxRecDepth 100000
set_option maxHeartbeats 400000
/-! P3: products of forms. -/
namespace K75
open PySem PySem.Spec PyProof.Rows L2 Dn
variable (e : Str → Addr)
def kk (k : List Int) : List Key := k.map Sum.inl
theorem kk_inj : ∀ {k l : List Int}, kk k = kk l → k = l
  | [], [], _ => rfl
  | [], _ :: _, h => by cases h
  | _ :: _, [], h => by cases h
  | x :: k, y :: l, h => by
    have h : (Sum.inl x : Key) :: kk k = Sum.inl y :: kk l := h
    injection h with h1 h2
    injection h1 with h1
    rw [h1, kk_inj h2]
def bump : List (List Int) → List Int → List Int → Int → List Int
  | k :: ks, c :: cs, q, v => (if k = q then c + v else c) :: bump ks cs q v
  | _, _, _, _ => []
theorem bump_len : ∀ {ks : List (List Int)} {cs : List Int} {q : List Int} {v : Int}, ks.length = cs.length → (bump ks cs q v).length = cs.length
  | [], [], _, _, _ => rfl
  | [], _ :: _, _, _, h => by simp at h
  | _ :: _, [], _, _, h => by simp at h
  | k :: ks, c :: cs, q, v, h => by simp [bump, bump_len (ks := ks) (cs := cs) (q := q) (v := v) (by simpa using h)]
theorem bump_no : ∀ {ks : List (List Int)} {cs : List Int} {q : List Int} {v : Int} {x : D}, ks.length = cs.length → q ∉ ks → bump ks cs q v = cs ∧ putDs (ks.map kk) (iL cs) (kk q) x = iL cs
  | [], [], _, _, _, _, _ => ⟨rfl, rfl⟩
  | [], _ :: _, _, _, _, h, _ => by simp at h
  | _ :: _, [], _, _, _, h, _ => by simp at h
  | k :: ks, c :: cs, q, v, x, h, hq => by
    obtain ⟨h1, h2⟩ := (show q ≠ k ∧ q ∉ ks from ⟨fun z => hq (z ▸ List.mem_cons_self), fun z => hq (List.mem_cons_of_mem _ z)⟩)
    obtain ⟨e1, e2⟩ := bump_no (v := v) (x := x) (ks := ks) (cs := cs) (by simpa using h) h2
    constructor
    · show (if k = q then c + v else c) :: bump ks cs q v = _
      rw [if_neg (Ne.symm h1), e1]
    · show (if kk k = kk q then x else .int c) :: putDs (ks.map kk) (iL cs) (kk q) x = _
      rw [if_neg (fun z => h1 (kk_inj z).symm), e2]
      rfl
theorem bump_at : ∀ {ks : List (List Int)} {cs : List Int} {q : List Int} {v : Int}, ks.length = cs.length → q ∈ ks → ks.Nodup → ∃ i, getDs (ks.map kk) (iL cs) (kk q) = some (.int i) ∧ putDs (ks.map kk) (iL cs) (kk q) (.int (i + v)) = iL (bump ks cs q v)
  | [], _, _, _, _, h, _ => by cases h
  | _ :: _, [], _, _, h, _, _ => by simp at h
  | k :: ks, c :: cs, q, v, h, hq, nd => by
    obtain ⟨nk, nd⟩ := List.nodup_cons.mp nd
    by_cases hk : k = q
    · subst hk
      refine ⟨c, ?_, ?_⟩
      · show (if kk k = kk k then some (D.int c) else _) = _
        rw [if_pos rfl]
      · show (if kk k = kk k then D.int (c + v) else .int c) :: putDs (ks.map kk) (iL cs) (kk k) (.int (c + v)) = iL ((if k = k then c + v else c) :: bump ks cs k v)
        obtain ⟨e1, e2⟩ := bump_no (v := v) (x := .int (c + v)) (ks := ks) (cs := cs) (q := k) (by simpa using h) nk
        rw [if_pos rfl, if_pos rfl, e1, e2]
        rfl
    · have hq' : q ∈ ks := by
        rcases List.mem_cons.mp hq with z | z
        · exact absurd z.symm hk
        · exact z
      obtain ⟨i, e1, e2⟩ := bump_at (v := v) (ks := ks) (cs := cs) (by simpa using h) hq' nd
      have nk' : kk k ≠ kk q := fun z => hk (kk_inj z)
      refine ⟨i, ?_, ?_⟩
      · show (if kk k = kk q then some (D.int c) else getDs (ks.map kk) (iL cs) (kk q)) = _
        rw [if_neg nk', e1]
      · show (if kk k = kk q then D.int (i + v) else .int c) :: putDs (ks.map kk) (iL cs) (kk q) (.int (i + v)) = iL ((if k = q then c + v else c) :: bump ks cs q v)
        rw [if_neg nk', if_neg hk, e2]
        rfl
theorem hasK_at {ks : List (List Int)} {q : List Int} (h : q ∈ ks) : hasK (ks.map kk) (kk q) = true := by
  unfold hasK
  exact List.any_eq_true.mpr ⟨kk q, List.mem_map.mpr ⟨q, h, rfl⟩, decide_eq_true rfl⟩
theorem keyD_tI (q : List Int) : keyD (tI q) = some (kk q) := by
  show (ints? (q.map D.int)).map (fun ns => ns.map Sum.inl) = _
  rw [ints?_map]
  rfl
theorem aug_ok {ρ : Rho} {k : Nat} {ks : List (List Int)} {cs q : List Int} {j : Int} {km vm : M D} (h0 : ownDT ρ k = some (ks.map kk, iL cs)) (hk : km ρ = .ok (tI q) ρ) (hv : vm ρ = .ok (.int j) ρ) (hq : q ∈ ks) (nd : ks.Nodup) (hl : ks.length = cs.length) (hs : ks.length < 16777216) :
    augM k km vm ρ = .ok .nx (ρ.set k (some (.own (.dT (ks.map kk) (iL (bump ks cs q j)))))) := by
  have o : (fun ρ => lift (ownDT ρ k) ρ : M _) ρ = .ok (ks.map kk, iL cs) ρ := by
    show lift (ownDT ρ k) ρ = _
    rw [h0]
    rfl
  obtain ⟨i, e1, e2⟩ := bump_at (v := j) hl hq nd
  unfold augM
  rw [bind_ok (m := fun ρ => lift (ownDT ρ k) ρ) o, bind_ok hk, bind_ok (m := fun ρ => lift (ownDT ρ k) ρ) o]
  rw [bind_ok (a := (kk q, i)) (ρ1 := ρ) (by
    rw [keyD_tI]
    show lift (((getDs (ks.map kk) (iL cs) (kk q)).bind asI).map fun i => (kk q, i)) ρ = _
    rw [e1]
    rfl), bind_ok hv, bind_ok (show lift (asI (.int j)) ρ = .ok j ρ from rfl), bind_ok (m := fun ρ => lift (ownDT ρ k) ρ) o]
  unfold augPut
  rw [if_pos ⟨hasK_at hq, by rw [List.length_map]; exact hs⟩]
  show Rs.ok Fl.nx (ρ.set k (some (.own (.dT (ks.map kk) (putDs (ks.map kk) (iL cs) (kk q) (.int (i + j))))))) = _
  rw [e2]
def addK (k l : List Int) : List Int := (k.zip l).map fun p => p.1 + p.2
def pairD (p : Int × List Int) : D := .tup [.int p.1, tI p.2]
def nz (l : List (Int × List Int)) : List (Int × List Int) := l.filter fun p => decide (p.1 ≠ 0)
def inL (ks : List (List Int)) (a : Int × List Int) (B : List (Int × List Int)) (cs : List Int) : List Int := B.foldl (fun cs b => bump ks cs (addK a.2 b.2) (a.1 * b.1)) cs
def prodL (ks : List (List Int)) (A B : List (Int × List Int)) (cs : List Int) : List Int := A.foldl (fun cs a => inL ks a B cs) cs
theorem inL_len {ks : List (List Int)} {a : Int × List Int} : ∀ {B : List (Int × List Int)} {cs : List Int}, ks.length = cs.length → (inL ks a B cs).length = cs.length
  | [], cs, _ => rfl
  | b :: B, cs, h => by
    show (inL ks a B (bump ks cs (addK a.2 b.2) (a.1 * b.1))).length = _
    rw [inL_len (by rw [bump_len h]; exact h), bump_len h]
theorem prodL_len {ks : List (List Int)} {B : List (Int × List Int)} : ∀ {A : List (Int × List Int)} {cs : List Int}, ks.length = cs.length → (prodL ks A B cs).length = cs.length
  | [], cs, _ => rfl
  | a :: A, cs, h => by
    show (prodL ks A B (inL ks a B cs)).length = _
    rw [prodL_len (by rw [inL_len h]; exact h), inL_len h]
section
variable {ks : List (List Int)} {one other A B : D} {p q : Int}
def RP (ks : List (List Int)) (one other A B : D) (p q : Int) (cs : List Int) (s8 s9 s10 s11 : Option Sl) : Rho := [some (.fz one), some (.fz other), some (.fz (.int 4)), some (.fz (.int p)), some (.fz (.int q)), some (.own (.dT (ks.map kk) (iL cs))), some (.fz A), some (.fz B), s8, s9, s10, s11, none, none, none, none]
abbrev inB : M Fl := augM 5 (mC (aV (fzM (lcM (zipM (aV (rdV 9) (aV (rdV 11) (aNil)))) (tgT 2 (tgsCons (tgN 14) (tgsCons (tgN 15) (tgsNil)))) (yesM) (m2 (rdV 14) (rdV 15) dAdd) [14, 15])) (aNil)) dTuple) (m2 (rdV 8) (rdV 10) dMul)
abbrev inT : Tg := tgT 2 (tgsCons (tgN 10) (tgsCons (tgN 11) (tgsNil)))
abbrev outT : Tg := tgT 2 (tgsCons (tgN 8) (tgsCons (tgN 9) (tgsNil)))
theorem inB_eq {cs : List Int} {x y : Int} {k l : List Int} (hq : addK k l ∈ ks) (nd : ks.Nodup) (hl : ks.length = cs.length) (hs : ks.length < 16777216) (hm : mulOk x y) (hz : szOk (k.zip l).length) :
    inB (RP ks one other A B p q cs (some (.fz (.int x))) (some (.fz (tI k))) (some (.fz (.int y))) (some (.fz (tI l)))) = .ok .nx (RP ks one other A B p q (bump ks cs (addK k l) (x * y)) (some (.fz (.int x))) (some (.fz (tI k))) (some (.fz (.int y))) (some (.fz (tI l)))) := by
  refine aug_ok rfl (mC_ok (as1 (fz_ok (lcM_map (fun p : Int × Int => .tup [.int p.1, .int p.2]) (fun p => .int (p.1 + p.2)) (k.zip l) (zip_ok (as_cons rfl (as1 rfl)) rfl rfl) (zipD_map D.int D.int k l) hz rfl rfl fun r hr => ⟨_, rfl, m2_ok rfl rfl rfl, rfl⟩))) ?_) (m2_ok rfl rfl (if_pos hm)) hq nd hl hs
  show some (D.tup _) = some (D.tup ((addK k l).map D.int))
  unfold addK
  rw [List.map_map]
  rfl
theorem inner_eq (nd : ks.Nodup) (hs : ks.length < 16777216) {x : Int} {k : List Int} : ∀ (Bs : List (Int × List Int)) (cs : List Int) (s10 s11 : Option Sl), (∀ b ∈ Bs, addK k b.2 ∈ ks ∧ mulOk x b.1 ∧ szOk (k.zip b.2).length) → ks.length = cs.length →
    ∃ s10' s11', forL inT inB (Bs.map pairD) (RP ks one other A B p q cs (some (.fz (.int x))) (some (.fz (tI k))) s10 s11) = .ok .nx (RP ks one other A B p q (inL ks (x, k) Bs cs) (some (.fz (.int x))) (some (.fz (tI k))) s10' s11')
  | [], cs, s10, s11, _, _ => ⟨s10, s11, rfl⟩
  | b :: Bs, cs, s10, s11, h, hl => by
    obtain ⟨h1, h2, h3⟩ := h b List.mem_cons_self
    obtain ⟨t10, t11, ht⟩ := inner_eq nd hs Bs (bump ks cs (addK k b.2) (x * b.1)) (some (.fz (.int b.1))) (some (.fz (tI b.2))) (fun c hc => h c (List.mem_cons_of_mem _ hc)) (by rw [bump_len hl]; exact hl)
    exact ⟨t10, t11, for_cons (ρ1 := RP ks one other A B p q cs (some (.fz (.int x))) (some (.fz (tI k))) (some (.fz (.int b.1))) (some (.fz (tI b.2)))) rfl (inB_eq h1 nd hl hs h2 h3) ht⟩
theorem outer_eq (nd : ks.Nodup) (hs : ks.length < 16777216) (Bs : List (Int × List Int)) : ∀ (As : List (Int × List Int)) (cs : List Int) (s8 s9 s10 s11 : Option Sl), (∀ a ∈ As, ∀ b ∈ Bs, addK a.2 b.2 ∈ ks ∧ mulOk a.1 b.1 ∧ szOk (a.2.zip b.2).length) → ks.length = cs.length →
    ∃ s8' s9' s10' s11', forL outT (forM (itM (rdV 7)) inT inB) (As.map pairD) (RP ks one other A (.lst (Bs.map pairD)) p q cs s8 s9 s10 s11) = .ok .nx (RP ks one other A (.lst (Bs.map pairD)) p q (prodL ks As Bs cs) s8' s9' s10' s11')
  | [], cs, s8, s9, s10, s11, _, _ => ⟨s8, s9, s10, s11, rfl⟩
  | a :: As, cs, s8, s9, s10, s11, h, hl => by
    obtain ⟨u10, u11, hu⟩ := inner_eq (one := one) (other := other) (A := A) (B := .lst (Bs.map pairD)) (p := p) (q := q) nd hs (x := a.1) (k := a.2) Bs cs s10 s11 (h a List.mem_cons_self) hl
    obtain ⟨t8, t9, t10, t11, ht⟩ := outer_eq nd hs Bs As (inL ks a Bs cs) (some (.fz (.int a.1))) (some (.fz (tI a.2))) u10 u11 (fun c hc => h c (List.mem_cons_of_mem _ hc)) (by rw [inL_len hl]; exact hl)
    exact ⟨t8, t9, t10, t11, for_cons (ρ1 := RP ks one other A (.lst (Bs.map pairD)) p q cs (some (.fz (.int a.1))) (some (.fz (tI a.2))) s10 s11) rfl ((for_ok (it_ok (ma := rdV 7) rfl rfl)).trans hu) ht⟩
end
theorem product_eq {one other : D} {p q r : Nat} {as bs : List Int} (ha : items one = some (iL as)) (hb : items other = some (iL bs))
    (hp : den_powers_of e 4 [.fz (.int 4), .fz (.int p)] = .ok (.rt (.lst ((pws p).map tI))) [none, none]) (hq : den_powers_of e 4 [.fz (.int 4), .fz (.int q)] = .ok (.rt (.lst ((pws q).map tI))) [none, none])
    (hr : den_powers_of e 4 [.fz (.int 4), .fz (.int ((p : Int) + q))] = .ok (.rt (.lst ((pws r).map tI))) [none, none]) (nd : (pws r).Nodup) (hs : (pws r).length < 16777216)
    (hd : ∀ ρ : Rho, ρ = [some (.fz one), some (.fz other), some (.fz (.int 4)), some (.fz (.int p)), some (.fz (.int q)), none, none, none, none, none, none, none, none, none, none, none] → dcLoop (tgN 12) (rdV 12) (ret (.int 0)) [12] ((pws r).map tI) [] [] ρ = .ok ((pws r).map kk, iL ((pws r).map fun _ => 0)) ρ)
    (hza : szOk (as.zip (pws p)).length) (hzb : szOk (bs.zip (pws q)).length) (hzr : szOk (pws r).length)
    (hk : ∀ a ∈ nz (as.zip (pws p)), ∀ b ∈ nz (bs.zip (pws q)), addK a.2 b.2 ∈ pws r ∧ mulOk a.1 b.1 ∧ szOk (a.2.zip b.2).length) :
    den_product_in e [.fz one, .fz other, .fz (.int 4), .fz (.int p), .fz (.int q)] = .ok (.rt (.tup (iL (prodL (pws r) (nz (as.zip (pws p))) (nz (bs.zip (pws q))) ((pws r).map fun _ => 0))))) [none, none, none, none, none] := by
  obtain ⟨s8, s9, s10, s11, hh⟩ := outer_eq (one := one) (other := other) (A := .lst ((nz (as.zip (pws p))).map pairD)) (p := p) (q := q) nd hs (nz (bs.zip (pws q))) (nz (as.zip (pws p))) ((pws r).map fun _ => 0) none none none none hk (by simp)
  refine fn_rt (ρ := RP (pws r) one other (.lst ((nz (as.zip (pws p))).map pairD)) (.lst ((nz (bs.zip (pws q))).map pairD)) p q (prodL (pws r) (nz (as.zip (pws p))) (nz (bs.zip (pws q))) ((pws r).map fun _ => 0)) s8 s9 s10 s11) rfl ?_ rfl
  have s1 : asgN 5 (dcM (itM (callD (den_powers_of e 4) (aV (rdV 2) (aV (m2 (rdV 3) (rdV 4) dAdd) (aNil))))) (tgN 12) (rdV 12) (ret (.int 0)) [12]) [some (.fz one), some (.fz other), some (.fz (.int 4)), some (.fz (.int p)), some (.fz (.int q)), none, none, none, none, none, none, none, none, none, none, none] = .ok .nx [some (.fz one), some (.fz other), some (.fz (.int 4)), some (.fz (.int p)), some (.fz (.int q)), some (.own (.dT ((pws r).map kk) (iL ((pws r).map fun _ => 0)))), none, none, none, none, none, none, none, none, none, none] := by
    refine asgN_ok (ρ1 := [some (.fz one), some (.fz other), some (.fz (.int 4)), some (.fz (.int p)), some (.fz (.int q)), none, none, none, none, none, none, none, none, none, none, none]) ?_
    unfold dcM
    rw [bind_ok (it_ok (call_ok (den := den_powers_of e 4) (as_cons (ma := rdV 2) rfl (as1 (m2_ok (ma := rdV 3) (mb := rdV 4) (g := dAdd) rfl rfl rfl))) hr) rfl), if_pos ⟨by rw [List.length_map]; exact hzr, rfl⟩]
    show (match dcLoop (tgN 12) (rdV 12) (ret (.int 0)) [12] ((pws r).map tI) [] [] [some (.fz one), some (.fz other), some (.fz (.int 4)), some (.fz (.int p)), some (.fz (.int q)), none, none, none, none, none, none, none, none, none, none, none] with
      | .ok r ρ' => Rs.ok (OO.dT r.1 r.2) (unwipe _ ρ' [12])
      | _ => .no) = _
    rw [hd _ rfl]
    rfl
  refine (seq_ok s1).trans ?_
  have cp : ∀ (f : D) (fs : List Int) (j : Nat) (i k : Nat) (ρ : Rho), ρ[i]? = some (some (.fz f)) → ρ[2]? = some (some (.fz (.int 4))) → ρ[k]? = some (some (.fz (.int j))) → items f = some (iL fs) → den_powers_of e 4 [.fz (.int 4), .fz (.int j)] = .ok (.rt (.lst ((pws j).map tI))) [none, none] → szOk (fs.zip (pws j)).length → ρ.length = 16 → ρ[12]? = some none → ρ[13]? = some none →
      lcM (zipM (aV (rdV i) (aV (callD (den_powers_of e 4) (aV (rdV 2) (aV (rdV k) (aNil)))) (aNil)))) (tgT 2 (tgsCons (tgN 13) (tgsCons (tgN 12) (tgsNil)))) (mB (m2 (rdV 13) (ret (.int 0)) dNe)) (tupM (aV (rdV 13) (aV (rdV 12) (aNil)))) [13, 12] ρ = .ok (.lst ((nz (fs.zip (pws j))).map pairD)) ρ := by
    intro f fs j i k ρ h1 h2 h3 h4 h5 h6 h7 h12 h13
    have rd : ∀ {n : Nat} {d : D}, ρ[n]? = some (some (.fz d)) → rdV n ρ = .ok d ρ := fun h => by
      unfold rdV
      rw [h]
    have set12 : ρ.set 12 none = ρ := by
      apply List.ext_getElem?
      intro n
      by_cases hn : 12 = n
      · subst hn
        rw [List.getElem?_set_self (by omega), h12]
      · rw [List.getElem?_set_ne hn]
    have set13 : ρ.set 13 none = ρ := by
      apply List.ext_getElem?
      intro n
      by_cases hn : 13 = n
      · subst hn
        rw [List.getElem?_set_self (by omega), h13]
      · rw [List.getElem?_set_ne hn]
    have w : wipeR ρ [13, 12] = ρ := by
      show (ρ.set 12 none).set 13 none = ρ
      rw [set12, set13]
    refine lcM_of (fun p : Int × List Int => .tup [.int p.1, tI p.2]) (fun p => decide (p.1 ≠ 0)) pairD (fs.zip (pws j)) (zip_ok (as_cons (rd h1) (as1 (call_ok (as_cons (rd h2) (as1 (rd h3))) h5))) h4 rfl) (zipD_map D.int tI fs (pws j)) h6 (by simp [noOwn, h12, h13]) ?_ fun x hx => ?_
    · rw [w]
      show (ρ.set 12 (ρ[12]?.join)).set 13 (ρ[13]?.join) = ρ
      rw [h12, h13]
      show (ρ.set 12 none).set 13 none = ρ
      rw [set12, set13]
    · rw [w]
      have l1 : ((ρ.set 13 (some (.fz (.int x.1)))).set 12 (some (.fz (tI x.2))))[13]? = some (some (.fz (.int x.1))) := by
        rw [List.getElem?_set_ne (by decide), List.getElem?_set_self (by omega)]
      have l2 : ((ρ.set 13 (some (.fz (.int x.1)))).set 12 (some (.fz (tI x.2))))[12]? = some (some (.fz (tI x.2))) := by
        rw [List.getElem?_set_self (by simp; omega)]
      have rd' : ∀ {n : Nat} {d : D} {ρ : Rho}, ρ[n]? = some (some (.fz d)) → rdV n ρ = .ok d ρ := fun h => by
        unfold rdV
        rw [h]
      refine ⟨(ρ.set 13 (some (.fz (.int x.1)))).set 12 (some (.fz (tI x.2))), rfl, ?_, fun _ => ?_, ?_⟩
      · refine mB_ok (m2_ok (rd' l1) rfl ?_)
        exact dNe_int _ _
      · exact tup_ok (as_cons (rd' l1) (as1 (rd' l2)))
      · show (((ρ.set 13 (some (.fz (.int x.1)))).set 12 (some (.fz (tI x.2)))).set 12 none).set 13 none = ρ
        rw [List.set_set, List.set_comm _ _ (by decide : (13 : Nat) ≠ 12), List.set_set, List.set_comm _ _ (by decide : (12 : Nat) ≠ 13), set13, set12]
  refine (seq_ok (asg_ok (fz_ok (cp one as p 0 3 _ rfl rfl rfl ha hp hza rfl rfl rfl)))).trans ?_
  refine (seq_ok (asg_ok (fz_ok (cp other bs q 1 4 _ rfl rfl rfl hb hq hzb rfl rfl rfl)))).trans ?_
  refine (seq_ok ((for_ok (it_ok (ma := rdV 6) rfl rfl)).trans hh)).trans ?_
  rfl
end K75

set_option Elab.async false
set_option linter.all false
set_option maxRecDepth 100000
set_option maxHeartbeats 400000
/-! P4: the value of a form at a place. -/
namespace K75
open PySem PySem.Spec PyProof.Rows L2 Dn
variable (e : Str → Addr)
/-- the value of a form, weight by weight -/
def val (W : List Int → Int) : List (List Int) → List Int → Int
  | k :: ks, c :: cs => c * W k + val W ks cs
  | _, _ => 0
def valP (W : List Int → Int) : List (Int × List Int) → Int
  | p :: l => p.1 * W p.2 + valP W l
  | [] => 0
theorem valP_zip {W : List Int → Int} : ∀ (cs : List Int) (ks : List (List Int)), valP W (cs.zip ks) = val W ks cs
  | [], ks => by cases ks <;> rfl
  | c :: cs, [] => rfl
  | c :: cs, k :: ks => by
    show c * W k + valP W (cs.zip ks) = c * W k + val W ks cs
    rw [valP_zip cs ks]
theorem valP_nz {W : List Int → Int} : ∀ (l : List (Int × List Int)), valP W (nz l) = valP W l
  | [] => rfl
  | p :: l => by
    unfold nz
    by_cases h : p.1 = 0
    · rw [List.filter_cons_of_neg (by simp [h])]
      show valP W (nz l) = p.1 * W p.2 + valP W l
      rw [valP_nz l, h]
      simp
    · rw [List.filter_cons_of_pos (by simp [h])]
      show p.1 * W p.2 + valP W (nz l) = p.1 * W p.2 + valP W l
      rw [valP_nz l]
theorem val_bump_no {W : List Int → Int} {ks : List (List Int)} {cs q : List Int} {v : Int} (hl : ks.length = cs.length) (h : q ∉ ks) : val W ks (bump ks cs q v) = val W ks cs := by
  rw [(bump_no (x := .non) hl h).1]
theorem val_bump {W : List Int → Int} : ∀ {ks : List (List Int)} {cs q : List Int} {v : Int}, ks.length = cs.length → q ∈ ks → ks.Nodup → val W ks (bump ks cs q v) = val W ks cs + v * W q
  | [], _, _, _, _, h, _ => by cases h
  | _ :: _, [], _, _, h, _, _ => by simp at h
  | k :: ks, c :: cs, q, v, h, hq, nd => by
    obtain ⟨nk, nd⟩ := List.nodup_cons.mp nd
    show (if k = q then c + v else c) * W k + val W ks (bump ks cs q v) = c * W k + val W ks cs + v * W q
    by_cases hk : k = q
    · subst hk
      rw [if_pos rfl, val_bump_no (by simpa using h) nk, Int.add_mul]
      omega
    · have hq' : q ∈ ks := by
        rcases List.mem_cons.mp hq with z | z
        · exact absurd z.symm hk
        · exact z
      rw [if_neg hk, val_bump (by simpa using h) hq' nd]
      omega
theorem val_inL {W : List Int → Int} {ks : List (List Int)} (nd : ks.Nodup) {a : Int × List Int} : ∀ {B : List (Int × List Int)} {cs : List Int}, ks.length = cs.length → (∀ b ∈ B, addK a.2 b.2 ∈ ks ∧ W (addK a.2 b.2) = W a.2 * W b.2) →
    val W ks (inL ks a B cs) = val W ks cs + a.1 * W a.2 * valP W B
  | [], cs, _, _ => by simp [inL, valP]
  | b :: B, cs, hl, h => by
    obtain ⟨h1, h2⟩ := h b List.mem_cons_self
    show val W ks (inL ks a B (bump ks cs (addK a.2 b.2) (a.1 * b.1))) = val W ks cs + a.1 * W a.2 * (b.1 * W b.2 + valP W B)
    rw [val_inL nd (by rw [bump_len hl]; exact hl) (fun c hc => h c (List.mem_cons_of_mem _ hc)), val_bump hl h1 nd, h2]
    grind
theorem val_prodL {W : List Int → Int} {ks : List (List Int)} (nd : ks.Nodup) {B : List (Int × List Int)} : ∀ {A : List (Int × List Int)} {cs : List Int}, ks.length = cs.length → (∀ a ∈ A, ∀ b ∈ B, addK a.2 b.2 ∈ ks ∧ W (addK a.2 b.2) = W a.2 * W b.2) →
    val W ks (prodL ks A B cs) = val W ks cs + valP W A * valP W B
  | [], cs, _, _ => by simp [prodL, valP]
  | a :: A, cs, hl, h => by
    show val W ks (prodL ks A B (inL ks a B cs)) = val W ks cs + (a.1 * W a.2 + valP W A) * valP W B
    rw [val_prodL nd (by rw [inL_len hl]; exact hl) (fun c hc => h c (List.mem_cons_of_mem _ hc)), val_inL nd hl (h a List.mem_cons_self)]
    grind
theorem val_zero {W : List Int → Int} : ∀ ks : List (List Int), val W ks (ks.map fun _ => 0) = 0
  | [] => rfl
  | k :: ks => by
    show 0 * W k + val W ks (ks.map fun _ => 0) = 0
    rw [val_zero ks]
    simp
/-! ### bits of the coefficients -/
def Bd (n : Nat) (cs : List Int) : Prop := ∀ c ∈ cs, ib c ≤ n
theorem bump_bd {n m : Nat} : ∀ {ks : List (List Int)} {cs q : List Int} {v : Int}, Bd n cs → ib v ≤ m → m ≤ n → Bd (n + 1) (bump ks cs q v)
  | [], _, _, _, _, _, _ => fun c hc => by simp [bump] at hc
  | _ :: _, [], _, _, _, _, _ => fun c hc => by simp [bump] at hc
  | k :: ks, c0 :: cs, q, v, h, hv, hmn => fun c hc => by
    rcases List.mem_cons.mp (show c ∈ (if k = q then c0 + v else c0) :: bump ks cs q v from hc) with z | z
    · rw [z]
      have h0 := h c0 List.mem_cons_self
      split
      · exact Nat.le_trans (intBits_add_le h0 (Nat.le_trans hv hmn)) (by omega)
      · omega
    · exact bump_bd (fun x hx => h x (List.mem_cons_of_mem _ hx)) hv hmn c z
theorem Bd.mono {n m : Nat} {cs : List Int} (h : Bd n cs) (hm : n ≤ m) : Bd m cs := fun c hc => Nat.le_trans (h c hc) hm
theorem inL_bd {m : Nat} {ks : List (List Int)} {a : Int × List Int} : ∀ {B : List (Int × List Int)} {cs : List Int} {n : Nat}, Bd n cs → (∀ b ∈ B, ib (a.1 * b.1) ≤ m) → m ≤ n → Bd (n + B.length) (inL ks a B cs)
  | [], cs, n, h, _, _ => h
  | b :: B, cs, n, h, hb, hm => by
    have := inL_bd (m := m) (ks := ks) (a := a) (B := B) (bump_bd (ks := ks) (q := addK a.2 b.2) h (hb b List.mem_cons_self) hm) (fun c hc => hb c (List.mem_cons_of_mem _ hc)) (by omega)
    exact Bd.mono this (by simp; omega)
theorem prodL_bd {m : Nat} {ks : List (List Int)} {B : List (Int × List Int)} : ∀ {A : List (Int × List Int)} {cs : List Int} {n : Nat}, Bd n cs → (∀ a ∈ A, ∀ b ∈ B, ib (a.1 * b.1) ≤ m) → m ≤ n → Bd (n + A.length * B.length) (prodL ks A B cs)
  | [], cs, n, h, _, _ => by
    show Bd _ cs
    exact h.mono (by simp)
  | a :: A, cs, n, h, hb, hm => by
    have := prodL_bd (m := m) (ks := ks) (B := B) (A := A) (inL_bd (ks := ks) (a := a) h (hb a List.mem_cons_self) hm) (fun c hc => hb c (List.mem_cons_of_mem _ hc)) (by omega)
    refine Bd.mono this ?_
    rw [List.length_cons, Nat.succ_mul]
    omega
/-! ### places -/
def mono (x0 x1 x2 x3 : Int) : List Int → Int
  | [a, b, c, d] => x0 ^ a.toNat * x1 ^ b.toNat * x2 ^ c.toNat * x3 ^ d.toNat
  | _ => 0
def okK (k : List Int) : Bool := match k with
  | [a, b, c, d] => decide (0 ≤ a) && decide (0 ≤ b) && decide (0 ≤ c) && decide (0 ≤ d)
  | _ => false
theorem mono_add {x0 x1 x2 x3 : Int} {k l : List Int} (hk : okK k = true) (hl : okK l = true) : mono x0 x1 x2 x3 (addK k l) = mono x0 x1 x2 x3 k * mono x0 x1 x2 x3 l := by
  unfold okK at hk hl
  split at hk
  · rename_i a b c d
    split at hl
    · rename_i a' b' c' d'
      simp only [Bool.and_eq_true, decide_eq_true_eq] at hk hl
      obtain ⟨⟨⟨h1, h2⟩, h3⟩, h4⟩ := hk
      obtain ⟨⟨⟨g1, g2⟩, g3⟩, g4⟩ := hl
      show x0 ^ (a + a').toNat * x1 ^ (b + b').toNat * x2 ^ (c + c').toNat * x3 ^ (d + d').toNat = x0 ^ a.toNat * x1 ^ b.toNat * x2 ^ c.toNat * x3 ^ d.toNat * (x0 ^ a'.toNat * x1 ^ b'.toNat * x2 ^ c'.toNat * x3 ^ d'.toNat)
      rw [Int.toNat_add h1 g1, Int.toNat_add h2 g2, Int.toNat_add h3 g3, Int.toNat_add h4 g4, Int.pow_add, Int.pow_add, Int.pow_add, Int.pow_add]
      grind
    · cases hl
  · cases hk
def linV (f : List Int) (x0 x1 x2 x3 : Int) : Int := match f with
  | [a, b, c, d] => a * x0 + b * x1 + c * x2 + d * x3
  | _ => 0
theorem val1 {a b c d x0 x1 x2 x3 : Int} : val (mono x0 x1 x2 x3) (pws 1) [a, b, c, d] = linV [a, b, c, d] x0 x1 x2 x3 := by
  simp only [val, pws, mono, linV, Int.toNat_zero, Int.pow_zero, Int.toNat_one, Int.pow_one, Int.mul_one, Int.one_mul]
  omega
end K75

set_option Elab.async false
set_option linter.all false
set_option maxRecDepth 100000
set_option maxHeartbeats 400000
/-! P5: the determinant of a matrix of forms. -/
namespace K75
open PySem PySem.Spec PyProof.Rows L2 Dn
variable (e : Str → Addr)
def mixL (a : Int) (xs : List Int) (b : Int) (ys : List Int) : List Int := (xs.zip ys).map fun p => a * p.1 + b * p.2
theorem mixed_eq {x y : D} {a b : Int} {xs ys : List Int} (hx : items x = some (iL xs)) (hy : items y = some (iL ys)) (hz : szOk (xs.zip ys).length) (h1 : ∀ c ∈ xs, mulOk a c) (h2 : ∀ c ∈ ys, mulOk b c) :
    den_mixed_row e [.fz (.int a), .fz x, .fz (.int b), .fz y] = .ok (.rt (.tup (iL (mixL a xs b ys)))) [none, none, none, none] := by
  refine fn_rt (ρ := [some (.fz (.int a)), some (.fz x), some (.fz (.int b)), some (.fz y), none, none]) rfl ?_ rfl
  refine ret_ok (mC_ok (as1 (fz_ok (lcM_map (fun p : Int × Int => .tup [.int p.1, .int p.2]) (fun p => .int (a * p.1 + b * p.2)) (xs.zip ys) (zip_ok (as_cons rfl (as1 rfl)) hx hy) (zipD_map D.int D.int xs ys) hz rfl rfl fun p hp => ⟨_, rfl, m2_ok (m2_ok rfl rfl (if_pos (h1 p.1 (List.of_mem_zip hp).1))) (m2_ok rfl rfl (if_pos (h2 p.2 (List.of_mem_zip hp).2))) rfl, rfl⟩))) ?_)
  show some (D.tup _) = some (D.tup ((mixL a xs b ys).map D.int))
  unfold mixL
  rw [List.map_map]
  rfl
theorem mix_bd {n : Nat} {a b : Int} {xs ys : List Int} (ha : ib a ≤ 1) (hb : ib b ≤ 1) (hx : Bd n xs) (hy : Bd n ys) : Bd (n + 2) (mixL a xs b ys) := fun c hc => by
  obtain ⟨p, hp, rfl⟩ := List.mem_map.mp hc
  have h1 := intBits_mul_le ha (hx p.1 (List.of_mem_zip hp).1)
  have h2 := intBits_mul_le hb (hy p.2 (List.of_mem_zip hp).2)
  exact Nat.le_trans (intBits_add_le h1 h2) (by omega)
theorem val_mix {W : List Int → Int} {a b : Int} : ∀ {ks : List (List Int)} {xs ys : List Int}, xs.length = ys.length → val W ks (mixL a xs b ys) = a * val W ks xs + b * val W ks ys
  | [], xs, ys, _ => by simp [val]
  | k :: ks, [], [], _ => by simp [val, mixL]
  | k :: ks, [], _ :: _, h => by simp at h
  | k :: ks, _ :: _, [], h => by simp at h
  | k :: ks, x :: xs, y :: ys, h => by
    show (a * x + b * y) * W k + val W ks (mixL a xs b ys) = a * (x * W k + val W ks xs) + b * (y * W k + val W ks ys)
    rw [val_mix (by simpa using h)]
    grind
theorem mix_len {a b : Int} {xs ys : List Int} (h : xs.length = ys.length) : (mixL a xs b ys).length = xs.length := by simp [mixL, h]
/-! ### the two products -/
abbrev P1 := pws 1
abbrev P2 := pws 2
abbrev P3 := pws 3
def Z (ks : List (List Int)) : List Int := ks.map fun _ => 0
theorem hasK_no {ks : List (List Int)} {q : List Int} (h : q ∉ ks) : hasK (ks.map kk) (kk q) = false := by
  cases e : hasK (ks.map kk) (kk q) with
  | false => rfl
  | true =>
    unfold hasK at e
    obtain ⟨x, hx, hd⟩ := List.any_eq_true.mp e
    obtain ⟨k, hk, rfl⟩ := List.mem_map.mp hx
    exact absurd (kk_inj (of_decide_eq_true hd) ▸ hk) h
theorem dc_keys {ρ : Rho} (h12 : ρ.set 12 none = ρ) (hl : 12 < ρ.length) : ∀ (K done : List (List Int)), (done ++ K).Nodup → dcLoop (tgN 12) (rdV 12) (ret (.int 0)) [12] (K.map tI) (done.map kk) (iL (Z done)) ρ = .ok ((done ++ K).map kk, iL (Z (done ++ K))) ρ
  | [], done, _ => by simp [dcLoop]
  | k :: K, done, nd => by
    have hk : k ∉ done := fun z => by
      have := (List.nodup_append.mp nd).2.2 k z k List.mem_cons_self
      exact this rfl
    have rd : rdV 12 (ρ.set 12 (some (.fz (tI k)))) = .ok (tI k) (ρ.set 12 (some (.fz (tI k)))) := by
      unfold rdV
      rw [List.getElem?_set_self hl]
    show (match rdV 12 (ρ.set 12 (some (.fz (tI k)))) with
      | .ok kd ρ2 => (match keyD kd with
          | some k => if hasK (done.map kk) k = true then Rs.no else dcLoop (tgN 12) (rdV 12) (ret (.int 0)) [12] (K.map tI) (done.map kk ++ [k]) (iL (Z done) ++ [D.int 0]) (wipeR ρ2 [12])
          | none => .no)
      | _ => .no) = _
    rw [rd]
    show (match keyD (tI k) with
          | some k' => if hasK (done.map kk) k' = true then Rs.no else dcLoop (tgN 12) (rdV 12) (ret (.int 0)) [12] (K.map tI) (done.map kk ++ [k']) (iL (Z done) ++ [D.int 0]) (wipeR (ρ.set 12 (some (.fz (tI k)))) [12])
          | none => .no) = _
    rw [keyD_tI]
    show (if hasK (done.map kk) (kk k) = true then Rs.no else dcLoop (tgN 12) (rdV 12) (ret (.int 0)) [12] (K.map tI) (done.map kk ++ [kk k]) (iL (Z done) ++ [D.int 0]) ((ρ.set 12 (some (.fz (tI k)))).set 12 none)) = _
    rw [hasK_no hk, if_neg (by decide), List.set_set, h12]
    have := dc_keys h12 hl K (done ++ [k]) (by simpa using nd)
    simpa [Z] using this
def pr2 (as bs : List Int) : List Int := prodL P2 (nz (as.zip P1)) (nz (bs.zip P1)) (Z P2)
def pr3 (as bs : List Int) : List Int := prodL P3 (nz (as.zip P2)) (nz (bs.zip P1)) (Z P3)
theorem nz_mem {as : List Int} {ks : List (List Int)} {a : Int × List Int} (h : a ∈ nz (as.zip ks)) : a.1 ∈ as ∧ a.2 ∈ ks := List.of_mem_zip (List.mem_filter.mp h).1
theorem nz_len {as : List Int} {ks : List (List Int)} : (nz (as.zip ks)).length ≤ ks.length := by
  refine Nat.le_trans (List.length_filter_le _ _) ?_
  rw [List.length_zip]
  exact Nat.min_le_right _ _
theorem zip_sz {as : List Int} {ks : List (List Int)} (h : ks.length ≤ 100) : szOk (as.zip ks).length := by
  show (as.zip ks).length ≤ 16777216
  rw [List.length_zip]
  omega
theorem mem11 : ∀ k ∈ P1, ∀ l ∈ P1, addK k l ∈ P2 ∧ szOk (k.zip l).length ∧ okK k = true ∧ okK l = true := by decide
theorem mem21 : ∀ k ∈ P2, ∀ l ∈ P1, addK k l ∈ P3 ∧ szOk (k.zip l).length ∧ okK k = true ∧ okK l = true := by decide
theorem nd2 : P2.Nodup := by decide
theorem nd3 : P3.Nodup := by decide
theorem product11 {one other : D} {as bs : List Int} (ha : items one = some (iL as)) (hb : items other = some (iL bs)) (h1 : Bd 700 as) (h2 : Bd 700 bs) :
    den_product_in e [.fz one, .fz other, .fz (.int 4), .fz (.int 1), .fz (.int 1)] = .ok (.rt (.tup (iL (pr2 as bs)))) [none, none, none, none, none] :=
  product_eq e (p := 1) (q := 1) (r := 2) ha hb (pow1 e) (pow1 e) (pow2 e) nd2 (by decide) (fun ρ h => by subst h; exact dc_keys rfl (by simp) P2 [] nd2) (zip_sz (by decide)) (zip_sz (by decide)) (by decide) fun a h b g =>
    ⟨(mem11 _ (nz_mem h).2 _ (nz_mem g).2).1, mul_bits (h1 _ (nz_mem h).1) (h2 _ (nz_mem g).1), (mem11 _ (nz_mem h).2 _ (nz_mem g).2).2.1⟩
theorem product21 {one other : D} {as bs : List Int} (ha : items one = some (iL as)) (hb : items other = some (iL bs)) (h1 : Bd 700 as) (h2 : Bd 700 bs) :
    den_product_in e [.fz one, .fz other, .fz (.int 4), .fz (.int 2), .fz (.int 1)] = .ok (.rt (.tup (iL (pr3 as bs)))) [none, none, none, none, none] :=
  product_eq e (p := 2) (q := 1) (r := 3) ha hb (pow2 e) (pow1 e) (pow3 e) nd3 (by decide) (fun ρ h => by subst h; exact dc_keys rfl (by simp) P3 [] nd3) (zip_sz (by decide)) (zip_sz (by decide)) (by decide) fun a h b g =>
    ⟨(mem21 _ (nz_mem h).2 _ (nz_mem g).2).1, mul_bits (h1 _ (nz_mem h).1) (h2 _ (nz_mem g).1), (mem21 _ (nz_mem h).2 _ (nz_mem g).2).2.1⟩
theorem Z_bd {n : Nat} {ks : List (List Int)} : Bd n (Z ks) := fun c hc => by
  obtain ⟨k, _, rfl⟩ := List.mem_map.mp hc
  exact Nat.zero_le _
theorem pr2_bd {as bs : List Int} (h1 : Bd 200 as) (h2 : Bd 200 bs) : Bd 416 (pr2 as bs) := by
  refine (prodL_bd (m := 400) (n := 400) Z_bd (fun a h b g => intBits_mul_le (h1 _ (nz_mem h).1) (h2 _ (nz_mem g).1)) (Nat.le_refl _)).mono ?_
  have := Nat.mul_le_mul (nz_len (as := as) (ks := P1)) (nz_len (as := bs) (ks := P1))
  have : P1.length * P1.length = 16 := by decide
  omega
theorem pr3_bd {as bs : List Int} (h1 : Bd 416 as) (h2 : Bd 200 bs) : Bd 656 (pr3 as bs) := by
  refine (prodL_bd (m := 616) (n := 616) Z_bd (fun a h b g => intBits_mul_le (h1 _ (nz_mem h).1) (h2 _ (nz_mem g).1)) (Nat.le_refl _)).mono ?_
  have := Nat.mul_le_mul (nz_len (as := as) (ks := P2)) (nz_len (as := bs) (ks := P1))
  have : P2.length * P1.length = 40 := by decide
  omega
theorem pr2_len {as bs : List Int} : (pr2 as bs).length = 10 := prodL_len (by rfl)
theorem pr3_len {as bs : List Int} : (pr3 as bs).length = 20 := prodL_len (by rfl)
section
variable {x0 x1 x2 x3 : Int}
theorem pr2_val {as bs : List Int} : val (mono x0 x1 x2 x3) P2 (pr2 as bs) = val (mono x0 x1 x2 x3) P1 as * val (mono x0 x1 x2 x3) P1 bs := by
  unfold pr2
  rw [val_prodL nd2 (by rfl) fun a h b g => ⟨(mem11 _ (nz_mem h).2 _ (nz_mem g).2).1, mono_add (mem11 _ (nz_mem h).2 _ (nz_mem g).2).2.2.1 (mem11 _ (nz_mem h).2 _ (nz_mem g).2).2.2.2⟩, valP_nz, valP_nz, valP_zip, valP_zip, show val _ P2 (Z P2) = 0 from val_zero _, Int.zero_add]
theorem pr3_val {as bs : List Int} : val (mono x0 x1 x2 x3) P3 (pr3 as bs) = val (mono x0 x1 x2 x3) P2 as * val (mono x0 x1 x2 x3) P1 bs := by
  unfold pr3
  rw [val_prodL nd3 (by rfl) fun a h b g => ⟨(mem21 _ (nz_mem h).2 _ (nz_mem g).2).1, mono_add (mem21 _ (nz_mem h).2 _ (nz_mem g).2).2.2.1 (mem21 _ (nz_mem h).2 _ (nz_mem g).2).2.2.2⟩, valP_nz, valP_nz, valP_zip, valP_zip, show val _ P3 (Z P3) = 0 from val_zero _, Int.zero_add]
end
/-! ### the six ways -/
def way (F : Nat → Nat → List Int) (a b c : Nat) (s : Int) (found : List Int) : List Int := mixL 1 found s (pr3 (pr2 (F 0 a) (F 1 b)) (F 2 c))
def detL (F : Nat → Nat → List Int) : List Int := way F 1 0 2 (-1) (way F 2 1 0 (-1) (way F 0 2 1 (-1) (way F 2 0 1 1 (way F 1 2 0 1 (way F 0 1 2 1 (Z P3))))))
def IxM (d : D) (F : Nat → Nat → List Int) : Prop := ∀ i j : Nat, i < 3 → j < 3 → ∃ rd fd, dIx d (.int i) = some rd ∧ dIx rd (.int j) = some fd ∧ items fd = some (iL (F i j)) ∧ Bd 200 (F i j)
theorem way_len {F : Nat → Nat → List Int} {a b c : Nat} {s : Int} {found : List Int} (h : found.length = 20) : (way F a b c s found).length = 20 := by
  unfold way
  rw [mix_len (by rw [h, pr3_len]), h]
abbrev wayB : M Fl := (seqM (asgM 6 (callD (den_product_in e) (aV (m2 (m2 (rdV 0) (ret (.int 0)) dIx) (rdV 2) dIx) (aV (m2 (m2 (rdV 0) (ret (.int 1)) dIx) (rdV 3) dIx) (aV (ret (.int 4)) (aV (ret (.int 1)) (aV (ret (.int 1)) (aNil)))))))) (asgM 1 (callD (den_mixed_row e) (aV (ret (.int 1)) (aV (rdV 1) (aV (rdV 5) (aV (callD (den_product_in e) (aV (rdV 6) (aV (m2 (m2 (rdV 0) (ret (.int 2)) dIx) (rdV 4) dIx) (aV (ret (.int 4)) (aV (ret (.int 2)) (aV (ret (.int 1)) (aNil))))))) (aNil))))))))
theorem way_eq {d : D} {F : Nat → Nat → List Int} (H : IxM d F) {a b c : Nat} (ha : a < 3) (hb : b < 3) (hc : c < 3) {s : Int} (hs : ib s ≤ 1) {n : Nat} (hn : 656 ≤ n) (hn2 : n ≤ 10000) {found : List Int} (hf : Bd n found) (hl : found.length = 20) (x : Option Sl) :
    Bd (n + 2) (way F a b c s found) ∧ ∃ y, wayB e [some (.fz d), some (.fz (.tup (iL found))), some (.fz (.int a)), some (.fz (.int b)), some (.fz (.int c)), some (.fz (.int s)), x] = .ok .nx [some (.fz d), some (.fz (.tup (iL (way F a b c s found)))), some (.fz (.int a)), some (.fz (.int b)), some (.fz (.int c)), some (.fz (.int s)), y] := by
  obtain ⟨r0, f0, i0, j0, k0, l0⟩ := H 0 a (by decide) ha
  obtain ⟨r1, f1, i1, j1, k1, l1⟩ := H 1 b (by decide) hb
  obtain ⟨r2, f2, i2, j2, k2, l2⟩ := H 2 c (by decide) hc
  have b2 := pr2_bd l0 l1
  have b3 := pr3_bd b2 l2
  refine ⟨mix_bd (by decide) hs hf (b3.mono hn), some (.fz (.tup (iL (pr2 (F 0 a) (F 1 b))))), ?_⟩
  refine seq2 (asg_ok (call_ok (as_cons (m2_ok (m2_ok rfl rfl i0) rfl j0) (as_cons (m2_ok (m2_ok rfl rfl i1) rfl j1) (as_cons rfl (as_cons rfl (as1 rfl))))) (product11 e k0 k1 (l0.mono (by decide)) (l1.mono (by decide))))) ?_
  refine asg2 (call_ok (as_cons rfl (as_cons rfl (as_cons rfl (as1 (call_ok (as_cons rfl (as_cons (m2_ok (m2_ok rfl rfl i2) rfl j2) (as_cons rfl (as_cons rfl (as1 rfl))))) (product21 e (one := .tup (iL (pr2 (F 0 a) (F 1 b)))) rfl k2 (b2.mono (by decide)) (l2.mono (by decide)))))))) (mixed_eq e (x := .tup (iL found)) (y := .tup (iL (pr3 (pr2 (F 0 a) (F 1 b)) (F 2 c)))) rfl rfl ?_ ?_ ?_)) rfl
  · show (found.zip _).length ≤ 16777216
    rw [List.length_zip]
    omega
  · exact fun q hq => mul_bits (m := 1) (by decide) (hf q hq) (by omega)
  · exact fun q hq => mul_bits (m := 1) hs (b3 q hq) (by decide)
theorem det_eq {d : D} {F : Nat → Nat → List Int} (H : IxM d F) : den_determinant_in e [.fz d] = .ok (.rt (.tup (iL (detL F)))) [none] ∧ Bd 700 (detL F) ∧ (detL F).length = 20 := by
  have l0 : (Z P3).length = 20 := rfl
  obtain ⟨b1, y1, e1⟩ := way_eq e H (a := 0) (b := 1) (c := 2) (by decide) (by decide) (by decide) (s := 1) (by decide) (n := 656) (by decide) (by decide) Z_bd l0 none
  have l1 := way_len (F := F) (a := 0) (b := 1) (c := 2) (s := 1) l0
  obtain ⟨b2, y2, e2⟩ := way_eq e H (a := 1) (b := 2) (c := 0) (by decide) (by decide) (by decide) (s := 1) (by decide) (n := 658) (by decide) (by decide) b1 l1 y1
  have l2 := way_len (F := F) (a := 1) (b := 2) (c := 0) (s := 1) l1
  obtain ⟨b3, y3, e3⟩ := way_eq e H (a := 2) (b := 0) (c := 1) (by decide) (by decide) (by decide) (s := 1) (by decide) (n := 660) (by decide) (by decide) b2 l2 y2
  have l3 := way_len (F := F) (a := 2) (b := 0) (c := 1) (s := 1) l2
  obtain ⟨b4, y4, e4⟩ := way_eq e H (a := 0) (b := 2) (c := 1) (by decide) (by decide) (by decide) (s := -1) (by decide) (n := 662) (by decide) (by decide) b3 l3 y3
  have l4 := way_len (F := F) (a := 0) (b := 2) (c := 1) (s := -1) l3
  obtain ⟨b5, y5, e5⟩ := way_eq e H (a := 2) (b := 1) (c := 0) (by decide) (by decide) (by decide) (s := -1) (by decide) (n := 664) (by decide) (by decide) b4 l4 y4
  have l5 := way_len (F := F) (a := 2) (b := 1) (c := 0) (s := -1) l4
  obtain ⟨b6, y6, e6⟩ := way_eq e H (a := 1) (b := 0) (c := 2) (by decide) (by decide) (by decide) (s := -1) (by decide) (n := 666) (by decide) (by decide) b5 l5 y5
  have l6 := way_len (F := F) (a := 1) (b := 0) (c := 2) (s := -1) l5
  refine ⟨?_, b6.mono (by decide), l6⟩
  refine fn_rt (ρ := [some (.fz d), some (.fz (.tup (iL (detL F)))), some (.fz (.int 1)), some (.fz (.int 0)), some (.fz (.int 2)), some (.fz (.int (-1))), y6]) rfl ?_ rfl
  refine seq2 (asg_ok (m2_ok (tup_ok (as1 rfl)) rfl rfl)) ?_
  refine seq2 (for2 (it_ok rfl rfl) (for_cons rfl e1 (for_cons rfl e2 (for_cons rfl e3 (for_cons rfl e4 (for_cons rfl e5 (for_cons rfl e6 for_nil))))))) ?_
  rfl
theorem det_val {F : Nat → Nat → List Int} {x0 x1 x2 x3 : Int} : val (mono x0 x1 x2 x3) P3 (detL F) = detI [val (mono x0 x1 x2 x3) P1 (F 0 0), val (mono x0 x1 x2 x3) P1 (F 0 1), val (mono x0 x1 x2 x3) P1 (F 0 2)] [val (mono x0 x1 x2 x3) P1 (F 1 0), val (mono x0 x1 x2 x3) P1 (F 1 1), val (mono x0 x1 x2 x3) P1 (F 1 2)] [val (mono x0 x1 x2 x3) P1 (F 2 0), val (mono x0 x1 x2 x3) P1 (F 2 1), val (mono x0 x1 x2 x3) P1 (F 2 2)] := by
  have l0 : (Z P3).length = 20 := rfl
  have l1 := way_len (F := F) (a := 0) (b := 1) (c := 2) (s := 1) l0
  have l2 := way_len (F := F) (a := 1) (b := 2) (c := 0) (s := 1) l1
  have l3 := way_len (F := F) (a := 2) (b := 0) (c := 1) (s := 1) l2
  have l4 := way_len (F := F) (a := 0) (b := 2) (c := 1) (s := -1) l3
  have l5 := way_len (F := F) (a := 2) (b := 1) (c := 0) (s := -1) l4
  have step : ∀ {a b c : Nat} {s : Int} {found : List Int}, found.length = 20 → val (mono x0 x1 x2 x3) P3 (way F a b c s found) = val (mono x0 x1 x2 x3) P3 found + s * (val (mono x0 x1 x2 x3) P1 (F 0 a) * val (mono x0 x1 x2 x3) P1 (F 1 b) * val (mono x0 x1 x2 x3) P1 (F 2 c)) := by
    intro a b c s found h
    unfold way
    rw [val_mix (by rw [h, pr3_len]), pr3_val, pr2_val, Int.one_mul]
  unfold detL
  rw [step l5, step l4, step l3, step l2, step l1, step l0, show val _ P3 (Z P3) = 0 from val_zero _]
  show _ = (_ : Int)
  unfold detI
  grind
end K75

set_option Elab.async false
set_option linter.all false
set_option maxRecDepth 100000
set_option maxHeartbeats 400000
/-! P6: plain rows. -/
namespace K75
open PySem PySem.Spec PyProof.Rows L2 Dn
variable (e : Str → Addr)
def gcd2 (s p : Int) : Int := (Nat.gcd s.natAbs p.natAbs : Nat)
def gcdL (xs : List Int) : Int := xs.foldl gcd2 0
def shrL (xs : List Int) : List Int := if gcdL xs > 1 then xs.map (·.fdiv (gcdL xs)) else xs
def SeqD (d : D) (ds : List D) : Prop := d = .lst ds ∨ d = .tup ds
theorem SeqD.items {d : D} {ds : List D} (h : SeqD d ds) : Dn.items d = some ds := by rcases h with rfl | rfl <;> rfl
theorem SeqD.tup {d : D} {ds : List D} (h : SeqD d ds) : dTuple [d] = some (.tup ds) := by rcases h with rfl | rfl <;> rfl
theorem dGt_int (a b : Int) : dGt (.int a) (.int b) = some (.bl (decide (b < a))) := rfl
theorem shrunk_for {d : D} : ∀ (xs : List Int) (g : Int) (x : Option D), ∃ y : Option D, forL (tgN 2) (asgM 1 (mC (aV (rdV 1) (aV (rdV 2) (aNil))) dGcd)) (iL xs) [some (.fz d), some (.fz (.int g)), x.map Sl.fz] = .ok .nx [some (.fz d), some (.fz (.int (xs.foldl gcd2 g))), y.map Sl.fz]
  | [], g, x => ⟨x, rfl⟩
  | a :: xs, g, x => by
    obtain ⟨y, h⟩ := shrunk_for (d := d) xs (gcd2 g a) (some (.int a))
    exact ⟨y, for_cons (ρ1 := [some (.fz d), some (.fz (.int g)), some (.fz (.int a))]) rfl (asg2 (mC_ok (as_cons rfl (as1 rfl)) rfl) rfl) h⟩
theorem shrunk_eq {d : D} {xs : List Int} (hd : SeqD d (iL xs)) (hg : gcdL xs > 1 → divOk (gcdL xs)) (hz : szOk xs.length) : den_shrunk e [.fz d] = .ok (.rt (.tup (iL (shrL xs)))) [none] := by
  obtain ⟨y, h⟩ := shrunk_for (d := d) xs 0 none
  refine fn_rt (ρ := [some (.fz d), some (.fz (.int (gcdL xs))), y.map Sl.fz]) rfl ?_ rfl
  refine seq2 (asg2 rfl rfl) ?_
  refine seq2 (for2 (it_ok rfl hd.items) h) ?_
  refine ret_ok ?_
  unfold shrL
  have ht : mB (m2 (rdV 1) (ret (.int 1)) dGt) [some (.fz d), some (.fz (.int (gcdL xs))), y.map Sl.fz] = .ok (decide (1 < gcdL xs)) [some (.fz d), some (.fz (.int (gcdL xs))), y.map Sl.fz] := rfl
  by_cases hc : gcdL xs > 1
  · rw [if_pos hc]
    rw [decide_eq_true (show 1 < gcdL xs from hc)] at ht
    refine ifMt2 ht ?_
    refine mC_ok (as1 (fz_ok (lcM_map D.int (fun x => .int (x.fdiv (gcdL xs))) xs (it_ok rfl hd.items) rfl hz (by cases y <;> rfl) (by cases y <;> rfl) fun x hx => ⟨_, rfl, m2_ok rfl rfl (if_pos (hg hc)), rfl⟩))) ?_
    show some (D.tup _) = some (D.tup ((xs.map (·.fdiv (gcdL xs))).map D.int))
    rw [List.map_map]
    rfl
  · rw [if_neg hc]
    rw [decide_eq_false (show ¬ 1 < gcdL xs from hc)] at ht
    refine ifMf2 ht ?_
    exact mC_ok (as1 rfl) hd.tup
theorem filter_ints (p : Int → Bool) (ns : List Int) : ((ns.filter p).map D.int) = (ns.filter p).map D.int := rfl
def plL (xs : List Int) : List Int := match (shrL xs).filter fun x => decide (x ≠ 0) with
  | [] => []
  | h :: _ => if h > 0 then shrL xs else (shrL xs).map (- ·)
theorem plain_eq {d : D} {xs : List Int} (hd : SeqD d (iL xs)) (hg : gcdL xs > 1 → divOk (gcdL xs)) (hz : szOk xs.length) (hs : szOk (shrL xs).length) (hne : (shrL xs).filter (fun x => decide (x ≠ 0)) ≠ []) : den_plain_of e [.fz d] = .ok (.rt (.tup (iL (plL xs)))) [none] := by
  refine fn_rt (ρ := [some (.fz d), some (.fz (.tup (iL (shrL xs)))), none]) rfl ?_ rfl
  refine seq2 (asg2 (call_ok (as1 rfl) (shrunk_eq e hd hg hz)) rfl) ?_
  refine ret_ok ?_
  have hf : fzM (lcM (itM (rdV 1)) (tgN 2) (mB (m2 (rdV 2) (ret (.int 0)) dNe)) (rdV 2) [2]) [some (.fz d), some (.fz (.tup (iL (shrL xs)))), none] = .ok (.lst (((shrL xs).filter fun x => decide (x ≠ 0)).map D.int)) [some (.fz d), some (.fz (.tup (iL (shrL xs)))), none] :=
    fz_ok (lcM_of D.int (fun x => decide (x ≠ 0)) D.int (shrL xs) (it_ok rfl rfl) rfl hs rfl rfl fun x hx => ⟨_, rfl, mB_ok (m2_ok rfl rfl (dNe_int x 0)), fun _ => rfl, rfl⟩)
  unfold plL
  cases q : (shrL xs).filter (fun x => decide (x ≠ 0)) with
  | nil => exact absurd q hne
  | cons h t =>
    rw [q] at hf
    show _ = Rs.ok (D.tup (iL (if h > 0 then shrL xs else (shrL xs).map (- ·)))) _
    have ht : mB (m2 (m2 (fzM (lcM (itM (rdV 1)) (tgN 2) (mB (m2 (rdV 2) (ret (.int 0)) dNe)) (rdV 2) [2])) (ret (.int 0)) dIx) (ret (.int 0)) dGt) [some (.fz d), some (.fz (.tup (iL (shrL xs)))), none] = .ok (decide (0 < h)) [some (.fz d), some (.fz (.tup (iL (shrL xs)))), none] := by
      refine mB_ok (m2_ok (m2_ok hf rfl (z := .int h) ?_) rfl rfl)
      show (Dn.items (.lst ((h :: t).map D.int))).bind (fun ds => atI ds 0) = _
      show atI (D.int h :: t.map D.int) 0 = _
      unfold atI ixN
      simp
    by_cases hc : h > 0
    · rw [if_pos hc]
      rw [decide_eq_true (show 0 < h from hc)] at ht
      exact ifMt2 ht rfl
    · rw [if_neg hc]
      rw [decide_eq_false (show ¬ 0 < h from hc)] at ht
      refine ifMf2 ht ?_
      refine mC_ok (as1 (fz_ok (lcM_map D.int (fun x => .int (-x)) (shrL xs) (it_ok rfl rfl) rfl hs rfl rfl fun x hx => ⟨_, rfl, m1_ok rfl rfl, rfl⟩))) ?_
      show some (D.tup _) = some (D.tup (((shrL xs).map (- ·)).map D.int))
      rw [List.map_map]
      rfl
theorem isrow_eq {d : D} {x0 x1 x2 x3 : Int} (hd : SeqD d [.int x0, .int x1, .int x2, .int x3]) (h : [x0, x1, x2, x3].any (fun x => decide (x ≠ 0)) = true) : den_is_row e [.fz d, .fz (.int 4)] = .ok (.rt (.bl true)) [none, none] := by
  refine fn_rt (ρ := [some (.fz d), some (.fz (.int 4)), none]) rfl ?_ rfl
  have ha : den_are_integers e [.fz d, .fz (.int 4)] = .ok (.rt (.bl true)) [none, none] := by
    rcases hd with rfl | rfl <;> rfl
  refine ret_ok (andVt2 (call_ok (as_cons rfl (as1 rfl)) ha) ?_)
  refine mC_ok (as1 (fz_ok (lcM_map D.int (fun x => .bl (decide (x ≠ 0))) [x0, x1, x2, x3] (it_ok rfl hd.items) rfl (by simp [szOk]) rfl rfl fun x hx => ⟨_, rfl, m2_ok rfl rfl (dNe_int x 0), rfl⟩))) ?_
  show (bls? ([x0, x1, x2, x3].map fun x => D.bl (decide (x ≠ 0)))).map (fun ns => D.bl (ns.any id)) = _
  have := bls?_map ([x0, x1, x2, x3].map fun x => decide (x ≠ 0))
  rw [List.map_map] at this
  rw [show (fun x => D.bl (decide (x ≠ 0))) = D.bl ∘ fun x : Int => decide (x ≠ 0) from rfl, this]
  show some (D.bl (([x0, x1, x2, x3].map fun x => decide (x ≠ 0)).any id)) = _
  rw [List.any_map]
  exact congrArg (fun b => some (D.bl b)) h
theorem place_eq {d p : D} {x0 x1 x2 x3 : Int} (hd : SeqD d [.int x0, .int x1, .int x2, .int x3]) (h : [x0, x1, x2, x3].any (fun x => decide (x ≠ 0)) = true) (hg : gcdL [x0, x1, x2, x3] > 1 → divOk (gcdL [x0, x1, x2, x3])) (hs : (shrL [x0, x1, x2, x3]).length = 4) (hne : (shrL [x0, x1, x2, x3]).filter (fun x => decide (x ≠ 0)) ≠ []) :
    den_place_told e [.fz d, .fz p] = .ok (.rt (.tup (iL (plL [x0, x1, x2, x3])))) [none, none] := by
  refine fn_rt (ρ := [some (.fz d), some (.fz p)]) rfl ?_ rfl
  refine ret_ok (call_ok (as_cons rfl (as_cons rfl (as1 rfl))) ?_)
  refine fn_rt (ρ := [some (.fz d), some (.fz (.int 4)), some (.fz p)]) rfl ?_ rfl
  refine seq2 (iff2 (notM_ok (mT_ok (call_ok (as_cons rfl (as1 rfl)) (isrow_eq e hd h)))) rfl) ?_
  exact ret_ok (call_ok (as1 rfl) (plain_eq e (xs := [x0, x1, x2, x3]) hd hg (by simp [szOk]) (by rw [hs]; decide) hne))
end K75

set_option Elab.async false
set_option linter.all false
set_option maxRecDepth 100000
set_option maxHeartbeats 400000
/-! P7: the law's own plain rows, values, tables. -/
namespace K75
open PySem PySem.Spec PyProof.Rows L2 Dn
variable (e : Str → Addr)
theorem upto4 {s : Int} (h1 : 0 ≤ s) (h2 : s ≤ 4) : s = 0 ∨ s = 1 ∨ s = 2 ∨ s = 3 ∨ s = 4 := by omega
theorem upto9 {s : Int} (h1 : -4 ≤ s) (h2 : s ≤ 4) : s = -4 ∨ s = -3 ∨ s = -2 ∨ s = -1 ∨ s = 0 ∨ s = 1 ∨ s = 2 ∨ s = 3 ∨ s = 4 := by omega
theorem shared_eq {s p : Int} (h1 : 0 ≤ s) (h2 : s ≤ 4) (h3 : -4 ≤ p) (h4 : p ≤ 4) : den__law_shared e [.fz (.int s), .fz (.int p)] = .ok (.rt (.int (gcd2 s p))) [none, none] := by
  rcases upto4 h1 h2 with rfl | rfl | rfl | rfl | rfl <;> rcases upto9 h3 h4 with rfl | rfl | rfl | rfl | rfl | rfl | rfl | rfl | rfl <;> rfl
theorem gcd2_le {s p : Int} (h1 : 0 ≤ s) (h2 : s ≤ 4) (h3 : -4 ≤ p) (h4 : p ≤ 4) : 0 ≤ gcd2 s p ∧ gcd2 s p ≤ 4 := by
  rcases upto4 h1 h2 with rfl | rfl | rfl | rfl | rfl <;> rcases upto9 h3 h4 with rfl | rfl | rfl | rfl | rfl | rfl | rfl | rfl | rfl <;> decide
def fst2 (f p : Int) : Int := if f = 0 then p else f
def lawPl (xs : List Int) : List Int := let g := gcdL xs
  let s := if xs.foldl fst2 0 > 0 then g else -g
  xs.map (·.fdiv s)
abbrev lpB : M Fl := (seqM (asgM 1 (callD (den__law_shared e) (aV (rdV 1) (aV (rdV 3) (aNil))))) (asgM 2 (ifM (mB (m2 (rdV 2) (ret (.int 0)) dEq)) (rdV 3) (rdV 2))))
theorem lp_step {d : D} {g f p : Int} (h1 : 0 ≤ g) (h2 : g ≤ 4) (h3 : -4 ≤ p) (h4 : p ≤ 4) : lpB e [some (.fz d), some (.fz (.int g)), some (.fz (.int f)), some (.fz (.int p))] = .ok .nx [some (.fz d), some (.fz (.int (gcd2 g p))), some (.fz (.int (fst2 f p))), some (.fz (.int p))] := by
  refine seq2 (asg2 (call_ok (as_cons rfl (as1 rfl)) (shared_eq e h1 h2 h3 h4)) rfl) ?_
  have ht : mB (m2 (rdV 2) (ret (.int 0)) dEq) [some (.fz d), some (.fz (.int (gcd2 g p))), some (.fz (.int f)), some (.fz (.int p))] = .ok (decide (f = 0)) [some (.fz d), some (.fz (.int (gcd2 g p))), some (.fz (.int f)), some (.fz (.int p))] := mB_ok (m2_ok rfl rfl (dEq_int f 0))
  unfold fst2
  by_cases hc : f = 0
  · rw [if_pos hc]
    rw [decide_eq_true hc] at ht
    exact asg2 (ifMt2 ht rfl) rfl
  · rw [if_neg hc]
    rw [decide_eq_false hc] at ht
    exact asg2 (ifMf2 ht rfl) rfl
theorem lp_for {d : D} : ∀ (xs : List Int) (g f : Int) (x : Option D), 0 ≤ g → g ≤ 4 → (∀ p ∈ xs, -4 ≤ p ∧ p ≤ 4) → ∃ y : Option D, forL (tgN 3) (lpB e) (iL xs) [some (.fz d), some (.fz (.int g)), some (.fz (.int f)), x.map Sl.fz] = .ok .nx [some (.fz d), some (.fz (.int (xs.foldl gcd2 g))), some (.fz (.int (xs.foldl fst2 f))), y.map Sl.fz]
  | [], g, f, x, _, _, _ => ⟨x, rfl⟩
  | a :: xs, g, f, x, h1, h2, h => by
    obtain ⟨h3, h4⟩ := h a List.mem_cons_self
    obtain ⟨g1, g2⟩ := gcd2_le h1 h2 h3 h4
    obtain ⟨y, hy⟩ := lp_for xs (gcd2 g a) (fst2 f a) (some (.int a)) g1 g2 fun p hp => h p (List.mem_cons_of_mem _ hp)
    exact ⟨y, for_cons (ρ1 := [some (.fz d), some (.fz (.int g)), some (.fz (.int f)), some (.fz (.int a))]) rfl (lp_step e h1 h2 h3 h4) hy⟩
theorem lawplain_eq {d : D} {xs : List Int} (hd : items d = some (iL xs)) (hx : ∀ p ∈ xs, -4 ≤ p ∧ p ≤ 4) (hz : szOk xs.length) (hg : gcdL xs ≠ 0) (h1 : divOk (gcdL xs)) (h2 : divOk (-(gcdL xs))) : den__law_plain e [.fz d] = .ok (.rt (.tup (iL (lawPl xs)))) [none] := by
  obtain ⟨y, hy⟩ := lp_for e (d := d) xs 0 0 none (by decide) (by decide) hx
  have tail : ∀ s : Int, divOk s → retM (mC (aV (fzM (lcM (itM (rdV 0)) (tgN 3) (yesM) (m2 (rdV 3) (rdV 1) dFdiv) [3])) (aNil)) dTuple) [some (.fz d), some (.fz (.int s)), some (.fz (.int (xs.foldl fst2 0))), y.map Sl.fz] = .ok (.rt (.tup (iL (xs.map (·.fdiv s))))) [some (.fz d), some (.fz (.int s)), some (.fz (.int (xs.foldl fst2 0))), y.map Sl.fz] := by
    intro s hs
    refine ret_ok (mC_ok (as1 (fz_ok (lcM_map D.int (fun x => .int (x.fdiv s)) xs (it_ok rfl hd) rfl hz (by cases y <;> rfl) (by cases y <;> rfl) fun x hx => ⟨_, rfl, m2_ok rfl rfl (if_pos hs), rfl⟩))) ?_)
    show some (D.tup _) = some (D.tup ((xs.map (·.fdiv s)).map D.int))
    rw [List.map_map]
    rfl
  have ht : mB (m2 (rdV 2) (ret (.int 0)) dGt) [some (.fz d), some (.fz (.int (gcdL xs))), some (.fz (.int (xs.foldl fst2 0))), y.map Sl.fz] = .ok (decide (0 < xs.foldl fst2 0)) [some (.fz d), some (.fz (.int (gcdL xs))), some (.fz (.int (xs.foldl fst2 0))), y.map Sl.fz] := rfl
  have s0 : mB (m2 (rdV 1) (ret (.int 0)) dEq) [some (.fz d), some (.fz (.int (gcdL xs))), some (.fz (.int (xs.foldl fst2 0))), y.map Sl.fz] = .ok false [some (.fz d), some (.fz (.int (gcdL xs))), some (.fz (.int (xs.foldl fst2 0))), y.map Sl.fz] := mB_ok (m2_ok rfl rfl (by rw [dEq_int, decide_eq_false hg]))
  by_cases hc : xs.foldl fst2 0 > 0
  · rw [decide_eq_true (show 0 < xs.foldl fst2 0 from hc)] at ht
    have e1 : lawPl xs = xs.map (·.fdiv (gcdL xs)) := by
      unfold lawPl
      simp only [if_pos hc]
    rw [e1]
    refine fn_rt (ρ := [some (.fz d), some (.fz (.int (gcdL xs))), some (.fz (.int (xs.foldl fst2 0))), y.map Sl.fz]) rfl ?_ rfl
    refine seq2 (tgS_ok (tup_ok (as_cons rfl (as1 rfl))) rfl) ?_
    refine seq2 (for2 (it_ok rfl hd) hy) ?_
    refine seq2 (iff2 s0 rfl) ?_
    exact seq2 (asg2 (ifMt2 ht rfl) rfl) (tail _ h1)
  · rw [decide_eq_false (show ¬ 0 < xs.foldl fst2 0 from hc)] at ht
    have e1 : lawPl xs = xs.map (·.fdiv (-(gcdL xs))) := by
      unfold lawPl
      simp only [if_neg hc]
    rw [e1]
    refine fn_rt (ρ := [some (.fz d), some (.fz (.int (-(gcdL xs)))), some (.fz (.int (xs.foldl fst2 0))), y.map Sl.fz]) rfl ?_ rfl
    refine seq2 (tgS_ok (tup_ok (as_cons rfl (as1 rfl))) rfl) ?_
    refine seq2 (for2 (it_ok rfl hd) hy) ?_
    refine seq2 (iff2 s0 rfl) ?_
    exact seq2 (asg2 (ifMf2 ht (m1_ok rfl rfl)) rfl) (tail _ h2)
end K75

set_option Elab.async false
set_option linter.all false
set_option maxRecDepth 100000
set_option maxHeartbeats 400000
/-! P7b: all small places. -/
namespace K75
open PySem PySem.Spec PyProof.Rows L2 Dn
/-! ### all places with entries of -4 to 4 -/
def sm (x : Int) : Bool := decide (-12 ≤ x ∧ x ≤ 12)
def gOk (xs : List Int) : Bool := decide (divOk (gcdL xs)) && decide (divOk (-(gcdL xs))) && decide (gcdL xs ≠ 0)
def chk1 (xs : List Int) : Bool := gOk xs && (shrL xs).any (fun x => decide (x ≠ 0)) && decide ((shrL xs).length = 4) && decide (xs.length = 4)
def chk (a b c d : Int) : Bool := !([a, b, c, d].any fun x => decide (x ≠ 0)) || (chk1 [a, b, c, d] && chk1 [-3 * a, -3 * b, -3 * c, -3 * d] && decide (plL [a, b, c, d] = lawPl [a, b, c, d]) && decide (plL [-3 * a, -3 * b, -3 * c, -3 * d] = lawPl [a, b, c, d]) && (lawPl [a, b, c, d]).all sm)
def nine : List Int := [-4, -3, -2, -1, 0, 1, 2, 3, 4]
theorem chk_all : (nine.all fun a => nine.all fun b => nine.all fun c => nine.all fun d => chk a b c d) = true := by decide +kernel
end K75

set_option Elab.async false
set_option linter.all false
set_option maxRecDepth 100000
set_option maxHeartbeats 400000
/-! P8: matrices, tables, the form's value. -/
namespace K75
open PySem PySem.Spec PyProof.Rows L2 Dn
variable (e : Str → Addr)
def Fm (m : Nat → Nat → Nat → Int) (i j : Nat) : List Int := [m i j 0, m i j 1, m i j 2, m i j 3]
def rowD (tr tf : List D → D) (m : Nat → Nat → Nat → Int) (i : Nat) : D := tr [tf (iL (Fm m i 0)), tf (iL (Fm m i 1)), tf (iL (Fm m i 2))]
def matD (tm tr tf : List D → D) (m : Nat → Nat → Nat → Int) : D := tm [rowD tr tf m 0, rowD tr tf m 1, rowD tr tf m 2]
def LT (t : List D → D) : Prop := t = D.lst ∨ t = D.tup
theorem LT.items {t : List D → D} (h : LT t) (ds : List D) : Dn.items (t ds) = some ds := by rcases h with rfl | rfl <;> rfl
def BdM (m : Nat → Nat → Nat → Int) : Prop := ∀ i j : Nat, i < 3 → j < 3 → Bd 200 (Fm m i j)
theorem three_cases {i : Nat} (h : i < 3) : i = 0 ∨ i = 1 ∨ i = 2 := by omega
theorem ixM {tm tr tf : List D → D} {m : Nat → Nat → Nat → Int} (h1 : LT tm) (h2 : LT tr) (h3 : LT tf) (b : BdM m) : IxM (matD tm tr tf m) (Fm m) := fun i j hi hj => by
  refine ⟨rowD tr tf m i, tf (iL (Fm m i j)), ?_, ?_, ?_, b i j hi hj⟩
  · rcases h1 with rfl | rfl <;> rcases three_cases hi with rfl | rfl | rfl <;> rfl
  · rcases h2 with rfl | rfl <;> rcases three_cases hj with rfl | rfl | rfl <;> rfl
  · rcases h3 with rfl | rfl <;> rfl
theorem listed_eq {t : List D → D} (h : LT t) (ds : List D) : den_is_listed e [.fz (t ds)] = .ok (.rt (.bl true)) [none] := by
  rcases h with rfl | rfl <;> rfl
theorem are4_eq {t : List D → D} (h : LT t) (a b c d : Int) : den_are_integers e [.fz (t [.int a, .int b, .int c, .int d]), .fz (.int 4)] = .ok (.rt (.bl true)) [none, none] := by
  rcases h with rfl | rfl <;> rfl
theorem need_step {X : D} {tr tf : List D → D} {m : Nat → Nat → Nat → Int} (h2 : LT tr) (h3 : LT tf) (i : Nat) : (ifS (orM (notM (mT (callD (den_is_listed e) (aV (rdV 1) (aNil))))) (orM (mB (m2 (mC (aV (rdV 1) (aNil)) dLen) (ret (.int 3)) dNe)) (notM (mT (mC (aV (fzM (lcM (itM (rdV 1)) (tgN 2) (yesM) (callD (den_are_integers e) (aV (rdV 2) (aV (ret (.int 4)) (aNil)))) [2])) (aNil)) dAll))))) (raiseM (e "BadForm") (ret (.str "matrix"))) (nextM)) [some (.fz X), some (.fz (rowD tr tf m i)), none] = .ok .nx [some (.fz X), some (.fz (rowD tr tf m i)), none] := by
  refine iff2 (orf2 (notM_ok (mT_ok (call_ok (as1 rfl) (listed_eq e h2 _)))) (orf2 (mB_ok (m2_ok (mC_ok (as1 rfl) (z := .int 3) ?_) rfl (dNe_int 3 3))) (notM_ok (b := true) (mT_ok (mC_ok (ds := [.lst ([0, 1, 2].map fun j => .bl true)]) (as1 (fz_ok (lcM_map (fun j => tf (iL (Fm m i j))) (fun j => .bl true) [0, 1, 2] (it_ok rfl (h2.items _)) rfl (by simp [szOk]) rfl rfl fun j hj => ⟨_, rfl, call_ok (as_cons rfl (as1 rfl)) (are4_eq e h3 _ _ _ _), rfl⟩))) rfl))))) rfl
  rcases h2 with rfl | rfl <;> rfl
theorem need_eq {tm tr tf : List D → D} {m : Nat → Nat → Nat → Int} (h1 : LT tm) (h2 : LT tr) (h3 : LT tf) : den_need_matrix e [.fz (matD tm tr tf m)] = .ok (.rt .non) [none] := by
  refine fn_nx (ρ := [some (.fz (matD tm tr tf m)), some (.fz (rowD tr tf m 2)), none]) rfl ?_ rfl
  refine seq2 (iff2 (orf2 (notM_ok (mT_ok (call_ok (as1 rfl) (listed_eq e h1 _)))) (mB_ok (m2_ok (mC_ok (as1 rfl) (z := .int 3) ?_) rfl (dNe_int 3 3)))) rfl) ?_
  · rcases h1 with rfl | rfl <;> rfl
  · exact for2 (it_ok rfl (h1.items _)) (for_cons rfl (need_step e h2 h3 0) (for_cons rfl (need_step e h2 h3 1) (for_cons rfl (need_step e h2 h3 2) for_nil)))
theorem detform_eq {tm tr tf : List D → D} {m : Nat → Nat → Nat → Int} (h1 : LT tm) (h2 : LT tr) (h3 : LT tf) (b : BdM m) : den_determinant_form e [.fz (matD tm tr tf m)] = .ok (.rt (.tup (iL (detL (Fm m))))) [none] := by
  refine fn_rt (ρ := [some (.fz (matD tm tr tf m))]) rfl ?_ rfl
  refine seq2 (drop_ok (call_ok (as1 rfl) (need_eq e h1 h2 h3))) ?_
  exact ret_ok (call_ok (as1 rfl) (det_eq e (ixM h1 h2 h3 b)).1)
/-- the table at a place -/
def tabD (t1 t2 : List D → D) (m : Nat → Nat → Nat → Int) (q : List Int) : D := t1 [t2 [.int (dotL (Fm m 0 0) q), .int (dotL (Fm m 0 1) q), .int (dotL (Fm m 0 2) q)], t2 [.int (dotL (Fm m 1 0) q), .int (dotL (Fm m 1 1) q), .int (dotL (Fm m 1 2) q)], t2 [.int (dotL (Fm m 2 0) q), .int (dotL (Fm m 2 1) q), .int (dotL (Fm m 2 2) q)]]
theorem dot_mul {f q : List Int} (hf : Bd 200 f) (hq : Bd 200 q) : ∀ p ∈ f.zip q, mulOk p.1 p.2 := fun p hp => mul_bits (hf p.1 (List.of_mem_zip hp).1) (hq p.2 (List.of_mem_zip hp).2)
theorem dot_sz {f q : List Int} (hq : q.length ≤ 100) : szOk (f.zip q).length := by
  show (f.zip q).length ≤ 16777216
  rw [List.length_zip]
  omega
theorem table_eq {tm tr tf : List D → D} {m : Nat → Nat → Nat → Int} {p : D} {q : List Int} (h1 : LT tm) (h2 : LT tr) (h3 : LT tf) (b : BdM m) (hp : items p = some (iL q)) (hq : Bd 200 q) (hl : q.length ≤ 100) : den_table_at e [.fz (matD tm tr tf m), .fz p] = .ok (.rt (tabD D.tup D.tup m q)) [none, none] := by
  refine fn_rt (ρ := [some (.fz (matD tm tr tf m)), some (.fz p), none, none, none, none]) rfl ?_ rfl
  refine ret_ok (mC_ok (ds := [.lst ([0, 1, 2].map fun i => .tup ([0, 1, 2].map fun j => .int (dotL (Fm m i j) q)))]) (as1 (fz_ok (lcM_map (fun i => rowD tr tf m i) (fun i => .tup ([0, 1, 2].map fun j => .int (dotL (Fm m i j) q))) [0, 1, 2] (it_ok rfl (h1.items _)) rfl (by simp [szOk]) rfl rfl fun i hi => ⟨_, rfl, ?_, rfl⟩))) rfl)
  have hi : i < 3 := by
    simp only [List.mem_cons, List.not_mem_nil, or_false] at hi
    omega
  refine mC_ok (ds := [.lst ([0, 1, 2].map fun j => .int (dotL (Fm m i j) q))]) (as1 (fz_ok (lcM_map (fun j => tf (iL (Fm m i j))) (fun j => .int (dotL (Fm m i j) q)) [0, 1, 2] (it_ok rfl (h2.items _)) rfl (by simp [szOk]) rfl rfl fun j hj => ⟨_, rfl, ?_, rfl⟩))) rfl
  have hj : j < 3 := by
    simp only [List.mem_cons, List.not_mem_nil, or_false] at hj
    omega
  refine mC_ok (as1 (fz_ok (lcM_map (fun r : Int × Int => .tup [.int r.1, .int r.2]) (fun r => .int (r.1 * r.2)) ((Fm m i j).zip q) (zip_ok (as_cons rfl (as1 rfl)) (h3.items _) hp) (zipD_map D.int D.int _ q) (dot_sz hl) rfl rfl fun r hr => ⟨_, rfl, m2_ok rfl rfl (if_pos (dot_mul (b i j hi hj) hq r hr)), rfl⟩))) ?_
  show (ints? (((Fm m i j).zip q).map fun r => D.int (r.1 * r.2))).map (fun ns => D.int ns.sum) = _
  have : (((Fm m i j).zip q).map fun r => D.int (r.1 * r.2)) = ((((Fm m i j).zip q).map fun r => r.1 * r.2)).map D.int := by rw [List.map_map]; rfl
  rw [this, ints?_map]
  rfl
theorem matat_eq {tm tr tf : List D → D} {m : Nat → Nat → Nat → Int} {p : D} {q : List Int} (h1 : LT tm) (h2 : LT tr) (h3 : LT tf) (b : BdM m) (hp : den_place_told e [.fz p, .fz (.str "place")] = .ok (.rt (.tup (iL q))) [none, none]) (hq : Bd 200 q) (hl : q.length ≤ 100) : den_matrix_at e [.fz (matD tm tr tf m), .fz p] = .ok (.rt (tabD D.tup D.tup m q)) [none, none] := by
  refine fn_rt (ρ := [some (.fz (matD tm tr tf m)), some (.fz p)]) rfl ?_ rfl
  refine seq2 (drop_ok (call_ok (as1 rfl) (need_eq e h1 h2 h3))) ?_
  exact ret_ok (call_ok (as_cons rfl (as1 (call_ok (as_cons rfl (as1 rfl)) hp))) (table_eq e h1 h2 h3 b rfl hq hl))
/-! ### the form's value -/
abbrev thB : M Fl := (seqM (asgM 2 (m2 (rdV 2) (m2 (m2 (m2 (m2 (rdV 0) (rdV 3) dIx) (m2 (rdV 1) (rdV 4) dIx) dMul) (m2 (rdV 1) (rdV 5) dIx) dMul) (m2 (rdV 1) (rdV 6) dIx) dMul) dAdd)) (asgM 3 (m2 (rdV 3) (ret (.int 1)) dAdd)))
theorem th_step {f r : D} {t a i j k c x y z : Int} (hc : dIx f (.int a) = some (.int c)) (hx : dIx r (.int i) = some (.int x)) (hy : dIx r (.int j) = some (.int y)) (hz : dIx r (.int k) = some (.int z)) (bc : ib c ≤ 700) (bx : ib x ≤ 200) (by_ : ib y ≤ 200) (bz : ib z ≤ 200) :
    thB [some (.fz f), some (.fz r), some (.fz (.int t)), some (.fz (.int a)), some (.fz (.int i)), some (.fz (.int j)), some (.fz (.int k))] = .ok .nx [some (.fz f), some (.fz r), some (.fz (.int (t + c * x * y * z))), some (.fz (.int (a + 1))), some (.fz (.int i)), some (.fz (.int j)), some (.fz (.int k))] := by
  have b1 := intBits_mul_le bc bx
  have b2 := intBits_mul_le b1 by_
  refine seq2 (asg2 (m2_ok rfl (m2_ok (m2_ok (m2_ok (m2_ok rfl rfl hc) (m2_ok rfl rfl hx) (if_pos (mul_bits bc bx))) (m2_ok rfl rfl hy) (if_pos (mul_bits b1 by_))) (m2_ok rfl rfl hz) (if_pos (mul_bits b2 bz))) rfl) rfl) ?_
  exact asg2 (m2_ok rfl rfl rfl) rfl
theorem third_eq {f : D} {cs : List Int} {x0 x1 x2 x3 : Int} (hf : f = .tup (iL cs)) (hl : cs.length = 20) (hb : Bd 700 cs) (hx : Bd 200 [x0, x1, x2, x3]) : den__law_third e [.fz f, .fz (.tup (iL [x0, x1, x2, x3]))] = .ok (.rt (.int (val (mono x0 x1 x2 x3) P3 cs))) [none, none] := by
  match cs, hl with
  | [c0, c1, c2, c3, c4, c5, c6, c7, c8, c9, c10, c11, c12, c13, c14, c15, c16, c17, c18, c19], _ =>
  subst hf
  simp only [Bd, List.mem_cons, List.not_mem_nil, or_false, forall_eq_or_imp, forall_eq] at hb hx
  obtain ⟨g0, g1, g2, g3, g4, g5, g6, g7, g8, g9, g10, g11, g12, g13, g14, g15, g16, g17, g18, g19⟩ := hb
  obtain ⟨y0, y1, y2, y3⟩ := hx
  have ev : val (mono x0 x1 x2 x3) P3 [c0, c1, c2, c3, c4, c5, c6, c7, c8, c9, c10, c11, c12, c13, c14, c15, c16, c17, c18, c19] = 0 + c0 * x0 * x0 * x0 + c1 * x0 * x0 * x1 + c2 * x0 * x0 * x2 + c3 * x0 * x0 * x3 + c4 * x0 * x1 * x1 + c5 * x0 * x1 * x2 + c6 * x0 * x1 * x3 + c7 * x0 * x2 * x2 + c8 * x0 * x2 * x3 + c9 * x0 * x3 * x3 + c10 * x1 * x1 * x1 + c11 * x1 * x1 * x2 + c12 * x1 * x1 * x3 + c13 * x1 * x2 * x2 + c14 * x1 * x2 * x3 + c15 * x1 * x3 * x3 + c16 * x2 * x2 * x2 + c17 * x2 * x2 * x3 + c18 * x2 * x3 * x3 + c19 * x3 * x3 * x3 := by
    simp only [val, P3, pws, mono, Int.toNat_zero, Int.pow_zero, Int.toNat_one, Int.pow_one, Int.mul_one, Int.one_mul, show (2 : Int).toNat = 2 from rfl, show (3 : Int).toNat = 3 from rfl]
    grind
  rw [ev]
  have main : ∃ ρ', forL (tgN 4) (forM (rngM2 (aV (rdV 4) (aV (ret (.int 4)) (aNil)))) (tgN 5) (forM (rngM2 (aV (rdV 5) (aV (ret (.int 4)) (aNil)))) (tgN 6) thB)) [.int 0, .int 1, .int 2, .int 3] [some (.fz (D.tup (iL [c0, c1, c2, c3, c4, c5, c6, c7, c8, c9, c10, c11, c12, c13, c14, c15, c16, c17, c18, c19]))), some (.fz (D.tup (iL [x0, x1, x2, x3]))), some (.fz (.int 0)), some (.fz (.int 0)), none, none, none] = .ok .nx ρ' ∧ ends [false, false] ρ' = some [none, none] ∧ rdV 2 ρ' = .ok (.int (0 + c0 * x0 * x0 * x0 + c1 * x0 * x0 * x1 + c2 * x0 * x0 * x2 + c3 * x0 * x0 * x3 + c4 * x0 * x1 * x1 + c5 * x0 * x1 * x2 + c6 * x0 * x1 * x3 + c7 * x0 * x2 * x2 + c8 * x0 * x2 * x3 + c9 * x0 * x3 * x3 + c10 * x1 * x1 * x1 + c11 * x1 * x1 * x2 + c12 * x1 * x1 * x3 + c13 * x1 * x2 * x2 + c14 * x1 * x2 * x3 + c15 * x1 * x3 * x3 + c16 * x2 * x2 * x2 + c17 * x2 * x2 * x3 + c18 * x2 * x3 * x3 + c19 * x3 * x3 * x3)) ρ' := ⟨_, (for_cons rfl (for2 (rng2_ok (n := 4) (as_cons rfl (as1 rfl)) (by decide) (by decide) rfl) (for_cons rfl (for2 (rng2_ok (n := 4) (as_cons rfl (as1 rfl)) (by decide) (by decide) rfl) (for_cons rfl (th_step (c := c0) (x := x0) (y := x0) (z := x0) rfl rfl rfl rfl g0 y0 y0 y0) (for_cons rfl (th_step (c := c1) (x := x0) (y := x0) (z := x1) rfl rfl rfl rfl g1 y0 y0 y1) (for_cons rfl (th_step (c := c2) (x := x0) (y := x0) (z := x2) rfl rfl rfl rfl g2 y0 y0 y2) (for_cons rfl (th_step (c := c3) (x := x0) (y := x0) (z := x3) rfl rfl rfl rfl g3 y0 y0 y3) for_nil))))) (for_cons rfl (for2 (rng2_ok (n := 3) (as_cons rfl (as1 rfl)) (by decide) (by decide) rfl) (for_cons rfl (th_step (c := c4) (x := x0) (y := x1) (z := x1) rfl rfl rfl rfl g4 y0 y1 y1) (for_cons rfl (th_step (c := c5) (x := x0) (y := x1) (z := x2) rfl rfl rfl rfl g5 y0 y1 y2) (for_cons rfl (th_step (c := c6) (x := x0) (y := x1) (z := x3) rfl rfl rfl rfl g6 y0 y1 y3) for_nil)))) (for_cons rfl (for2 (rng2_ok (n := 2) (as_cons rfl (as1 rfl)) (by decide) (by decide) rfl) (for_cons rfl (th_step (c := c7) (x := x0) (y := x2) (z := x2) rfl rfl rfl rfl g7 y0 y2 y2) (for_cons rfl (th_step (c := c8) (x := x0) (y := x2) (z := x3) rfl rfl rfl rfl g8 y0 y2 y3) for_nil))) (for_cons rfl (for2 (rng2_ok (n := 1) (as_cons rfl (as1 rfl)) (by decide) (by decide) rfl) (for_cons rfl (th_step (c := c9) (x := x0) (y := x3) (z := x3) rfl rfl rfl rfl g9 y0 y3 y3) for_nil)) for_nil))))) (for_cons rfl (for2 (rng2_ok (n := 3) (as_cons rfl (as1 rfl)) (by decide) (by decide) rfl) (for_cons rfl (for2 (rng2_ok (n := 3) (as_cons rfl (as1 rfl)) (by decide) (by decide) rfl) (for_cons rfl (th_step (c := c10) (x := x1) (y := x1) (z := x1) rfl rfl rfl rfl g10 y1 y1 y1) (for_cons rfl (th_step (c := c11) (x := x1) (y := x1) (z := x2) rfl rfl rfl rfl g11 y1 y1 y2) (for_cons rfl (th_step (c := c12) (x := x1) (y := x1) (z := x3) rfl rfl rfl rfl g12 y1 y1 y3) for_nil)))) (for_cons rfl (for2 (rng2_ok (n := 2) (as_cons rfl (as1 rfl)) (by decide) (by decide) rfl) (for_cons rfl (th_step (c := c13) (x := x1) (y := x2) (z := x2) rfl rfl rfl rfl g13 y1 y2 y2) (for_cons rfl (th_step (c := c14) (x := x1) (y := x2) (z := x3) rfl rfl rfl rfl g14 y1 y2 y3) for_nil))) (for_cons rfl (for2 (rng2_ok (n := 1) (as_cons rfl (as1 rfl)) (by decide) (by decide) rfl) (for_cons rfl (th_step (c := c15) (x := x1) (y := x3) (z := x3) rfl rfl rfl rfl g15 y1 y3 y3) for_nil)) for_nil)))) (for_cons rfl (for2 (rng2_ok (n := 2) (as_cons rfl (as1 rfl)) (by decide) (by decide) rfl) (for_cons rfl (for2 (rng2_ok (n := 2) (as_cons rfl (as1 rfl)) (by decide) (by decide) rfl) (for_cons rfl (th_step (c := c16) (x := x2) (y := x2) (z := x2) rfl rfl rfl rfl g16 y2 y2 y2) (for_cons rfl (th_step (c := c17) (x := x2) (y := x2) (z := x3) rfl rfl rfl rfl g17 y2 y2 y3) for_nil))) (for_cons rfl (for2 (rng2_ok (n := 1) (as_cons rfl (as1 rfl)) (by decide) (by decide) rfl) (for_cons rfl (th_step (c := c18) (x := x2) (y := x3) (z := x3) rfl rfl rfl rfl g18 y2 y3 y3) for_nil)) for_nil))) (for_cons rfl (for2 (rng2_ok (n := 1) (as_cons rfl (as1 rfl)) (by decide) (by decide) rfl) (for_cons rfl (for2 (rng2_ok (n := 1) (as_cons rfl (as1 rfl)) (by decide) (by decide) rfl) (for_cons rfl (th_step (c := c19) (x := x3) (y := x3) (z := x3) rfl rfl rfl rfl g19 y3 y3 y3) for_nil)) for_nil)) for_nil)))), rfl, rfl⟩
  obtain ⟨ρ', m1, m2, m3⟩ := main
  refine fn_rt (ρ := ρ') rfl ?_ m2
  refine seq2 (tgS_ok (tup_ok (as_cons rfl (as1 rfl))) rfl) ?_
  exact seq2 (for2 (rng1_ok (as1 rfl) (by decide)) m1) (ret_ok m3)
end K75

set_option Elab.async false
set_option linter.all false
set_option maxRecDepth 100000
set_option maxHeartbeats 400000
/-! P9: the well. -/
namespace K75
open PySem PySem.Spec PyProof.Rows L2 Dn
variable (e : Str → Addr)
/-- a well as it stands -/
def wl (cs : List Int) (a r : Int) : OO := .lst [.lst (iL cs), .int a, .int r]
structure Good (N : Nat) (cs : List Int) (a r : Int) : Prop where
  len : cs.length ≤ 63
  cell : ∀ c ∈ cs, ib c ≤ 1048576
  a0 : 0 ≤ a
  a1 : a ≤ N
  r0 : 0 ≤ r
  r1 : ib r ≤ 1048590
theorem okDs_ints (n : Nat) : ∀ ns : List Int, okDs n (iL ns) = true
  | [] => by cases n <;> rfl
  | x :: ns => by
    show okDs n (D.int x :: ns.map D.int) = true
    unfold okDs
    rw [okDs_ints n ns]
    cases n <;> rfl
theorem ne_nil (cs : List Int) : dNe (.lst (iL cs)) (.lst []) = some (.bl (decide (cs ≠ []))) := by
  unfold dNe
  have : eqOk (.lst (iL cs)) (.lst []) = true := by
    unfold eqOk
    show (okDs 59 (iL cs) && true) = true
    rw [okDs_ints]
    rfl
  rw [if_pos this]
  cases cs with
  | nil => rfl
  | cons c cs => rfl
theorem st_ok {ρ ρ1 : Rho} {k : Nat} {me mi : M D} {d : D} {j : Int} {ds : List D} {n : Nat} {r : Rs Fl} (h1 : me ρ = .ok d ρ1) (h2 : mi ρ1 = .ok (.int j) ρ1) (h3 : ownLst ρ1 k = some ds) (h4 : ixN ds.length j = some n) (h5 : Rs.ok Fl.nx (ρ1.set k (some (.own (.lst (ds.set n d))))) = r) : Dn.stM k me mi ρ = r := by
  unfold Dn.stM
  have o : lift (ownLst ρ1 k) ρ1 = .ok ds ρ1 := by
    rw [h3]
    rfl
  rw [bind_ok h1, bind_ok (m := fun ρ => lift (ownLst ρ k) ρ) o, bind_ok h2, bind_ok (m := fun ρ => lift (ownLst ρ k) ρ) o]
  unfold putL
  show (match ixN ds.length j with
    | some n => Rs.ok Fl.nx (ρ1.set k (some (.own (.lst (ds.set n d)))))
    | none => .no) = r
  rw [h4]
  exact h5
theorem pow_ok {a : Int} {n : Nat} {m : Nat} (h : ib a ≤ m) (hm : m * n ≤ 134217728) : dPow (.int a) (.int n) = some (.int (a ^ n)) := by
  show (if powOk a n then some (D.int (a ^ (n : Int).toNat)) else none) = _
  have : (ib a : Int) * n ≤ 2 ^ 27 := by
    have h1 : ib a * n ≤ m * n := Nat.mul_le_mul_right n h
    have h2 : ib a * n ≤ 134217728 := Nat.le_trans h1 hm
    have h3 : ((ib a * n : Nat) : Int) ≤ 134217728 := Int.ofNat_le.mpr h2
    rw [Int.natCast_mul] at h3
    exact h3
  rw [if_pos ⟨by omega, this⟩]
  rfl
theorem mod_ok {a b : Int} (h : b ≠ 0) : dMod (.int a) (.int b) = some (.int (a.fmod b)) := if_pos h
theorem div_ok {a b : Int} (h : divOk b) : dFdiv (.int a) (.int b) = some (.int (a.fdiv b)) := if_pos h
theorem mul_ok {a b : Int} (h : mulOk a b) : dMul (.int a) (.int b) = some (.int (a * b)) := if_pos h
theorem divOk_of {b : Int} (h : 1 ≤ b) (hb : ib b ≤ 200) : divOk b := by
  refine ⟨by omega, ?_⟩
  have h1 := intBits_le_iff.mp hb
  have h2 : b.natAbs ≠ 0 := by omega
  have h3 := (Nat.log2_lt h2).mpr h1
  omega
theorem fdiv_nn {a b : Int} (h : 0 ≤ a) (hb : 1 ≤ b) : 0 ≤ a.fdiv b := by
  rw [Int.fdiv_eq_ediv_of_nonneg _ (by omega)]
  exact Int.ediv_nonneg h (by omega)
theorem fmod_in {a b : Int} (hb : 1 ≤ b) : 0 ≤ a.fmod b ∧ a.fmod b < b := ⟨Int.fmod_nonneg_of_pos a (by omega), Int.fmod_lt_of_pos a (by omega)⟩
theorem atI_ints {cs : List Int} {i : Int} (h0 : 0 ≤ i) (h1 : i < cs.length) : ∃ c ∈ cs, atI (iL cs) i = some (.int c) := by
  have hn : i.toNat < cs.length := by omega
  refine ⟨cs[i.toNat], List.getElem_mem hn, ?_⟩
  unfold atI
  have : ixN (iL cs).length i = some i.toNat := by
    rw [List.length_map]
    unfold ixN
    rw [if_pos h0]
    first
      | rw [if_pos hn]
      | simp [h1, hn]
  rw [this]
  show (cs.map D.int)[i.toNat]? = _
  rw [List.getElem?_map, List.getElem?_eq_getElem hn]
  rfl
theorem ib_small {x : Int} {k : Nat} (h : x.natAbs < 2 ^ k) : ib x ≤ k := intBits_le_iff.mpr h
theorem dip_eq {N : Nat} {cs : List Int} {a r many : Int} (g : Good N cs a r) (hN : N ≤ 1000) (hm : 1 ≤ many) (hb : ib many ≤ 200) :
    ∃ v a' r', den__law_dip e [.own (wl cs a r), .fz (.int many)] = .ok (.rt (.int v)) [some (wl cs a' r'), none] ∧ (0 ≤ v ∧ v < many) ∧ Good (N + 1) cs a' r' := by
  have hd := divOk_of hm hb
  have hne : many ≠ 0 := by omega
  have ba : ib a ≤ 10 := ib_small (by have := g.a0; have := g.a1; omega)
  by_cases hr : 0 < r
  · refine ⟨r.fmod many, a, r.fdiv many, ?_, fmod_in hm, ⟨g.len, g.cell, g.a0, by have := g.a1; omega, fdiv_nn g.r0 hm, intBits_fdiv_le g.r1⟩⟩
    refine fn_rt (ρ := [some (.own (wl cs a (r.fdiv many))), some (.fz (.int many)), none, none, none, some (.fz (.int r))]) rfl ?_ rfl
    refine seqrt2 (ift2 (mB_ok (m2_ok (g := dGt) (x := .int r) (y := .int 0) rfl rfl (by rw [dGt_int, decide_eq_true hr]))) ?_) rfl
    refine seq2 (asg2 (mC_ok (as1 rfl) rfl) rfl) ?_
    refine seq2 (st_ok (m2_ok rfl rfl (div_ok hd)) rfl rfl rfl rfl) ?_
    exact ret_ok (m2_ok (mC_ok (as1 rfl) rfl) rfl (mod_ok hne))
  · have hr0 : r = 0 := by have := g.r0; omega
    subst hr0
    -- the cell
    let c0 : Int := 91193 * a + 7411
    have cell : ∃ c : Int, ib c ≤ 1048576 ∧ ∀ x3 : Option Sl, (ifS (mB (m2 (mIxO 0 (ret (.int 0))) (fzM (lstM (aNil))) dNe)) (asgM 3 (m2 (mIxO 0 (ret (.int 0))) (m2 (mC (aV (rdV 2) (aNil)) dInt) (mC (aV (mIxO 0 (ret (.int 0))) (aNil)) dLen) dMod) dIx)) (nextM)) [some (.own (wl cs (a + 1) 0)), some (.fz (.int many)), some (.fz (.int a)), some (.fz (.int c0)), none, none] = .ok .nx [some (.own (wl cs (a + 1) 0)), some (.fz (.int many)), some (.fz (.int a)), some (.fz (.int c)), none, none] := by
      by_cases hc : cs = []
      · refine ⟨c0, ?_, fun _ => iff2 (mB_ok (m2_ok (x := .lst (iL cs)) (y := .lst []) rfl rfl (by rw [ne_nil, decide_eq_false (by simpa using hc)]))) rfl⟩
        exact Nat.le_trans (intBits_add_le (intBits_mul_le (m := 20) (by decide) ba) (n := 20) (by decide)) (by decide)
      · have hl : 1 ≤ (cs.length : Int) := by
          have : cs.length ≠ 0 := fun z => hc (List.eq_nil_of_length_eq_zero z)
          omega
        obtain ⟨i0, i1⟩ := fmod_in (a := a) hl
        obtain ⟨c, hc1, hc2⟩ := atI_ints (cs := cs) i0 i1
        refine ⟨c, g.cell c hc1, fun _ => ift2 (mB_ok (m2_ok (x := .lst (iL cs)) (y := .lst []) rfl rfl (by rw [ne_nil, decide_eq_true (by simpa using hc)]))) ?_⟩
        refine asg2 (m2_ok (x := .lst (iL cs)) rfl (m2_ok (mC_ok (as1 rfl) rfl) (mC_ok (as1 (d := .lst (iL cs)) rfl) (z := .int cs.length) ?_) (mod_ok (by omega))) ?_) rfl
        · show some (D.int ((iL cs).length : Int)) = _
          rw [List.length_map]
        · exact hc2
    obtain ⟨c, bc, hcell⟩ := cell
    have hcell := hcell none
    have head : ∀ {r : Rs Fl} {rest : M Fl}, rest [some (.own (wl cs (a + 1) 0)), some (.fz (.int many)), some (.fz (.int a)), some (.fz (.int c)), none, none] = r → seqM (ifS (mB (m2 (mIxO 0 (ret (.int 2))) (ret (.int 0)) dGt)) (seqM (asgM 5 (mC (aV (mIxO 0 (ret (.int 2))) (aNil)) dInt)) (seqM (stM 0 (m2 (rdV 5) (rdV 1) dFdiv) (ret (.int 2))) (retM (m2 (mC (aV (rdV 5) (aNil)) dInt) (rdV 1) dMod)))) (nextM)) (seqM (asgM 2 (mIxO 0 (ret (.int 1)))) (seqM (stM 0 (m2 (rdV 2) (ret (.int 1)) dAdd) (ret (.int 1))) (seqM (asgM 3 (m2 (m2 (ret (.int 91193)) (rdV 2) dMul) (ret (.int 7411)) dAdd)) (seqM (ifS (mB (m2 (mIxO 0 (ret (.int 0))) (fzM (lstM (aNil))) dNe)) (asgM 3 (m2 (mIxO 0 (ret (.int 0))) (m2 (mC (aV (rdV 2) (aNil)) dInt) (mC (aV (mIxO 0 (ret (.int 0))) (aNil)) dLen) dMod) dIx)) (nextM)) rest)))) [some (.own (wl cs a 0)), some (.fz (.int many)), none, none, none, none] = r := by
      intro r rest h
      refine seq2 (iff2 (mB_ok (m2_ok (g := dGt) (x := .int 0) (y := .int 0) rfl rfl rfl)) rfl) ?_
      refine seq2 (asg2 rfl rfl) ?_
      refine seq2 (st_ok (m2_ok rfl rfl rfl) rfl rfl rfl rfl) ?_
      refine seq2 (asg2 (m2_ok (m2_ok rfl rfl (mul_ok (mul_bits (m := 20) (by decide) ba))) rfl rfl) rfl) ?_
      exact seq2 hcell h
    have good : Good (N + 1) cs (a + 1) 0 := ⟨g.len, g.cell, by have := g.a0; omega, by have := g.a1; omega, Int.le_refl _, by decide⟩
    by_cases hbig : a < cs.length ∧ (10 : Int) ^ 18 ≤ (if c < 0 then -c else c)
    · -- a great number is kept
      obtain ⟨h1, h2⟩ := hbig
      let q : Int := 2 * ((if c < 0 then -c else c) - 10 ^ 18) + (if decide (c < 0) = true then 1 else 0)
      have babs : ib (if c < 0 then -c else c) ≤ 1048576 := by
        split
        · exact intBits_neg_le bc
        · exact bc
      have b1 : ib ((if c < 0 then -c else c) - 10 ^ 18) ≤ 1048577 := Nat.le_trans (intBits_sub_le babs (n := 60) (by decide)) (by decide)
      have b2 : ib (2 * ((if c < 0 then -c else c) - 10 ^ 18)) ≤ 1048579 := Nat.le_trans (intBits_mul_le (m := 2) (by decide) b1) (by decide)
      have b3 : ib q ≤ 1048580 := Nat.le_trans (intBits_add_le b2 (n := 1) (by split <;> decide)) (by decide)
      have q0 : 0 ≤ q := by
        show 0 ≤ 2 * ((if c < 0 then -c else c) - 10 ^ 18) + (if decide (c < 0) = true then 1 else 0)
        have : (0 : Int) ≤ (if decide (c < 0) = true then 1 else 0) := by split <;> decide
        omega
      refine ⟨q.fmod many, a + 1, q.fdiv many, ?_, fmod_in hm, ⟨good.len, good.cell, good.a0, good.a1, fdiv_nn q0 hm, intBits_fdiv_le (Nat.le_trans b3 (by decide))⟩⟩
      refine fn_rt (ρ := [some (.own (wl cs (a + 1) (q.fdiv many))), some (.fz (.int many)), some (.fz (.int a)), some (.fz (.int c)), none, some (.fz (.int q))]) rfl ?_ rfl
      refine head ?_
      refine seqrt2 (ift2 (andt2 (mB_ok (m2_ok rfl (mC_ok (as1 (d := .lst (iL cs)) rfl) (z := .int cs.length) ?_) (z := .bl true) ?_)) (mB_ok (m2_ok (mC_ok (as1 rfl) rfl) (m2_ok rfl rfl (pow_ok (n := 18) (m := 4) (by decide) (by decide))) (z := .bl true) ?_))) ?_) rfl
      · show some (D.int ((iL cs).length : Int)) = _
        rw [List.length_map]
      · show some (D.bl (decide (a < cs.length))) = _
        rw [decide_eq_true h1]
      · show some (D.bl (decide ((10 : Int) ^ 18 ≤ (if c < 0 then -c else c)))) = _
        rw [decide_eq_true h2]
      · refine seq2 (asg2 (m2_ok (m2_ok rfl (m2_ok (mC_ok (as1 rfl) rfl) (m2_ok rfl rfl (pow_ok (n := 18) (m := 4) (by decide) (by decide))) rfl) (mul_ok (mul_bits (m := 2) (by decide) b1))) (mC_ok (as1 (m2_ok rfl rfl rfl)) rfl) rfl) rfl) ?_
        refine seq2 (st_ok (m2_ok (mC_ok (as1 rfl) rfl) rfl (div_ok hd)) rfl rfl rfl rfl) ?_
        exact ret_ok (m2_ok (mC_ok (as1 rfl) rfl) rfl (mod_ok hne))
    · -- mixed
      let y0 : Int := c.fmod 2147483579 + 30971 * a + 7411
      let y1 : Int := (y0 ^ 5).fmod 2147483563
      let y2 : Int := y1 * (2 * a + 5227) + 91193 * a * a + 30971
      let y3 : Int := (y2 ^ 3).fmod 2147483549
      have f0 := fmod_in (a := c) (b := 2147483579) (by decide)
      have f1 := fmod_in (a := y0 ^ 5) (b := 2147483563) (by decide)
      have f3 := fmod_in (a := y2 ^ 3) (b := 2147483549) (by decide)
      have ga := g.a0
      have gb := g.a1
      have c0 : ib (c.fmod 2147483579) ≤ 32 := ib_small (by omega)
      have d0 : ib y0 ≤ 40 := Nat.le_trans (intBits_add_le (intBits_add_le c0 (intBits_mul_le (m := 15) (by decide) ba)) (n := 15) (by decide)) (by decide)
      have d1 : ib y1 ≤ 32 := ib_small (by omega)
      have d3 : ib (2 * a + 5227) ≤ 14 := Nat.le_trans (intBits_add_le (intBits_mul_le (m := 2) (by decide) ba) (n := 13) (by decide)) (by decide)
      have d4 : ib (91193 * a) ≤ 27 := intBits_mul_le (m := 17) (by decide) ba
      have d2 : ib y2 ≤ 60 := Nat.le_trans (intBits_add_le (intBits_add_le (intBits_mul_le d1 d3) (intBits_mul_le d4 ba)) (n := 15) (by decide)) (by decide)
      refine ⟨(y3.fdiv 64).fmod many, a + 1, 0, ?_, fmod_in hm, good⟩
      refine fn_rt (ρ := [some (.own (wl cs (a + 1) 0)), some (.fz (.int many)), some (.fz (.int a)), some (.fz (.int c)), some (.fz (.int y3)), none]) rfl ?_ rfl
      refine head ?_
      have hlen : mC (aV (mIxO 0 (ret (.int 0))) (aNil)) dLen [some (.own (wl cs (a + 1) 0)), some (.fz (.int many)), some (.fz (.int a)), some (.fz (.int c)), none, none] = .ok (.int cs.length) [some (.own (wl cs (a + 1) 0)), some (.fz (.int many)), some (.fz (.int a)), some (.fz (.int c)), none, none] := by
        refine mC_ok (as1 (d := .lst (iL cs)) rfl) ?_
        show some (D.int ((iL cs).length : Int)) = _
        rw [List.length_map]
      have test : andM (mB (m2 (rdV 2) (mC (aV (mIxO 0 (ret (.int 0))) (aNil)) dLen) dLt)) (mB (m2 (mC (aV (rdV 3) (aNil)) dAbs) (m2 (ret (.int 10)) (ret (.int 18)) dPow) dGe)) [some (.own (wl cs (a + 1) 0)), some (.fz (.int many)), some (.fz (.int a)), some (.fz (.int c)), none, none] = .ok false [some (.own (wl cs (a + 1) 0)), some (.fz (.int many)), some (.fz (.int a)), some (.fz (.int c)), none, none] := by
        by_cases h1 : a < cs.length
        · refine andt2 (mB_ok (m2_ok rfl hlen (z := .bl true) ?_)) (mB_ok (m2_ok (mC_ok (as1 rfl) rfl) (m2_ok rfl rfl (pow_ok (n := 18) (m := 4) (by decide) (by decide))) (z := .bl false) ?_))
          · show some (D.bl (decide (a < cs.length))) = _
            rw [decide_eq_true h1]
          · show some (D.bl (decide ((10 : Int) ^ 18 ≤ (if c < 0 then -c else c)))) = _
            rw [decide_eq_false fun z => hbig ⟨h1, z⟩]
        · refine and_f (mB_ok (m2_ok rfl hlen (z := .bl false) ?_))
          show some (D.bl (decide (a < cs.length))) = _
          rw [decide_eq_false h1]
      refine seq2 (iff2 test rfl) ?_
      refine seq2 (asg2 (m2_ok (mC_ok (as1 (m2_ok (m2_ok (m2_ok (m2_ok (mC_ok (as1 rfl) rfl) rfl (mod_ok (by decide))) (m2_ok rfl rfl (mul_ok (mul_bits (m := 15) (by decide) ba))) rfl) rfl rfl) rfl (pow_ok (n := 5) d0 (by decide)))) rfl) rfl (mod_ok (by decide))) rfl) ?_
      refine seq2 (asg2 (m2_ok (mC_ok (as1 (m2_ok (m2_ok (m2_ok (m2_ok rfl (m2_ok (m2_ok rfl rfl (mul_ok (mul_bits (m := 2) (by decide) ba))) rfl rfl) (mul_ok (mul_bits d1 d3))) (m2_ok (m2_ok rfl rfl (mul_ok (mul_bits (m := 17) (by decide) ba))) rfl (mul_ok (mul_bits d4 ba))) rfl) rfl rfl) rfl (pow_ok (n := 3) d2 (by decide)))) rfl) rfl (mod_ok (by decide))) rfl) ?_
      exact ret_ok (m2_ok (mC_ok (as1 (m2_ok rfl rfl (div_ok (by decide)))) rfl) rfl (mod_ok hne))
end K75

set_option Elab.async false
set_option linter.all false
set_option maxRecDepth 100000
set_option maxHeartbeats 400000
/-! P10: the matrix that the law draws. -/
namespace K75
open PySem PySem.Spec PyProof.Rows L2 Dn
variable (e : Str → Addr)
theorem pick_eq {N : Nat} {cs : List Int} {a r : Int} {zs : List Int} (g : Good N cs a r) (hN : N ≤ 1000) (hl : 1 ≤ zs.length) (hb : ib (zs.length : Int) ≤ 200) :
    ∃ z ∈ zs, ∃ a' r', den__law_pick e [.own (wl cs a r), .fz (.lst (iL zs))] = .ok (.rt (.int z)) [some (wl cs a' r'), none] ∧ Good (N + 1) cs a' r' := by
  obtain ⟨v, a', r', h1, h2, h3⟩ := dip_eq e g hN (many := zs.length) (by omega) hb
  obtain ⟨z, hz, hz2⟩ := atI_ints (cs := zs) h2.1 h2.2
  refine ⟨z, hz, a', r', ?_, h3⟩
  refine fn_rt (ρ := [some (.own (wl cs a' r')), some (.fz (.lst (iL zs)))]) rfl ?_ rfl
  refine ret2 (m2_ok (ρ2 := [some (.own (wl cs a' r')), some (.fz (.lst (iL zs)))]) rfl (call_s (k := 0) rfl (mC_ok (as1 rfl) (z := .int zs.length) ?_) h1) (z := .int z) hz2) rfl
  show some (D.int ((iL zs).length : Int)) = _
  rw [List.length_map]
/-- a comprehension whose parts change the well -/
theorem lcLoop_st {S : Type} {t : Tg} {elt : M D} {vs : List Nat} (R : S → Rho) (G : Nat → S → Prop) (V : D → Prop) (k L : Nat)
    (h : ∀ n s d, n ≤ L → G n s → ∃ ρ1 v ρ2 s', t d (R s) = some ρ1 ∧ elt ρ1 = .ok v ρ2 ∧ wipeR ρ2 vs = R s' ∧ G (n + k) s' ∧ V v) :
    ∀ (xs acc : List D) (n : Nat) (s : S), n + k * xs.length ≤ L → G n s → ∃ ws s', lcLoop t yesM elt vs xs acc (R s) = .ok (acc ++ ws) (R s') ∧ G (n + k * xs.length) s' ∧ ws.length = xs.length ∧ ∀ v ∈ ws, V v
  | [], acc, n, s, _, g => ⟨[], s, by simp [lcLoop], by simpa using g, rfl, fun v hv => nomatch hv⟩
  | x :: xs, acc, n, s, hn, g => by
    obtain ⟨ρ1, v, ρ2, s1, h1, h2, h3, h4, h5⟩ := h n s x (by omega) g
    rw [List.length_cons, Nat.mul_succ] at hn
    obtain ⟨ws, s2, g1, g2, g3, g4⟩ := lcLoop_st R G V k L h xs (acc ++ [v]) (n + k) s1 (by omega) h4
    refine ⟨v :: ws, s2, ?_, ?_, by simp [g3], fun y hy => ?_⟩
    · unfold lcLoop
      rw [h1]
      show (match elt ρ1 with
        | .ok x ρ3 => lcLoop t yesM elt vs xs (acc ++ [x]) (wipeR ρ3 vs)
        | _ => .no) = _
      rw [h2]
      show lcLoop t yesM elt vs xs (acc ++ [v]) (wipeR ρ2 vs) = _
      rw [h3, g1]
      simp
    · rw [List.length_cons, Nat.mul_succ]
      have : n + (k * xs.length + k) = n + k + k * xs.length := by omega
      rw [this]
      exact g2
    · rcases List.mem_cons.mp hy with rfl | z
      · exact h5
      · exact g4 y z
theorem lcM_st {S : Type} {it : M (List D)} {t : Tg} {elt : M D} {vs : List Nat} {ds : List D} {ρ0 : Rho} (R R' : S → Rho) (G : Nat → S → Prop) (V : D → Prop) (k L : Nat) {n : Nat} {s : S} (hi : it ρ0 = .ok ds (R' s)) (hz : szOk ds.length) (no : noOwn (R' s) vs = true) (hw : wipeR (R' s) vs = R s) (hu : ∀ s', unwipe (R' s) (R s') vs = R' s')
    (hn : n + k * ds.length ≤ L) (g : G n s)
    (h : ∀ n s d, n ≤ L → G n s → ∃ ρ1 v ρ2 s', t d (R s) = some ρ1 ∧ elt ρ1 = .ok v ρ2 ∧ wipeR ρ2 vs = R s' ∧ G (n + k) s' ∧ V v) :
    ∃ ws s', lcM it t yesM elt vs ρ0 = .ok (.lst ws) (R' s') ∧ G (n + k * ds.length) s' ∧ ws.length = ds.length ∧ ∀ v ∈ ws, V v := by
  obtain ⟨ws, s', g1, g2, g3, g4⟩ := lcLoop_st R G V k L h ds [] n s hn g
  refine ⟨ws, s', ?_, g2, g3, g4⟩
  unfold lcM
  rw [bind_ok hi, if_pos ⟨hz, no⟩, hw, g1]
  show Rs.ok (OO.lst ([] ++ ws)) (unwipe (R' s) (R s') vs) = _
  rw [hu, List.nil_append]
def V1 (d : D) : Prop := ∃ z : Int, d = .int z ∧ ib z ≤ 100
def V4 (d : D) : Prop := ∃ f : Nat → Int, d = .lst [.int (f 0), .int (f 1), .int (f 2), .int (f 3)] ∧ ∀ k, ib (f k) ≤ 100
def V34 (d : D) : Prop := ∃ f : Nat → Nat → Int, d = .lst [.lst (iL [f 0 0, f 0 1, f 0 2, f 0 3]), .lst (iL [f 1 0, f 1 1, f 1 2, f 1 3]), .lst (iL [f 2 0, f 2 1, f 2 2, f 2 3])] ∧ ∀ j k, ib (f j k) ≤ 100
theorem V4_of {ws : List D} (hl : ws.length = 4) (h : ∀ v ∈ ws, V1 v) : V4 (.lst ws) := by
  match ws, hl with
  | [a, b, c, d], _ =>
    obtain ⟨x0, rfl, y0⟩ := h a (by simp)
    obtain ⟨x1, rfl, y1⟩ := h b (by simp)
    obtain ⟨x2, rfl, y2⟩ := h c (by simp)
    obtain ⟨x3, rfl, y3⟩ := h d (by simp)
    refine ⟨fun k => match k with
      | 0 => x0
      | 1 => x1
      | 2 => x2
      | _ => x3, rfl, fun k => ?_⟩
    match k with
    | 0 => exact y0
    | 1 => exact y1
    | 2 => exact y2
    | _ + 3 => exact y3
theorem V34_of {ws : List D} (hl : ws.length = 3) (h : ∀ v ∈ ws, V4 v) : V34 (.lst ws) := by
  match ws, hl with
  | [a, b, c], _ =>
    obtain ⟨f0, rfl, y0⟩ := h a (by simp)
    obtain ⟨f1, rfl, y1⟩ := h b (by simp)
    obtain ⟨f2, rfl, y2⟩ := h c (by simp)
    refine ⟨fun j => match j with
      | 0 => f0
      | 1 => f1
      | _ => f2, rfl, fun j k => ?_⟩
    show ib ((match j with
      | 0 => f0
      | 1 => f1
      | _ => f2) k) ≤ 100
    split
    · exact y0 k
    · exact y1 k
    · exact y2 k
def rowsD (m : Nat → Nat → Nat → Int) : List D := [rowD D.lst D.lst m 0, rowD D.lst D.lst m 1, rowD D.lst D.lst m 2]
def BM (n : Nat) (m : Nat → Nat → Nat → Int) : Prop := ∀ i j k, ib (m i j k) ≤ n
theorem V333_of {ws : List D} (hl : ws.length = 3) (h : ∀ v ∈ ws, V34 v) : ∃ m, ws = rowsD m ∧ BM 100 m := by
  match ws, hl with
  | [a, b, c], _ =>
    obtain ⟨f0, rfl, y0⟩ := h a (by simp)
    obtain ⟨f1, rfl, y1⟩ := h b (by simp)
    obtain ⟨f2, rfl, y2⟩ := h c (by simp)
    refine ⟨fun i => match i with
      | 0 => f0
      | 1 => f1
      | _ => f2, rfl, fun i j k => ?_⟩
    show ib ((match i with
      | 0 => f0
      | 1 => f1
      | _ => f2) j k) ≤ 100
    split
    · exact y0 j k
    · exact y1 j k
    · exact y2 j k
/-- the frame of _law_matrix -/
def FR (cs : List Int) (size w : Int) (s3 s4 s5 s6 s7 s8 s9 s10 s14 : Option Sl) (s : Int × Int) : Rho := [some (.own (wl cs s.1 s.2)), some (.fz (.int size)), some (.fz (.int w)), s3, s4, s5, s6, s7, s8, s9, s10, none, none, none, s14, none, none, none]
def GS (cs : List Int) (n : Nat) (s : Int × Int) : Prop := Good n cs s.1 s.2
abbrev cellM : M D := (m2 (callD (den__law_dip e) (aS 0 (aV (m2 (m2 (ret (.int 2)) (rdV 1) dMul) (ret (.int 1)) dAdd) (aNil)))) (rdV 1) dSub)
abbrev formM : M OO := (lcM (rngM1 (aV (ret (.int 4)) (aNil))) (tgN 14) (yesM) (cellM e) [14])
abbrev rowM : M OO := (lcM (rngM1 (aV (ret (.int 3)) (aNil))) (tgN 10) (yesM) (fzM (formM e)) [10])
abbrev rowsM : M OO := lcM (rngM1 (aV (ret (.int 3)) (aNil))) (tgN 5) (yesM) (fzM (rowM e)) [5]
theorem cell_eq {cs : List Int} {size w : Int} (h0 : 1 ≤ size) (h1 : size ≤ 10 ^ 29) (s5 s10 : Option Sl) (n : Nat) (s : Int × Int) (d : D) (hn : n ≤ 1000) (g : GS cs n s) :
    ∃ ρ1 v ρ2 s', tgN 14 d (FR cs size w none none s5 none none none none s10 none s) = some ρ1 ∧ cellM e ρ1 = .ok v ρ2 ∧ wipeR ρ2 [14] = FR cs size w none none s5 none none none none s10 none s' ∧ GS cs (n + 1) s' ∧ V1 v := by
  have bs : ib size ≤ 97 := ib_small (by
    have : size.natAbs ≤ 10 ^ 29 := by omega
    have : (10 : Nat) ^ 29 < 2 ^ 97 := by decide
    omega)
  have bm : ib (2 * size) ≤ 99 := intBits_mul_le (m := 2) (by decide) bs
  have bm1 : ib (2 * size + 1) ≤ 100 := Nat.le_trans (intBits_add_le bm (n := 1) (by decide)) (by decide)
  obtain ⟨v, a', r', e1, e2, e3⟩ := dip_eq e g hn (many := 2 * size + 1) (by omega) (Nat.le_trans bm1 (by decide))
  refine ⟨_, .int (v - size), FR cs size w none none s5 none none none none s10 (some (.fz d)) (a', r'), (a', r'), rfl, ?_, rfl, e3, v - size, rfl, ?_⟩
  · exact m2_ok (call_s (k := 0) (o := wl cs a' r') rfl (m2_ok (m2_ok rfl rfl (mul_ok (mul_bits (m := 2) (by decide) bs))) rfl rfl) e1) rfl rfl
  · exact intBits_le_of_natAbs (y := 2 * size + 1) (by omega) bm1
theorem form_eq {cs : List Int} {size w : Int} (h0 : 1 ≤ size) (h1 : size ≤ 10 ^ 29) (s5 : Option D) (n : Nat) (s : Int × Int) (d : D) (hn : n ≤ 900) (g : GS cs n s) :
    ∃ ρ1 v ρ2 s', tgN 10 d (FR cs size w none none (s5.map Sl.fz) none none none none none none s) = some ρ1 ∧ fzM (formM e) ρ1 = .ok v ρ2 ∧ wipeR ρ2 [10] = FR cs size w none none (s5.map Sl.fz) none none none none none none s' ∧ GS cs (n + 4) s' ∧ V4 v := by
  obtain ⟨ws, s', e1, e2, e3, e4⟩ := lcM_st (it := rngM1 (aV (ret (.int 4)) (aNil))) (t := tgN 14) (elt := cellM e) (vs := [14]) (ds := rngD 0 1 4) (ρ0 := FR cs size w none none (s5.map Sl.fz) none none none none (some (.fz d)) none s)
    (FR cs size w none none (s5.map Sl.fz) none none none none (some (.fz d)) none) (FR cs size w none none (s5.map Sl.fz) none none none none (some (.fz d)) none) (GS cs) V1 1 1000 (n := n) (s := s) (rng1_ok (as1 rfl) (by decide)) (by decide) rfl rfl (fun s' => rfl) (by show n + 1 * 4 ≤ 1000; omega) g (cell_eq e h0 h1 (s5.map Sl.fz) (some (.fz d)))
  exact ⟨_, _, _, s', rfl, fz_ok e1, rfl, e2, V4_of e3 e4⟩
theorem row_eq {cs : List Int} {size w : Int} (h0 : 1 ≤ size) (h1 : size ≤ 10 ^ 29) (n : Nat) (s : Int × Int) (d : D) (hn : n ≤ 800) (g : GS cs n s) :
    ∃ ρ1 v ρ2 s', tgN 5 d (FR cs size w none none none none none none none none none s) = some ρ1 ∧ fzM (rowM e) ρ1 = .ok v ρ2 ∧ wipeR ρ2 [5] = FR cs size w none none none none none none none none none s' ∧ GS cs (n + 12) s' ∧ V34 v := by
  obtain ⟨ws, s', e1, e2, e3, e4⟩ := lcM_st (it := rngM1 (aV (ret (.int 3)) (aNil))) (t := tgN 10) (elt := fzM (formM e)) (vs := [10]) (ds := rngD 0 1 3) (ρ0 := FR cs size w none none (some (.fz d)) none none none none none none s)
    (FR cs size w none none (some (.fz d)) none none none none none none) (FR cs size w none none (some (.fz d)) none none none none none none) (GS cs) V4 4 900 (n := n) (s := s) (rng1_ok (as1 rfl) (by decide)) (by decide) rfl rfl (fun s' => rfl) (by show n + 4 * 3 ≤ 900; omega) g (form_eq e h0 h1 (some d))
  exact ⟨_, _, _, s', rfl, fz_ok e1, rfl, e2, V34_of e3 e4⟩
theorem rows_eq {cs : List Int} {size w : Int} (h0 : 1 ≤ size) (h1 : size ≤ 10 ^ 29) {n : Nat} {s : Int × Int} (hn : n ≤ 700) (g : GS cs n s) :
    ∃ m s', rowsM e (FR cs size w none none none none none none none none none s) = .ok (.lst (rowsD m)) (FR cs size w none none none none none none none none none s') ∧ GS cs (n + 36) s' ∧ BM 100 m := by
  obtain ⟨ws, s', e1, e2, e3, e4⟩ := lcM_st (it := rngM1 (aV (ret (.int 3)) (aNil))) (t := tgN 5) (elt := fzM (rowM e)) (vs := [5]) (ds := rngD 0 1 3) (ρ0 := FR cs size w none none none none none none none none none s)
    (FR cs size w none none none none none none none none none) (FR cs size w none none none none none none none none none) (GS cs) V34 12 800 (n := n) (s := s) (rng1_ok (as1 rfl) (by decide)) (by decide) rfl rfl (fun s' => rfl) (by show n + 12 * 3 ≤ 800; omega) g (row_eq e h0 h1)
  obtain ⟨m, rfl, hm⟩ := V333_of e3 e4
  exact ⟨m, s', e1, e2, hm⟩
end K75

set_option Elab.async false
set_option linter.all false
set_option maxRecDepth 100000
set_option maxHeartbeats 400000
/-! P11: the ways of the matrix that the law draws. -/
namespace K75
open PySem PySem.Spec PyProof.Rows L2 Dn
variable (e : Str → Addr)
theorem Good.mono {N M : Nat} {cs : List Int} {a r : Int} (g : Good N cs a r) (h : N ≤ M) : Good M cs a r := ⟨g.len, g.cell, g.a0, by have := g.a1; omega, g.r0, g.r1⟩
abbrev L' (m : Nat → Nat → Nat → Int) (x0 x1 x2 x3 : Int) (i j : Nat) : Int := linV (Fm m i j) x0 x1 x2 x3
def Deg (m : Nat → Nat → Nat → Int) : Prop := ∀ x0 x1 x2 x3 : Int, detI [L' m x0 x1 x2 x3 0 0, L' m x0 x1 x2 x3 0 1, L' m x0 x1 x2 x3 0 2] [L' m x0 x1 x2 x3 1 0, L' m x0 x1 x2 x3 1 1, L' m x0 x1 x2 x3 1 2] [L' m x0 x1 x2 x3 2 0, L' m x0 x1 x2 x3 2 1, L' m x0 x1 x2 x3 2 2] = 0
def mW0 (m : Nat → Nat → Nat → Int) (p q : Int) : Nat → Nat → Nat → Int := fun i j k => match i with
  | 0 => m 0 j k
  | 1 => m 1 j k
  | _ => p * m 0 j k + q * m 1 j k
def mW1 (m : Nat → Nat → Nat → Int) : Nat → Nat → Nat → Int := fun i j k => match j with
  | 0 => m i 0 k
  | 1 => -m i 2 k
  | _ => m i 2 k
def mW2 (m : Nat → Nat → Nat → Int) : Nat → Nat → Nat → Int := fun i j k => if i = j then m i j k else 0
def mW3 (m : Nat → Nat → Nat → Int) : Nat → Nat → Nat → Int := fun i j k => match i, j with
  | 0, 0 => 0
  | 0, 1 => m 0 2 k
  | 0, _ => -m 0 1 k
  | 1, 0 => -m 0 2 k
  | 1, 1 => 0
  | 1, _ => m 0 0 k
  | _, 0 => m 0 1 k
  | _, 1 => -m 0 0 k
  | _, _ => 0
theorem deg0 {m : Nat → Nat → Nat → Int} {p q : Int} : Deg (mW0 m p q) := fun x0 x1 x2 x3 => by
  have h : ∀ j : Nat, L' (mW0 m p q) x0 x1 x2 x3 2 j = p * L' (mW0 m p q) x0 x1 x2 x3 0 j + q * L' (mW0 m p q) x0 x1 x2 x3 1 j := by
    intro j
    simp only [L', Fm, linV, mW0]
    grind
  simp only [h]
  generalize L' (mW0 m p q) x0 x1 x2 x3 0 0 = a
  generalize L' (mW0 m p q) x0 x1 x2 x3 0 1 = b
  generalize L' (mW0 m p q) x0 x1 x2 x3 0 2 = c
  generalize L' (mW0 m p q) x0 x1 x2 x3 1 0 = d
  generalize L' (mW0 m p q) x0 x1 x2 x3 1 1 = f
  generalize L' (mW0 m p q) x0 x1 x2 x3 1 2 = g
  unfold detI
  grind
theorem deg1 {m : Nat → Nat → Nat → Int} : Deg (mW1 m) := fun x0 x1 x2 x3 => by
  have h : ∀ i : Nat, L' (mW1 m) x0 x1 x2 x3 i 1 = - L' (mW1 m) x0 x1 x2 x3 i 2 := by
    intro j
    simp only [L', Fm, linV, mW1]
    grind
  simp only [h]
  generalize L' (mW1 m) x0 x1 x2 x3 0 0 = a
  generalize L' (mW1 m) x0 x1 x2 x3 0 2 = c
  generalize L' (mW1 m) x0 x1 x2 x3 1 0 = d
  generalize L' (mW1 m) x0 x1 x2 x3 1 2 = g
  generalize L' (mW1 m) x0 x1 x2 x3 2 0 = f
  generalize L' (mW1 m) x0 x1 x2 x3 2 2 = b
  unfold detI
  grind
theorem deg3 {m : Nat → Nat → Nat → Int} : Deg (mW3 m) := fun x0 x1 x2 x3 => by
  have h00 : L' (mW3 m) x0 x1 x2 x3 0 0 = 0 := by simp only [L', Fm, linV, mW3]; grind
  have h11 : L' (mW3 m) x0 x1 x2 x3 1 1 = 0 := by simp only [L', Fm, linV, mW3]; grind
  have h22 : L' (mW3 m) x0 x1 x2 x3 2 2 = 0 := by simp only [L', Fm, linV, mW3]; grind
  have h01 : L' (mW3 m) x0 x1 x2 x3 0 1 = - L' (mW3 m) x0 x1 x2 x3 1 0 := by simp only [L', Fm, linV, mW3]; grind
  have h02 : L' (mW3 m) x0 x1 x2 x3 0 2 = - L' (mW3 m) x0 x1 x2 x3 2 0 := by simp only [L', Fm, linV, mW3]; grind
  have h12 : L' (mW3 m) x0 x1 x2 x3 1 2 = - L' (mW3 m) x0 x1 x2 x3 2 1 := by simp only [L', Fm, linV, mW3]; grind
  simp only [h00, h11, h22, h01, h02, h12]
  generalize L' (mW3 m) x0 x1 x2 x3 1 0 = a
  generalize L' (mW3 m) x0 x1 x2 x3 2 0 = b
  generalize L' (mW3 m) x0 x1 x2 x3 2 1 = c
  unfold detI
  grind
theorem bm0 {m : Nat → Nat → Nat → Int} {p q : Int} (h : BM 100 m) (hp : ib p ≤ 3) (hq : ib q ≤ 3) : BM 110 (mW0 m p q) := fun i j k => by
  unfold mW0
  split
  · exact Nat.le_trans (h _ _ _) (by decide)
  · exact Nat.le_trans (h _ _ _) (by decide)
  · exact Nat.le_trans (intBits_add_le (intBits_mul_le hp (h 0 j k)) (intBits_mul_le hq (h 1 j k))) (by decide)
theorem bm1 {m : Nat → Nat → Nat → Int} (h : BM 100 m) : BM 110 (mW1 m) := fun i j k => by
  unfold mW1
  split
  · exact Nat.le_trans (h _ _ _) (by decide)
  · exact intBits_neg_le (Nat.le_trans (h _ _ _) (by decide))
  · exact Nat.le_trans (h _ _ _) (by decide)
theorem bm2 {m : Nat → Nat → Nat → Int} (h : BM 100 m) : BM 110 (mW2 m) := fun i j k => by
  unfold mW2
  split
  · exact Nat.le_trans (h _ _ _) (by decide)
  · decide
theorem bm3 {m : Nat → Nat → Nat → Int} (h : BM 100 m) : BM 110 (mW3 m) := fun i j k => by
  have h' : ∀ i j k, ib (m i j k) ≤ 110 := fun i j k => Nat.le_trans (h i j k) (by decide)
  unfold mW3
  split <;> first | decide | exact h' _ _ _ | exact intBits_neg_le (h' _ _ _)
/-! ### the statements -/
abbrev own3 (m : Nat → Nat → Nat → Int) : Option Sl := some (.own (.lst (rowsD m)))
abbrev w0B : M Fl := (seqM (asgM 4 (fzM (lstM (aV (m2 (callD (den__law_dip e) (aS 0 (aV (ret (.int 5)) (aNil)))) (ret (.int 2)) dSub) (aV (m2 (callD (den__law_dip e) (aS 0 (aV (ret (.int 5)) (aNil)))) (ret (.int 2)) dSub) (aNil)))))) (stM 3 (fzM (lcM (zipM (aV (mIxO 3 (ret (.int 0))) (aV (mIxO 3 (ret (.int 1))) (aNil)))) (tgT 2 (tgsCons (tgN 11) (tgsCons (tgN 12) (tgsNil)))) (yesM) (fzM (lcM (zipM (aV (rdV 11) (aV (rdV 12) (aNil)))) (tgT 2 (tgsCons (tgN 15) (tgsCons (tgN 16) (tgsNil)))) (yesM) (m2 (m2 (m2 (rdV 4) (ret (.int 0)) dIx) (rdV 15) dMul) (m2 (m2 (rdV 4) (ret (.int 1)) dIx) (rdV 16) dMul) dAdd) [15, 16])) [11, 12])) (ret (.int 2))))
theorem w0_eq {cs : List Int} {size w : Int} {m : Nat → Nat → Nat → Int} {n : Nat} {s : Int × Int} (hn : n ≤ 900) (g : GS cs n s) (hm : BM 100 m) :
    ∃ p q s' s4, w0B e (FR cs size w (own3 m) none none none none none none none none s) = .ok .nx (FR cs size w (own3 (mW0 m p q)) s4 none none none none none none none s') ∧ GS cs (n + 2) s' ∧ BM 110 (mW0 m p q) := by
  obtain ⟨v1, a1, r1, e1, b1, g1⟩ := dip_eq e g (by omega) (many := 5) (by decide) (by decide)
  obtain ⟨v2, a2, r2, e2, b2, g2⟩ := dip_eq e g1 (by omega) (many := 5) (by decide) (by decide)
  have c1 : ib (v1 - 2) ≤ 3 := ib_small (by omega)
  have c2 : ib (v2 - 2) ≤ 3 := ib_small (by omega)
  refine ⟨v1 - 2, v2 - 2, (a2, r2), some (.fz (.lst [.int (v1 - 2), .int (v2 - 2)])), ?_, g2, bm0 hm c1 c2⟩
  refine seq2 (asg2 (fz_ok (lst_ok (as_cons (m2_ok (call_s (k := 0) rfl rfl e1) rfl rfl) (as1 (m2_ok (call_s (k := 0) rfl rfl e2) rfl rfl))))) rfl) ?_
  refine st_ok (ds := rowsD m) (n := 2) (d := rowD D.lst D.lst (mW0 m (v1 - 2) (v2 - 2)) 2) (fz_ok (lcM_map (fun j => .tup [.lst (iL (Fm m 0 j)), .lst (iL (Fm m 1 j))]) (fun j => .lst (iL (Fm (mW0 m (v1 - 2) (v2 - 2)) 2 j))) [0, 1, 2] (zip_ok (d := rowD D.lst D.lst m 0) (e := rowD D.lst D.lst m 1) (as_cons rfl (as1 rfl)) rfl rfl) rfl (by simp [szOk]) rfl rfl fun j hj => ⟨_, rfl, fz_ok (lcM_map (fun p : Int × Int => .tup [.int p.1, .int p.2]) (fun p => .int ((v1 - 2) * p.1 + (v2 - 2) * p.2)) ((Fm m 0 j).zip (Fm m 1 j)) (zip_ok (d := .lst (iL (Fm m 0 j))) (e := .lst (iL (Fm m 1 j))) (as_cons rfl (as1 rfl)) rfl rfl) (zipD_map D.int D.int _ _) (by simp [szOk, Fm]) rfl rfl fun p hp => ⟨_, rfl, ?_, rfl⟩), rfl⟩)) rfl rfl rfl rfl
  have hb : ∀ i, Bd 100 (Fm m i j) := fun i c hc => by
    simp only [Fm, List.mem_cons, List.not_mem_nil, or_false] at hc
    rcases hc with rfl | rfl | rfl | rfl <;> exact hm _ _ _
  exact m2_ok (m2_ok (m2_ok rfl rfl rfl) rfl (mul_ok (mul_bits c1 (hb 0 p.1 (List.of_mem_zip hp).1)))) (m2_ok (m2_ok rfl rfl rfl) rfl (mul_ok (mul_bits c2 (hb 1 p.2 (List.of_mem_zip hp).2)))) rfl
theorem w1_eq {cs : List Int} {size w : Int} {m : Nat → Nat → Nat → Int} {s : Int × Int} : (seqM (negM 3 5 14) nextM) (FR cs size w (own3 m) none none none none none none none none s) = .ok .nx (FR cs size w (own3 (mW1 m)) none (some (.fz (rowD D.lst D.lst (mW1 m) 2))) none none none none none none s) := by
  refine seq2 (ρ1 := FR cs size w (own3 (mW1 m)) none (some (.fz (rowD D.lst D.lst (mW1 m) 2))) none none none none none none s) ?_ rfl
  unfold negM
  rw [show ownLst (FR cs size w (own3 m) none none none none none none none none s) 3 = some (rowsD m) from rfl]
  dsimp only
  rw [show negAll (rowsD m) = some (rowsD (mW1 m)) from rfl]
  dsimp only
  have fl : flaS (.own (wl cs s.1 s.2)) = true := by
    show (((iL cs).all scaD) && (true && (true && true))) = true
    rw [ints_scaD]
    rfl
  have nf : negFlat (FR cs size w (own3 m) none none none none none none none none s) 3 5 = true := by
    refine List.all_eq_true.mpr fun i hi => ?_
    have hi : i < 18 := List.mem_range.mp hi
    match i with
    | 0 => exact fl
    | 1 | 2 | 3 | 4 | 5 | 6 | 7 | 8 | 9 | 10 | 11 | 12 | 13 | 14 | 15 | 16 | 17 => rfl
    | n + 18 => omega
  rw [if_pos ⟨nf, rfl, rfl, ⟨show 5 < 18 by decide, show 14 < 18 by decide⟩, by decide, by decide, by decide⟩]
  rfl
abbrev w2B : M Fl := (asgN 3 (lcM (enumM (aV (rdV 3) (aNil))) (tgT 2 (tgsCons (tgN 13) (tgsCons (tgN 5) (tgsNil)))) (yesM) (fzM (lcM (enumM (aV (rdV 5) (aNil))) (tgT 2 (tgsCons (tgN 17) (tgsCons (tgN 10) (tgsNil)))) (yesM) (ifM (mB (m2 (rdV 13) (rdV 17) dEq)) (rdV 10) (fzM (lstM (aV (ret (.int 0)) (aV (ret (.int 0)) (aV (ret (.int 0)) (aV (ret (.int 0)) (aNil)))))))) [17, 10])) [13, 5]))
theorem enum_ok {ρ ρ1 : Rho} {ra : M (List Pa)} {d : D} {xs : List D} (h : mAs ra ρ = .ok [d] ρ1) (h1 : items d = some xs) : enumM ra ρ = .ok (enumD 0 xs) ρ1 := by
  unfold enumM
  rw [bind_ok h]
  show lift ((items d).map fun xs => enumD 0 xs) ρ1 = _
  rw [h1]
  rfl
theorem w2_eq {cs : List Int} {size w : Int} {m : Nat → Nat → Nat → Int} {s : Int × Int} : w2B (FR cs size w (own3 m) none none none none none none none none s) = .ok .nx (FR cs size w (own3 (mW2 m)) none none none none none none none none s) := by
  have main : lcM (enumM (aV (rdV 3) (aNil))) (tgT 2 (tgsCons (tgN 13) (tgsCons (tgN 5) (tgsNil)))) (yesM) (fzM (lcM (enumM (aV (rdV 5) (aNil))) (tgT 2 (tgsCons (tgN 17) (tgsCons (tgN 10) (tgsNil)))) (yesM) (ifM (mB (m2 (rdV 13) (rdV 17) dEq)) (rdV 10) (fzM (lstM (aV (ret (.int 0)) (aV (ret (.int 0)) (aV (ret (.int 0)) (aV (ret (.int 0)) (aNil)))))))) [17, 10])) [13, 5] (FR cs size w (own3 m) none none none none none none none none s) =
      .ok (.lst ([0, 1, 2].map fun i => D.lst ([0, 1, 2].map fun j => if ((i : Nat) : Int) = ((j : Nat) : Int) then D.lst (iL (Fm m i j)) else D.lst [.int 0, .int 0, .int 0, .int 0]))) (FR cs size w (some (.fz (.lst (rowsD m)))) none none none none none none none none s) := by
    refine lcM_map (fun i : Nat => .tup [.int (i : Nat), rowD D.lst D.lst m i]) _ [0, 1, 2] (enum_ok (d := .lst (rowsD m)) (as1 rfl) rfl) rfl (by simp [szOk]) rfl rfl fun i hi => ⟨_, rfl, ?_, rfl⟩
    refine fz_ok (lcM_map (fun j : Nat => .tup [.int (j : Nat), .lst (iL (Fm m i j))]) _ [0, 1, 2] (enum_ok (d := rowD D.lst D.lst m i) (as1 rfl) rfl) rfl (by simp [szOk]) rfl rfl fun j hj => ⟨_, rfl, ?_, rfl⟩)
    by_cases hc : ((i : Nat) : Int) = ((j : Nat) : Int)
    · rw [if_pos hc]
      refine ifMt2 (mB_ok (m2_ok rfl rfl (z := .bl true) ?_)) rfl
      rw [dEq_int, decide_eq_true hc]
    · rw [if_neg hc]
      refine ifMf2 (mB_ok (m2_ok rfl rfl (z := .bl false) ?_)) rfl
      rw [dEq_int, decide_eq_false hc]
  exact (asgN_ok main).trans rfl
abbrev w3B : M Fl := (seqM (tgS (tgT 3 (tgsCons (tgN 6) (tgsCons (tgN 7) (tgsCons (tgN 8) (tgsNil))))) (mIxO 3 (ret (.int 0)))) (seqM (asgM 9 (fzM (lstM (aV (ret (.int 0)) (aV (ret (.int 0)) (aV (ret (.int 0)) (aV (ret (.int 0)) (aNil)))))))) (asgN 3 (lstM (aV (fzM (lstM (aV (rdV 9) (aV (rdV 8) (aV (fzM (lcM (itM (rdV 7)) (tgN 14) (yesM) (m1 (rdV 14) dNeg) [14])) (aNil)))))) (aV (fzM (lstM (aV (fzM (lcM (itM (rdV 8)) (tgN 14) (yesM) (m1 (rdV 14) dNeg) [14])) (aV (rdV 9) (aV (rdV 6) (aNil)))))) (aV (fzM (lstM (aV (rdV 7) (aV (fzM (lcM (itM (rdV 6)) (tgN 14) (yesM) (m1 (rdV 14) dNeg) [14])) (aV (rdV 9) (aNil)))))) (aNil))))))))
theorem w3_eq {cs : List Int} {size w : Int} {m : Nat → Nat → Nat → Int} {s : Int × Int} : ∃ s6 s7 s8 s9, w3B (FR cs size w (own3 m) none none none none none none none none s) = .ok .nx (FR cs size w (own3 (mW3 m)) none none s6 s7 s8 s9 none none s) := by
  let ρ : Rho := FR cs size w (own3 m) none none (some (.fz (.lst (iL (Fm m 0 0))))) (some (.fz (.lst (iL (Fm m 0 1))))) (some (.fz (.lst (iL (Fm m 0 2))))) (some (.fz (.lst [.int 0, .int 0, .int 0, .int 0]))) none none s
  have ng : ∀ (k j : Nat), rdV k ρ = .ok (.lst (iL (Fm m 0 j))) ρ → fzM (lcM (itM (rdV k)) (tgN 14) (yesM) (m1 (rdV 14) dNeg) [14]) ρ = .ok (.lst [.int (-m 0 j 0), .int (-m 0 j 1), .int (-m 0 j 2), .int (-m 0 j 3)]) ρ := fun k j h =>
    fz_ok (lcM_map D.int (fun x => .int (-x)) (Fm m 0 j) (it_ok h rfl) rfl (by simp [szOk, Fm]) rfl rfl fun x hx => ⟨_, rfl, m1_ok rfl rfl, rfl⟩)
  refine ⟨some (.fz (.lst (iL (Fm m 0 0)))), some (.fz (.lst (iL (Fm m 0 1)))), some (.fz (.lst (iL (Fm m 0 2)))), some (.fz (.lst [.int 0, .int 0, .int 0, .int 0])), ?_⟩
  refine seq2 (ρ1 := FR cs size w (own3 m) none none (some (.fz (.lst (iL (Fm m 0 0))))) (some (.fz (.lst (iL (Fm m 0 1))))) (some (.fz (.lst (iL (Fm m 0 2))))) none none none s) (tgS_ok (d := rowD D.lst D.lst m 0) rfl rfl) ?_
  refine seq2 (ρ1 := ρ) (asg2 (fz_ok (lst_ok (as_cons rfl (as_cons rfl (as_cons rfl (as1 rfl)))))) rfl) ?_
  exact asgN2 (lst_ok (as_cons (fz_ok (lst_ok (as_cons (ρ1 := ρ) rfl (as_cons (ρ1 := ρ) rfl (as1 (ng 7 1 rfl)))))) (as_cons (fz_ok (lst_ok (as_cons (ng 8 2 rfl) (as_cons (ρ1 := ρ) rfl (as1 (ρ1 := ρ) rfl))))) (as1 (fz_ok (lst_ok (as_cons (ρ1 := ρ) rfl (as_cons (ng 6 0 rfl) (as1 (ρ1 := ρ) rfl))))))))) rfl
end K75

set_option Elab.async false
set_option linter.all false
set_option maxRecDepth 100000
set_option maxHeartbeats 400000
/-! P12: the matrix that the law draws. -/
namespace K75
open PySem PySem.Spec PyProof.Rows L2 Dn
variable (e : Str → Addr)
theorem w_if {ρ : Rho} {w k : Int} {X : M Fl} {r : Rs Fl} (h2 : ρ[2]? = some (some (.fz (.int w)))) (hc : w = k) (h : X ρ = r) : ifS (mB (m2 (rdV 2) (ret (.int k)) dEq)) X nextM ρ = r := by
  refine ift2 (mB_ok (m2_ok (x := .int w) (y := .int k) (ρ1 := ρ) ?_ rfl (by rw [dEq_int, decide_eq_true hc]))) h
  unfold rdV
  rw [h2]
theorem w_no {ρ : Rho} {w k : Int} {X : M Fl} (h2 : ρ[2]? = some (some (.fz (.int w)))) (hc : w ≠ k) : ifS (mB (m2 (rdV 2) (ret (.int k)) dEq)) X nextM ρ = .ok .nx ρ := by
  refine iff2 (mB_ok (m2_ok (x := .int w) (y := .int k) (ρ1 := ρ) ?_ rfl (by rw [dEq_int, decide_eq_false hc]))) rfl
  unfold rdV
  rw [h2]
abbrev endB : M Fl := (seqM (retM (tupM (aV (rdV 3) (aV (m2 (rdV 2) (tupM (aV (ret (.int 0)) (aV (ret (.int 1)) (aV (ret (.int 3)) (aNil))))) dIn) (aNil))))) (nextM))
def zW (w : Int) : Bool := decide (w = 0) || decide (w = 1) || decide (w = 3)
theorem end_eq {cs : List Int} {size w : Int} {m : Nat → Nat → Nat → Int} {s4 s5 s6 s7 s8 s9 : Option Sl} {s : Int × Int} (hw : w = 0 ∨ w = 1 ∨ w = 2 ∨ w = 3 ∨ w = 4 ∨ w = 5 ∨ w = 6) :
    endB (FR cs size w (own3 m) s4 s5 s6 s7 s8 s9 none none s) = .ok (.rt (.tup [matD D.lst D.lst D.lst m, .bl (zW w)])) (FR cs size w (some (.fz (.lst (rowsD m)))) s4 s5 s6 s7 s8 s9 none none s) := by
  refine seqrt2 (ret2 (tup_ok (as_cons (d := .lst (rowsD m)) (ρ1 := FR cs size w (some (.fz (.lst (rowsD m)))) s4 s5 s6 s7 s8 s9 none none s) rfl (as1 (d := .bl (zW w)) (ρ1 := FR cs size w (some (.fz (.lst (rowsD m)))) s4 s5 s6 s7 s8 s9 none none s) (m2_ok (x := .int w) rfl (tup_ok (as_cons rfl (as_cons rfl (as1 rfl)))) ?_)))) rfl) rfl
  rcases hw with rfl | rfl | rfl | rfl | rfl | rfl | rfl <;> rfl
theorem matrix_eq {N : Nat} {cs : List Int} {a r : Int} (g : Good N cs a r) (hN : N ≤ 600) :
    ∃ m z a' r', den__law_matrix e [.own (wl cs a r)] = .ok (.rt (.tup [matD D.lst D.lst D.lst m, .bl z])) [some (wl cs a' r')] ∧ Good (N + 50) cs a' r' ∧ BM 110 m ∧ (z = true → Deg m) := by
  obtain ⟨size, hsz, a1, r1, e1, g1⟩ := pick_eq e (zs := [1, 2, 9, 10 ^ 9, 10 ^ 29]) g (by omega) (by decide) (by decide)
  obtain ⟨w, a2, r2, e2, b2, g2⟩ := dip_eq e g1 (by omega) (many := 7) (by decide) (by decide)
  have hw : w = 0 ∨ w = 1 ∨ w = 2 ∨ w = 3 ∨ w = 4 ∨ w = 5 ∨ w = 6 := by omega
  have hs1 : 1 ≤ size ∧ size ≤ 10 ^ 29 := by
    simp only [List.mem_cons, List.not_mem_nil, or_false] at hsz
    rcases hsz with rfl | rfl | rfl | rfl | rfl <;> decide
  obtain ⟨m, s, e3, g3, hm⟩ := rows_eq e (w := w) hs1.1 hs1.2 (n := N + 1 + 1) (s := (a2, r2)) (by omega) g2
  have wrap : ∀ {m' : Nat → Nat → Nat → Int} {z : Bool} {s' : Int × Int} {ρ' : Rho}, m__law_matrix e [some (.own (wl cs a r)), none, none, none, none, none, none, none, none, none, none, none, none, none, none, none, none, none] = .ok (.rt (.tup [matD D.lst D.lst D.lst m', .bl z])) ρ' → ends [true] ρ' = some [some (wl cs s'.1 s'.2)] → den__law_matrix e [.own (wl cs a r)] = .ok (.rt (.tup [matD D.lst D.lst D.lst m', .bl z])) [some (wl cs s'.1 s'.2)] := by
    intro m' z s' ρ' h1 h2
    have : cellDen (fnDen [true] 18 (m__law_matrix e)) [.own (wl cs a r)] = fnDen [true] 18 (m__law_matrix e) [.own (wl cs a r)] := by
      show (match ints? (iL cs) with
        | some _ => fnDen [true] 18 (m__law_matrix e) [.own (wl cs a r)]
        | none => .no) = _
      rw [ints?_map]
    refine Eq.trans this ?_
    exact fn_rt rfl h1 h2
  have head : ∀ {res : Rs Fl} {rest : M Fl}, rest (FR cs size w (own3 m) none none none none none none none none s) = res → seqM (tgS (tgT 2 (tgsCons (tgN 1) (tgsCons (tgN 2) (tgsNil)))) (tupM (aV (callD (den__law_pick e) (aS 0 (aV (fzM (lstM (aV (ret (.int 1)) (aV (ret (.int 2)) (aV (ret (.int 9)) (aV (m2 (ret (.int 10)) (ret (.int 9)) dPow) (aV (m2 (ret (.int 10)) (ret (.int 29)) dPow) (aNil)))))))) (aNil)))) (aV (callD (den__law_dip e) (aS 0 (aV (ret (.int 7)) (aNil)))) (aNil))))) (seqM (asgN 3 (rowsM e)) rest) [some (.own (wl cs a r)), none, none, none, none, none, none, none, none, none, none, none, none, none, none, none, none, none] = res := by
    intro res rest h
    refine seq2 (ρ1 := FR cs size w none none none none none none none none none (a2, r2)) (tgS_ok (tup_ok (as_cons (call_s (k := 0) (o := wl cs a1 r1) rfl (fz_ok (lst_ok (as_cons rfl (as_cons rfl (as_cons rfl (as_cons (m2_ok rfl rfl (pow_ok (n := 9) (m := 4) (by decide) (by decide))) (as1 (m2_ok rfl rfl (pow_ok (n := 29) (m := 4) (by decide) (by decide)))))))))) e1) (as1 (call_s (k := 0) (o := wl cs a2 r2) rfl rfl e2)))) rfl) ?_
    exact seq2 (asgN2 e3 rfl) h
  have bm : BM 110 m := fun i j k => Nat.le_trans (hm i j k) (by decide)
  have no : ∀ {k : Int}, w ≠ k → ∀ {X : M Fl} {s3 s4 s5 s6 s7 s8 s9 : Option Sl} {s' : Int × Int}, ifS (mB (m2 (rdV 2) (ret (.int k)) dEq)) X nextM (FR cs size w s3 s4 s5 s6 s7 s8 s9 none none s') = .ok .nx (FR cs size w s3 s4 s5 s6 s7 s8 s9 none none s') := fun h => w_no rfl h
  by_cases h0 : w = 0
  · obtain ⟨p, q, s', s4, e4, g4, bm'⟩ := w0_eq e (size := size) (w := w) (m := m) (n := N + 1 + 1 + 36) (s := s) (by omega) g3 hm
    refine ⟨mW0 m p q, zW w, s'.1, s'.2, ?_, Good.mono g4 (by omega), bm', fun _ => deg0⟩
    refine wrap (s' := s') (head (seq2 (w_if rfl h0 e4) (seq2 (no (by omega)) (seq2 (no (by omega)) (seq2 (no (by omega)) (end_eq hw)))))) rfl
  · by_cases h1 : w = 1
    · refine ⟨mW1 m, zW w, s.1, s.2, ?_, Good.mono g3 (by omega), bm1 hm, fun _ => deg1⟩
      refine wrap (s' := s) (head (seq2 (no h0) (seq2 (w_if rfl h1 w1_eq) (seq2 (no (by omega)) (seq2 (no (by omega)) (end_eq hw)))))) rfl
    · by_cases h2 : w = 2
      · refine ⟨mW2 m, zW w, s.1, s.2, ?_, Good.mono g3 (by omega), bm2 hm, fun z => ?_⟩
        · refine wrap (s' := s) (head (seq2 (no h0) (seq2 (no h1) (seq2 (w_if rfl h2 w2_eq) (seq2 (no (by omega)) (end_eq hw)))))) rfl
        · subst h2
          cases z
      · by_cases h3 : w = 3
        · obtain ⟨s6, s7, s8, s9, e4⟩ := w3_eq (cs := cs) (size := size) (w := w) (m := m) (s := s)
          refine ⟨mW3 m, zW w, s.1, s.2, ?_, Good.mono g3 (by omega), bm3 hm, fun _ => deg3⟩
          refine wrap (s' := s) (head (seq2 (no h0) (seq2 (no h1) (seq2 (no h2) (seq2 (w_if rfl h3 e4) (end_eq hw)))))) rfl
        · refine ⟨m, zW w, s.1, s.2, ?_, Good.mono g3 (by omega), bm, fun z => ?_⟩
          · refine wrap (s' := s) (head (seq2 (no h0) (seq2 (no h1) (seq2 (no h2) (seq2 (no h3) (end_eq hw)))))) rfl
          · unfold zW at z
            rw [decide_eq_false h0, decide_eq_false h1, decide_eq_false h3] at z
            cases z
end K75

set_option Elab.async false
set_option linter.all false
set_option maxRecDepth 100000
set_option maxHeartbeats 400000
/-! P13: what is heard, what is refused. -/
namespace K75
open PySem PySem.Spec PyProof.Rows L2 Dn
variable (e : Str → Addr)
theorem coef_zero {cs : List Int} (hl : cs.length = 20) (h : ∀ x0 x1 x2 x3 : Int, val (mono x0 x1 x2 x3) P3 cs = 0) : cs = List.replicate 20 0 := by
  match cs, hl with
  | [c0, c1, c2, c3, c4, c5, c6, c7, c8, c9, c10, c11, c12, c13, c14, c15, c16, c17, c18, c19], _ =>
  have hv : ∀ x0 x1 x2 x3 : Int, c0 * (x0 * x0 * x0) + c1 * (x0 * x0 * x1) + c2 * (x0 * x0 * x2) + c3 * (x0 * x0 * x3) + c4 * (x0 * x1 * x1) + c5 * (x0 * x1 * x2) + c6 * (x0 * x1 * x3) + c7 * (x0 * x2 * x2) + c8 * (x0 * x2 * x3) + c9 * (x0 * x3 * x3) + c10 * (x1 * x1 * x1) + c11 * (x1 * x1 * x2) + c12 * (x1 * x1 * x3) + c13 * (x1 * x2 * x2) + c14 * (x1 * x2 * x3) + c15 * (x1 * x3 * x3) + c16 * (x2 * x2 * x2) + c17 * (x2 * x2 * x3) + c18 * (x2 * x3 * x3) + c19 * (x3 * x3 * x3) = 0 := by
    intro x0 x1 x2 x3
    have := h x0 x1 x2 x3
    simp only [val, P3, pws, mono, Int.toNat_zero, Int.pow_zero, Int.toNat_one, Int.pow_one, Int.mul_one, Int.one_mul, show (2 : Int).toNat = 2 from rfl, show (3 : Int).toNat = 3 from rfl] at this
    grind
  have h1 := hv 1 0 0 0
  have h2 := hv 0 1 0 0
  have h3 := hv 0 0 1 0
  have h4 := hv 0 0 0 1
  have h5 := hv 1 1 0 0
  have h6 := hv 1 (-1) 0 0
  have h7 := hv 1 0 1 0
  have h8 := hv 1 0 (-1) 0
  have h9 := hv 1 0 0 1
  have h10 := hv 1 0 0 (-1)
  have h11 := hv 0 1 1 0
  have h12 := hv 0 1 (-1) 0
  have h13 := hv 0 1 0 1
  have h14 := hv 0 1 0 (-1)
  have h15 := hv 0 0 1 1
  have h16 := hv 0 0 1 (-1)
  have h17 := hv 1 1 1 0
  have h18 := hv 1 1 0 1
  have h19 := hv 1 0 1 1
  have h20 := hv 0 1 1 1
  clear hv h
  simp only [Int.mul_zero, Int.zero_mul, Int.mul_one, Int.add_zero, Int.zero_add, Int.mul_neg, Int.neg_neg, Int.neg_zero] at *
  have : c0 = 0 ∧ c1 = 0 ∧ c2 = 0 ∧ c3 = 0 ∧ c4 = 0 ∧ c5 = 0 ∧ c6 = 0 ∧ c7 = 0 ∧ c8 = 0 ∧ c9 = 0 ∧ c10 = 0 ∧ c11 = 0 ∧ c12 = 0 ∧ c13 = 0 ∧ c14 = 0 ∧ c15 = 0 ∧ c16 = 0 ∧ c17 = 0 ∧ c18 = 0 ∧ c19 = 0 := by omega
  obtain ⟨rfl, rfl, rfl, rfl, rfl, rfl, rfl, rfl, rfl, rfl, rfl, rfl, rfl, rfl, rfl, rfl, rfl, rfl, rfl, rfl⟩ := this
  rfl
theorem dot_lin {f : List Int} {m : Nat → Nat → Nat → Int} {i j : Nat} {x0 x1 x2 x3 : Int} : dotL (Fm m i j) [x0, x1, x2, x3] = linV (Fm m i j) x0 x1 x2 x3 := by
  simp only [dotL, Fm, linV, List.zip_cons_cons, List.zip_nil_right, List.map_cons, List.map_nil, List.sum_cons, List.sum_nil]
  omega
theorem lin_val {m : Nat → Nat → Nat → Int} {i j : Nat} {x0 x1 x2 x3 : Int} : val (mono x0 x1 x2 x3) P1 (Fm m i j) = linV (Fm m i j) x0 x1 x2 x3 := val1
theorem deg_zero {m : Nat → Nat → Nat → Int} (h : Deg m) (hl : (detL (Fm m)).length = 20) : detL (Fm m) = List.replicate 20 0 := coef_zero hl fun x0 x1 x2 x3 => by
  rw [det_val]
  simp only [lin_val]
  exact h x0 x1 x2 x3
theorem tup_ne_refl (cs : List Int) : dNe (.tup (iL cs)) (.tup (iL cs)) = some (.bl false) := by
  unfold dNe
  have : eqOk (.tup (iL cs)) (.tup (iL cs)) = true := by
    show (okDs 59 (iL cs) && okDs 59 (iL cs)) = true
    rw [okDs_ints]
    rfl
  rw [if_pos this]
  show some (D.bl (!deqs (iL cs) (iL cs))) = _
  rw [deqs_refl_ints]
  rfl
/-! ### what is heard -/
abbrev xF : Exn := ⟨e "BadForm", ["part"], [.str "matrix"]⟩
abbrev xR : Exn := ⟨e "BadRow", ["part"], [.str "place"]⟩
theorem hdl_hit {i : Nat} {x : Exn} {c : Cl} {r : List Cl} {ρ : Rho} (h : x.cls = c.C) (hi : ρ[i]? = some none) {f : Fl} {ρ' : Rho} (hm : c.ms x (ρ.set i none) = .ok f ρ') : hdl i x (c :: r) ρ = .ok f (ρ'.set i none) := by
  unfold hdl
  rw [if_pos h, hi]
  show unM i (c.ms x (ρ.set i none)) = _
  rw [hm]
  rfl
theorem hdl_on {i : Nat} {x : Exn} {c : Cl} {r : List Cl} {ρ : Rho} {q : Rs Fl} (h : x.cls ≠ c.C) (hn : x.cls ∈ c.no) (hq : hdl i x r ρ = q) : hdl i x (c :: r) ρ = q := by
  unfold hdl
  rw [if_neg h, if_pos hn]
  exact hq
theorem try_err {mb : M Fl} {i : Nat} {cs : List Cl} {ρ ρ' : Rho} {x : Exn} {q : Rs Fl} (h : mb ρ = .err x ρ') (hq : hdl i x cs ρ' = q) : tryM mb i cs ρ = q := by
  unfold tryM
  rw [h]
  exact hq
theorem try_ok {mb : M Fl} {i : Nat} {cs : List Cl} {ρ ρ' : Rho} {f : Fl} (h : mb ρ = .ok f ρ') : tryM mb i cs ρ = .ok f ρ' := by
  unfold tryM
  rw [h]
theorem drop_err {ma : M D} {x : Exn} {ρ ρ1 : Rho} (h : ma ρ = .err x ρ1) : dropM ma ρ = .err x ρ1 := bind_err h
theorem fn_err {msk : List Bool} {n : Nat} {mb : M Fl} {sls : List Sl} {x : Exn} {os : List (Option OO)} {ρ : Rho} (hk : okM msk sls = true) (hm : mb (sls.map some ++ List.replicate (n - sls.length) none) = .err x ρ) (he : ends msk ρ = some os) : fnDen msk n mb sls = .err x os := by
  unfold fnDen
  rw [if_pos hk, hm]
  show (match ends msk ρ with
    | some os => DR.err x os
    | none => .no) = _
  rw [he]
theorem matat_bad {X P : D} (h : den_need_matrix e [.fz X] = .err (xF e) [none]) : den_matrix_at e [.fz X, .fz P] = .err (xF e) [none, none] := by
  refine fn_err (ρ := [some (.fz X), some (.fz P)]) rfl ?_ rfl
  exact seq_err (drop_err (call_err (as1 rfl) h))
theorem detform_bad {X : D} (h : den_need_matrix e [.fz X] = .err (xF e) [none]) : den_determinant_form e [.fz X] = .err (xF e) [none] := by
  refine fn_err (ρ := [some (.fz X)]) rfl ?_ rfl
  exact seq_err (drop_err (call_err (as1 rfl) h))
def sayF : D := .tup [.str "form", .str "matrix"]
def sayR : D := .tup [.str "row", .str "place"]
theorem heard_bad {X P : D} (h : den_need_matrix e [.fz X] = .err (xF e) [none]) : den__law_heard e [.fz X, .fz P] = .ok (.rt (.tup [sayF, sayF])) [none, none] := by
  refine fn_rt (ρ := [some (.fz X), some (.fz P), some (.fz sayF), some (.fz sayF), none]) rfl ?_ rfl
  refine seq2 (tgS_ok (tup_ok (as_cons rfl (as1 rfl))) rfl) ?_
  refine seq2 (try_err (drop_err (call_err (as_cons rfl (as1 rfl)) (matat_bad e h))) (hdl_hit rfl rfl (asg2 (tup_ok (as_cons rfl (as1 rfl))) rfl))) ?_
  refine seq2 (try_err (drop_err (call_err (as1 rfl) (detform_bad e h))) (hdl_hit rfl rfl (asg2 (tup_ok (as_cons rfl (as1 rfl))) rfl))) ?_
  exact ret_ok (tup_ok (as_cons rfl (as1 rfl)))
section
variable {tm tr tf : List D → D} {m : Nat → Nat → Nat → Int} (h1 : LT tm) (h2 : LT tr) (h3 : LT tf) (b : BdM m)
include h1 h2 h3 b
theorem heard_row (he : e "BadRow" ≠ e "BadForm") {P : D} (h : den_is_row e [.fz P, .fz (.int 4)] = .ok (.rt (.bl false)) [none, none]) : den__law_heard e [.fz (matD tm tr tf m), .fz P] = .ok (.rt (.tup [sayR, .non])) [none, none] := by
  have hp : den_place_told e [.fz P, .fz (.str "place")] = .err (xR e) [none, none] := by
    refine fn_err (ρ := [some (.fz P), some (.fz (.str "place"))]) rfl ?_ rfl
    refine bind_err (call_err (as_cons rfl (as_cons rfl (as1 rfl))) ?_)
    refine fn_err (ρ := [some (.fz P), some (.fz (.int 4)), some (.fz (.str "place"))]) rfl ?_ rfl
    exact seq_err ((ifS_t (notM_ok (b := false) (mT_ok (call_ok (ds := [P, .int 4]) (as_cons rfl (as1 rfl)) h)))).trans rfl)
  have hm : den_matrix_at e [.fz (matD tm tr tf m), .fz P] = .err (xR e) [none, none] := by
    refine fn_err (ρ := [some (.fz (matD tm tr tf m)), some (.fz P)]) rfl ?_ rfl
    refine (seq2 (drop_ok (call_ok (as1 rfl) (need_eq e h1 h2 h3))) ?_)
    refine bind_err ?_
    have hc : callD (den_place_told e) (aV (rdV 1) (aV (ret (.str "place")) (aNil))) [some (.fz (matD tm tr tf m)), some (.fz P)] = .err (xR e) [some (.fz (matD tm tr tf m)), some (.fz P)] := call_err (as_cons rfl (as1 rfl)) hp
    unfold callD
    refine bind_err (bind_err ?_)
    unfold aV at hc ⊢
    rw [bind_ok (show rdV 0 _ = .ok _ _ from rfl)]
    exact bind_err (bind_err hc)
  refine fn_rt (ρ := [some (.fz (matD tm tr tf m)), some (.fz P), some (.fz sayR), some (.fz .non), none]) rfl ?_ rfl
  refine seq2 (tgS_ok (tup_ok (as_cons rfl (as1 rfl))) rfl) ?_
  refine seq2 (try_err (drop_err (call_err (as_cons rfl (as1 rfl)) hm)) (hdl_on he List.mem_cons_self (hdl_hit rfl rfl (asg2 (tup_ok (as_cons rfl (as1 rfl))) rfl)))) ?_
  refine seq2 (try_ok (drop_ok (call_ok (as1 rfl) (detform_eq e h1 h2 h3 b)))) ?_
  exact ret_ok (tup_ok (as_cons rfl (as1 rfl)))
theorem heard_ok {P : D} {q : List Int} (hp : den_place_told e [.fz P, .fz (.str "place")] = .ok (.rt (.tup (iL q))) [none, none]) (hq : Bd 200 q) (hl : q.length ≤ 100) : den__law_heard e [.fz (matD tm tr tf m), .fz P] = .ok (.rt (.tup [.non, .non])) [none, none] := by
  refine fn_rt (ρ := [some (.fz (matD tm tr tf m)), some (.fz P), some (.fz .non), some (.fz .non), none]) rfl ?_ rfl
  refine seq2 (tgS_ok (tup_ok (as_cons rfl (as1 rfl))) rfl) ?_
  refine seq2 (try_ok (drop_ok (call_ok (as_cons rfl (as1 rfl)) (matat_eq e h1 h2 h3 b hp hq hl)))) ?_
  refine seq2 (try_ok (drop_ok (call_ok (as1 rfl) (detform_eq e h1 h2 h3 b)))) ?_
  exact ret_ok (tup_ok (as_cons rfl (as1 rfl)))
end
end K75

set_option Elab.async false
set_option linter.all false
set_option maxRecDepth 100000
set_option maxHeartbeats 1000000
/-! P14: matrices that are none. -/
namespace K75
open PySem PySem.Spec PyProof.Rows L2 Dn
variable (e : Str → Addr)
abbrev topT : M Bool := (orM (notM (mT (callD (den_is_listed e) (aV (rdV 0) (aNil))))) (mB (m2 (mC (aV (rdV 0) (aNil)) dLen) (ret (.int 3)) dNe)))
abbrev rowT : M Bool := (orM (notM (mT (callD (den_is_listed e) (aV (rdV 1) (aNil))))) (orM (mB (m2 (mC (aV (rdV 1) (aNil)) dLen) (ret (.int 3)) dNe)) (notM (mT (mC (aV (fzM (lcM (itM (rdV 1)) (tgN 2) (yesM) (callD (den_are_integers e) (aV (rdV 2) (aV (ret (.int 4)) (aNil)))) [2])) (aNil)) dAll)))))
theorem for_err {t : Tg} {body : M Fl} {d : D} {ds : List D} {ρ ρ1 ρ2 : Rho} {x : Exn} (h1 : t d ρ = some ρ1) (h2 : body ρ1 = .err x ρ2) : forL t body (d :: ds) ρ = .err x ρ2 := by
  unfold forL
  rw [h1]
  show (match body ρ1 with
      | .ok .nx ρ2 => forL t body ds ρ2
      | .ok .ct ρ2 => forL t body ds ρ2
      | .ok .bk ρ2 => .ok .nx ρ2
      | r => r) = _
  rw [h2]
theorem need_top {X : D} (h : topT e [some (.fz X), none, none] = .ok true [some (.fz X), none, none]) : den_need_matrix e [.fz X] = .err (xF e) [none] := by
  refine fn_err (ρ := [some (.fz X), none, none]) rfl ?_ rfl
  exact seq_err ((ifS_t h).trans rfl)
theorem need_1 {X r : D} {rs : List D} (hi : items X = some (r :: rs)) (h0 : topT e [some (.fz X), none, none] = .ok false [some (.fz X), none, none]) (h : rowT e [some (.fz X), some (.fz r), none] = .ok true [some (.fz X), some (.fz r), none]) : den_need_matrix e [.fz X] = .err (xF e) [none] := by
  refine fn_err (ρ := [some (.fz X), some (.fz r), none]) rfl ?_ rfl
  refine seq2 (iff2 h0 rfl) ?_
  exact for2 (it_ok rfl hi) (for_err rfl ((ifS_t h).trans rfl))
theorem need_3 {X r : D} {m : Nat → Nat → Nat → Int} (hX : X = .lst [rowD D.lst D.lst m 0, rowD D.lst D.lst m 1, r]) (h : rowT e [some (.fz X), some (.fz r), none] = .ok true [some (.fz X), some (.fz r), none]) : den_need_matrix e [.fz X] = .err (xF e) [none] := by
  refine fn_err (ρ := [some (.fz X), some (.fz r), none]) rfl ?_ rfl
  have h0 : topT e [some (.fz X), none, none] = .ok false [some (.fz X), none, none] := by
    subst hX
    rfl
  refine seq2 (iff2 h0 rfl) ?_
  exact for2 (it_ok rfl (by rw [hX]; rfl)) (for_cons rfl (need_step e (.inl rfl) (.inl rfl) 0) (for_cons rfl (need_step e (.inl rfl) (.inl rfl) 1) (for_err rfl ((ifS_t h).trans rfl))))
section
variable {m : Nat → Nat → Nat → Int}
abbrev r_ (m : Nat → Nat → Nat → Int) (i : Nat) : D := rowD D.lst D.lst m i
abbrev f_ (m : Nat → Nat → Nat → Int) (i j : Nat) : D := .lst (iL (Fm m i j))
def odd (m : Nat → Nat → Nat → Int) : List D := [.lst [r_ m 0, r_ m 1], .lst [r_ m 0, r_ m 1, r_ m 2, r_ m 0], .lst [.lst [f_ m 0 0, f_ m 0 1], .lst [f_ m 1 0, f_ m 1 1], .lst [f_ m 2 0, f_ m 2 1]], .lst [r_ m 0, r_ m 1, .lst [f_ m 2 0, f_ m 2 1, .lst [.int (m 2 2 0), .int (m 2 2 1), .int (m 2 2 2)]]], .non, .str "matrix", r_ m 0,
  .lst [r_ m 0, r_ m 1, .lst [f_ m 2 0, f_ m 2 1, .lst [.int 1, .int 0, .bl true, .int 0]]], .lst [r_ m 0, r_ m 1, .lst [f_ m 2 0, f_ m 2 1, .int 7]]]
theorem odd_bad : ∀ X ∈ odd m, den_need_matrix e [.fz X] = .err (xF e) [none] := by
  intro X hX
  simp only [odd, List.mem_cons, List.not_mem_nil, or_false] at hX
  rcases hX with rfl | rfl | rfl | rfl | rfl | rfl | rfl | rfl | rfl
  · exact need_top e rfl
  · exact need_top e rfl
  · exact need_1 e (r := .lst [f_ m 0 0, f_ m 0 1]) rfl rfl rfl
  · exact need_3 e rfl rfl
  · exact need_top e rfl
  · exact need_top e rfl
  · exact need_1 e (r := f_ m 0 0) rfl rfl rfl
  · exact need_3 e rfl rfl
  · exact need_3 e rfl rfl
end
end K75

set_option Elab.async false
set_option linter.all false
set_option maxRecDepth 100000
set_option maxHeartbeats 1000000
/-! P15: the places of the law. -/
namespace K75
open PySem PySem.Spec PyProof.Rows L2 Dn
variable (e : Str → Addr)
theorem bad_rows : ∀ P ∈ [D.tup [.int 0, .int 0, .int 0, .int 0], .tup [.int 1, .int 2, .int 3], .non, .tup [.int 1, .int 0, .int 0, .str "1"], .lst [.int 1, .int 2, .int 3, .bl true]], den_is_row e [.fz P, .fz (.int 4)] = .ok (.rt (.bl false)) [none, none] := by
  intro P hP
  simp only [List.mem_cons, List.not_mem_nil, or_false] at hP
  rcases hP with rfl | rfl | rfl | rfl | rfl <;> rfl
/-- a place that the law takes -/
def Pl (p : List Int) : Prop := ∃ a b c d : Int, p = [a, b, c, d] ∧ a ∈ nine ∧ b ∈ nine ∧ c ∈ nine ∧ d ∈ nine ∧ [a, b, c, d].any (fun x => decide (x ≠ 0)) = true
theorem nine_of {x : Int} (h1 : -4 ≤ x) (h2 : x ≤ 4) : x ∈ nine := by
  rcases upto9 h1 h2 with rfl | rfl | rfl | rfl | rfl | rfl | rfl | rfl | rfl <;> decide
theorem of_nine {x : Int} (h : x ∈ nine) : -4 ≤ x ∧ x ≤ 4 := by
  simp only [nine, List.mem_cons, List.not_mem_nil, or_false] at h
  omega
structure PlF (a b c d : Int) : Prop where
  g1 : divOk (gcdL [a, b, c, d])
  g2 : divOk (-(gcdL [a, b, c, d]))
  g3 : gcdL [a, b, c, d] ≠ 0
  f : (shrL [a, b, c, d]).filter (fun x => decide (x ≠ 0)) ≠ []
  l : (shrL [a, b, c, d]).length = 4
theorem plf_of {a b c d : Int} (h : chk1 [a, b, c, d] = true) : PlF a b c d := by
  unfold chk1 gOk at h
  simp only [Bool.and_eq_true, decide_eq_true_eq] at h
  obtain ⟨⟨⟨⟨⟨h1, h2⟩, h3⟩, h4⟩, h5⟩, h6⟩ := h
  refine ⟨h1, h2, h3, fun z => ?_, h5⟩
  obtain ⟨x, hx, hx2⟩ := List.any_eq_true.mp h4
  have := (List.mem_filter (p := fun x : Int => decide (x ≠ 0))).mpr ⟨hx, hx2⟩
  rw [z] at this
  cases this
theorem pl_facts {a b c d : Int} (ha : a ∈ nine) (hb : b ∈ nine) (hc : c ∈ nine) (hd : d ∈ nine) (h : [a, b, c, d].any (fun x => decide (x ≠ 0)) = true) :
    PlF a b c d ∧ PlF (-3 * a) (-3 * b) (-3 * c) (-3 * d) ∧ plL [a, b, c, d] = lawPl [a, b, c, d] ∧ plL [-3 * a, -3 * b, -3 * c, -3 * d] = lawPl [a, b, c, d] ∧ ∀ x ∈ lawPl [a, b, c, d], ib x ≤ 4 := by
  have h0 := List.all_eq_true.mp (List.all_eq_true.mp (List.all_eq_true.mp (List.all_eq_true.mp chk_all a ha) b hb) c hc) d hd
  unfold chk at h0
  rw [h] at h0
  simp only [Bool.not_true, Bool.false_or, Bool.and_eq_true, decide_eq_true_eq] at h0
  obtain ⟨⟨⟨⟨h1, h2⟩, h3⟩, h4⟩, h5⟩ := h0
  refine ⟨plf_of h1, plf_of h2, h3, h4, fun x hx => ?_⟩
  have := List.all_eq_true.mp h5 x hx
  unfold sm at this
  simp only [decide_eq_true_eq] at this
  exact ib_small (by omega)
theorem lawPl4 {a b c d : Int} : ∃ q0 q1 q2 q3, lawPl [a, b, c, d] = [q0, q1, q2, q3] := ⟨_, _, _, _, rfl⟩
theorem pt_eq {a b c d : Int} (hp : PlF a b c d) (h : [a, b, c, d].any (fun x => decide (x ≠ 0)) = true) (pn : D) : den_place_told e [.fz (.lst (iL [a, b, c, d])), .fz pn] = .ok (.rt (.tup (iL (plL [a, b, c, d])))) [none, none] :=
  place_eq e (.inl rfl) h (fun _ => hp.g1) hp.l hp.f
/-! ### one place -/
theorem tab_ne_refl {t : List D → D} (h : LT t) (x0 x1 x2 y0 y1 y2 z0 z1 z2 : Int) : dNe (t [t (iL [x0, x1, x2]), t (iL [y0, y1, y2]), t (iL [z0, z1, z2])]) (t [t (iL [x0, x1, x2]), t (iL [y0, y1, y2]), t (iL [z0, z1, z2])]) = some (.bl false) := by
  have key : deqs (iL [x0, x1, x2]) (iL [x0, x1, x2]) = true ∧ deqs (iL [y0, y1, y2]) (iL [y0, y1, y2]) = true ∧ deqs (iL [z0, z1, z2]) (iL [z0, z1, z2]) = true := ⟨deqs_refl_ints _, deqs_refl_ints _, deqs_refl_ints _⟩
  rcases h with rfl | rfl
  · show some (D.bl (!(deqs (iL [x0, x1, x2]) (iL [x0, x1, x2]) && (deqs (iL [y0, y1, y2]) (iL [y0, y1, y2]) && (deqs (iL [z0, z1, z2]) (iL [z0, z1, z2]) && true))))) = _
    rw [key.1, key.2.1, key.2.2]
    rfl
  · show some (D.bl (!(deqs (iL [x0, x1, x2]) (iL [x0, x1, x2]) && (deqs (iL [y0, y1, y2]) (iL [y0, y1, y2]) && (deqs (iL [z0, z1, z2]) (iL [z0, z1, z2]) && true))))) = _
    rw [key.1, key.2.1, key.2.2]
    rfl
theorem dot_bits {f : List Int} {m : Nat → Nat → Nat → Int} {i j : Nat} {x0 x1 x2 x3 : Int} (hm : BM 110 m) (h0 : ib x0 ≤ 4) (h1 : ib x1 ≤ 4) (h2 : ib x2 ≤ 4) (h3 : ib x3 ≤ 4) : ib (dotL (Fm m i j) [x0, x1, x2, x3]) ≤ 1000 := by
  rw [dot_lin (f := f)]
  show ib (m i j 0 * x0 + m i j 1 * x1 + m i j 2 * x2 + m i j 3 * x3) ≤ 1000
  exact Nat.le_trans (intBits_add_le (intBits_add_le (intBits_add_le (intBits_mul_le (hm _ _ _) h0) (intBits_mul_le (hm _ _ _) h1)) (intBits_mul_le (hm _ _ _) h2)) (intBits_mul_le (hm _ _ _) h3)) (by decide)
/-- the frame of law at the places -/
def LR (s : D) (w : OO) (m : Nat → Nat → Nat → Int) (z : Bool) (ps : D) (s6 s7 s8 s13 s14 s15 : Option D) : Rho := [some (.fz s), some (.own w), some (.fz (matD D.lst D.lst D.lst m)), some (.fz (.bl z)), some (.fz (.tup (iL (detL (Fm m))))), some (.fz ps), s6.map Sl.fz, s7.map Sl.fz, s8.map Sl.fz, none, none, none, none, s13.map Sl.fz, s14.map Sl.fz, s15.map Sl.fz, none, none, none, none, none]
abbrev plB : M Fl := (seqM (asgM 14 (callD (den__law_plain e) (aV (rdV 8) (aNil)))) (seqM (asgM 15 (fzM (lcM (itM (rdV 2)) (tgN 17) (yesM) (fzM (lcM (itM (rdV 17)) (tgN 20) (yesM) (callD (den__law_dot e) (aV (rdV 20) (aV (rdV 14) (aNil)))) [20])) [17]))) (seqM (ifS (orM (mB (m2 (fzM (lcM (itM (callD (den_matrix_at e) (aV (rdV 2) (aV (rdV 8) (aNil))))) (tgN 17) (yesM) (fzM (mNs (aV (rdV 17) (aNil)) oList)) [17])) (rdV 15) dNe)) (mB (m2 (callD (den_matrix_at e) (aV (rdV 2) (aV (fzM (lcM (itM (rdV 8)) (tgN 19) (yesM) (m2 (m1 (ret (.int 3)) dNeg) (rdV 19) dMul) [19])) (aNil)))) (callD (den_matrix_at e) (aV (rdV 2) (aV (rdV 8) (aNil)))) dNe))) (retM (ret (.bl false))) (nextM)) (ifS (mB (m2 (callD (den__law_three e) (aV (m2 (rdV 15) (ret (.int 0)) dIx) (aV (m2 (rdV 15) (ret (.int 1)) dIx) (aV (m2 (rdV 15) (ret (.int 2)) dIx) (aNil))))) (callD (den__law_third e) (aV (rdV 4) (aV (rdV 14) (aNil)))) dNe)) (retM (ret (.bl false))) (nextM)))))
theorem place_step {s : D} {w : OO} {m : Nat → Nat → Nat → Int} {z : Bool} {ps : D} {s6 s7 s13 s14 s15 : Option D} {p : List Int} (hm : BM 110 m) (hb : BdM m) (hl : (detL (Fm m)).length = 20) (hd : Bd 700 (detL (Fm m))) (hp : Pl p) :
    ∃ t14 t15 : Option D, plB e (LR s w m z ps s6 s7 (some (.lst (iL p))) s13 s14 s15) = .ok .nx (LR s w m z ps s6 s7 (some (.lst (iL p))) s13 t14 t15) := by
  obtain ⟨a, b, c, d, rfl, ha, hb', hc, hd', hne⟩ := hp
  obtain ⟨f1, f2, f3, f4, f5⟩ := pl_facts ha hb' hc hd' hne
  have hne3 : [-3 * a, -3 * b, -3 * c, -3 * d].any (fun x => decide (x ≠ 0)) = true := by
    obtain ⟨x, hx, hx2⟩ := List.any_eq_true.mp hne
    refine List.any_eq_true.mpr ⟨-3 * x, ?_, ?_⟩
    · simp only [List.mem_cons, List.not_mem_nil, or_false] at hx ⊢
      omega
    · simp only [decide_eq_true_eq, ne_eq] at hx2 ⊢
      omega
  have a1 := of_nine ha
  have a2 := of_nine hb'
  have a3 := of_nine hc
  have a4 := of_nine hd'
  have e1 := lawplain_eq e (d := .lst (iL [a, b, c, d])) (xs := [a, b, c, d]) rfl (by
    intro p hp
    simp only [List.mem_cons, List.not_mem_nil, or_false] at hp
    omega) (by simp [szOk]) f1.g3 f1.g1 f1.g2
  have e2 := pt_eq e f1 hne (.str "place")
  have e3 := pt_eq e f2 hne3 (.str "place")
  rw [f3] at e2
  rw [f4] at e3
  obtain ⟨q0, q1, q2, q3, hq⟩ := lawPl4 (a := a) (b := b) (c := c) (d := d)
  rw [hq] at e1 e2 e3 f5
  simp only [List.mem_cons, List.not_mem_nil, or_false, forall_eq_or_imp, forall_eq] at f5
  obtain ⟨y0, y1, y2, y3⟩ := f5
  have bq : Bd 200 [q0, q1, q2, q3] := fun x hx => by
    simp only [List.mem_cons, List.not_mem_nil, or_false] at hx
    rcases hx with rfl | rfl | rfl | rfl
    · exact Nat.le_trans y0 (by decide)
    · exact Nat.le_trans y1 (by decide)
    · exact Nat.le_trans y2 (by decide)
    · exact Nat.le_trans y3 (by decide)
  have m1' := matat_eq e (tm := D.lst) (tr := D.lst) (tf := D.lst) (m := m) (.inl rfl) (.inl rfl) (.inl rfl) hb e2 bq (by simp)
  have m2' := matat_eq e (tm := D.lst) (tr := D.lst) (tf := D.lst) (m := m) (.inl rfl) (.inl rfl) (.inl rfl) hb e3 bq (by simp)
  refine ⟨some (.tup (iL [q0, q1, q2, q3])), some (tabD D.lst D.lst m [q0, q1, q2, q3]), ?_⟩
  refine seq2 (ρ1 := LR s w m z ps s6 s7 (some (.lst (iL [a, b, c, d]))) s13 (some (.tup (iL [q0, q1, q2, q3]))) s15) (asg2 (call_ok (as1 rfl) e1) rfl) ?_
  have tab : fzM (lcM (itM (rdV 2)) (tgN 17) (yesM) (fzM (lcM (itM (rdV 17)) (tgN 20) (yesM) (callD (den__law_dot e) (aV (rdV 20) (aV (rdV 14) (aNil)))) [20])) [17]) (LR s w m z ps s6 s7 (some (.lst (iL [a, b, c, d]))) s13 (some (.tup (iL [q0, q1, q2, q3]))) s15) = .ok (.lst ([0, 1, 2].map fun i => .lst ([0, 1, 2].map fun j => .int (dotL (Fm m i j) [q0, q1, q2, q3])))) (LR s w m z ps s6 s7 (some (.lst (iL [a, b, c, d]))) s13 (some (.tup (iL [q0, q1, q2, q3]))) s15) := by
    refine fz_ok (lcM_map (fun i => rowD D.lst D.lst m i) _ [0, 1, 2] (it_ok rfl rfl) rfl (by simp [szOk]) rfl rfl fun i hi => ⟨_, rfl, ?_, rfl⟩)
    have hi : i < 3 := by
      simp only [List.mem_cons, List.not_mem_nil, or_false] at hi
      omega
    refine fz_ok (lcM_map (fun j => .lst (iL (Fm m i j))) _ [0, 1, 2] (it_ok rfl rfl) rfl (by simp [szOk]) rfl rfl fun j hj => ⟨_, rfl, ?_, rfl⟩)
    have hj : j < 3 := by
      simp only [List.mem_cons, List.not_mem_nil, or_false] at hj
      omega
    exact call_ok (as_cons rfl (as1 rfl)) (dot_eq e (a := .lst (iL (Fm m i j))) (b := .tup (iL [q0, q1, q2, q3])) rfl rfl (dot_sz (by simp)) (dot_mul (hb i j hi hj) bq))
  refine seq2 (ρ1 := LR s w m z ps s6 s7 (some (.lst (iL [a, b, c, d]))) s13 (some (.tup (iL [q0, q1, q2, q3]))) (some (tabD D.lst D.lst m [q0, q1, q2, q3]))) (asg2 tab rfl) ?_
  have c1 : mB (m2 (fzM (lcM (itM (callD (den_matrix_at e) (aV (rdV 2) (aV (rdV 8) (aNil))))) (tgN 17) (yesM) (fzM (mNs (aV (rdV 17) (aNil)) oList)) [17])) (rdV 15) dNe) (LR s w m z ps s6 s7 (some (.lst (iL [a, b, c, d]))) s13 (some (.tup (iL [q0, q1, q2, q3]))) (some (tabD D.lst D.lst m [q0, q1, q2, q3]))) = .ok false (LR s w m z ps s6 s7 (some (.lst (iL [a, b, c, d]))) s13 (some (.tup (iL [q0, q1, q2, q3]))) (some (tabD D.lst D.lst m [q0, q1, q2, q3]))) := by
    refine mB_ok (m2_ok (fz_ok (lcM_map (fun i => .tup [.int (dotL (Fm m i 0) [q0, q1, q2, q3]), .int (dotL (Fm m i 1) [q0, q1, q2, q3]), .int (dotL (Fm m i 2) [q0, q1, q2, q3])]) (fun i => .lst [.int (dotL (Fm m i 0) [q0, q1, q2, q3]), .int (dotL (Fm m i 1) [q0, q1, q2, q3]), .int (dotL (Fm m i 2) [q0, q1, q2, q3])]) [0, 1, 2] (it_ok (call_ok (as_cons rfl (as1 rfl)) m1') rfl) rfl (by simp [szOk]) rfl rfl fun i hi => ⟨_, rfl, fz_ok (mNs_ok (as1 rfl) rfl), rfl⟩)) rfl ?_)
    exact tab_ne_refl (t := D.lst) (.inl rfl) _ _ _ _ _ _ _ _ _
  have c2 : mB (m2 (callD (den_matrix_at e) (aV (rdV 2) (aV (fzM (lcM (itM (rdV 8)) (tgN 19) (yesM) (m2 (m1 (ret (.int 3)) dNeg) (rdV 19) dMul) [19])) (aNil)))) (callD (den_matrix_at e) (aV (rdV 2) (aV (rdV 8) (aNil)))) dNe) (LR s w m z ps s6 s7 (some (.lst (iL [a, b, c, d]))) s13 (some (.tup (iL [q0, q1, q2, q3]))) (some (tabD D.lst D.lst m [q0, q1, q2, q3]))) = .ok false (LR s w m z ps s6 s7 (some (.lst (iL [a, b, c, d]))) s13 (some (.tup (iL [q0, q1, q2, q3]))) (some (tabD D.lst D.lst m [q0, q1, q2, q3]))) := by
    refine mB_ok (m2_ok (call_ok (as_cons rfl (as1 (fz_ok (lcM_map D.int (fun x => .int (-3 * x)) [a, b, c, d] (it_ok rfl rfl) rfl (by simp [szOk]) rfl rfl fun x hx => ⟨_, rfl, m2_ok (m1_ok rfl rfl) rfl (mul_ok ?_), rfl⟩)))) m2') (call_ok (as_cons rfl (as1 rfl)) m1') ?_)
    · have : ib x ≤ 3 := ib_small (by
        simp only [List.mem_cons, List.not_mem_nil, or_false] at hx
        omega)
      exact mul_bits (m := 2) (by decide) this
    · exact tab_ne_refl (t := D.tup) (.inr rfl) _ _ _ _ _ _ _ _ _
  refine seq2 (iff2 (orf2 c1 c2) rfl) ?_
  have db : ∀ i j, ib (dotL (Fm m i j) [q0, q1, q2, q3]) ≤ 1000 := fun i j => dot_bits (f := []) hm y0 y1 y2 y3
  have c3 : mB (m2 (callD (den__law_three e) (aV (m2 (rdV 15) (ret (.int 0)) dIx) (aV (m2 (rdV 15) (ret (.int 1)) dIx) (aV (m2 (rdV 15) (ret (.int 2)) dIx) (aNil))))) (callD (den__law_third e) (aV (rdV 4) (aV (rdV 14) (aNil)))) dNe) (LR s w m z ps s6 s7 (some (.lst (iL [a, b, c, d]))) s13 (some (.tup (iL [q0, q1, q2, q3]))) (some (tabD D.lst D.lst m [q0, q1, q2, q3]))) = .ok false (LR s w m z ps s6 s7 (some (.lst (iL [a, b, c, d]))) s13 (some (.tup (iL [q0, q1, q2, q3]))) (some (tabD D.lst D.lst m [q0, q1, q2, q3]))) := by
    refine mB_ok (m2_ok (call_ok (ds := [.lst (iL [dotL (Fm m 0 0) [q0, q1, q2, q3], dotL (Fm m 0 1) [q0, q1, q2, q3], dotL (Fm m 0 2) [q0, q1, q2, q3]]), .lst (iL [dotL (Fm m 1 0) [q0, q1, q2, q3], dotL (Fm m 1 1) [q0, q1, q2, q3], dotL (Fm m 1 2) [q0, q1, q2, q3]]), .lst (iL [dotL (Fm m 2 0) [q0, q1, q2, q3], dotL (Fm m 2 1) [q0, q1, q2, q3], dotL (Fm m 2 2) [q0, q1, q2, q3]])]) (as_cons (m2_ok rfl rfl rfl) (as_cons (m2_ok rfl rfl rfl) (as1 (m2_ok rfl rfl rfl)))) (three_eq e rfl rfl rfl ?_)) (call_ok (as_cons rfl (as1 rfl)) (third_eq e rfl hl hd bq)) ?_)
    · intro x hx
      simp only [List.mem_cons, List.not_mem_nil, or_false] at hx
      rcases hx with rfl | rfl | rfl | rfl | rfl | rfl | rfl | rfl | rfl <;> exact db _ _
    · rw [dNe_int, decide_eq_false]
      intro z
      apply z
      rw [det_val]
      simp only [lin_val, dot_lin (f := [])]
  exact iff2 c3 rfl
end K75

set_option Elab.async false
set_option linter.all false
set_option maxRecDepth 100000
set_option maxHeartbeats 1000000
/-! P16: the list of places. -/
namespace K75
open PySem PySem.Spec PyProof.Rows L2 Dn
variable (e : Str → Addr)
def pl0 : List (List Int) := [[1, 0, 0, 0], [0, 1, 0, 0], [0, 0, 1, 0], [0, 0, 0, 1]]
def pl1 : List (List Int) := [[1, 0, 0, 0], [0, 1, 0, 0], [0, 0, 1, 0], [0, 0, 0, 1], [2, 1, 0, 0], [-1, 1, 0, 0], [2, 0, 1, 0], [-1, 0, 1, 0], [0, 2, 1, 0], [0, -1, 1, 0], [2, 0, 0, 1], [-1, 0, 0, 1], [0, 2, 0, 1], [0, -1, 0, 1], [0, 0, 2, 1], [0, 0, -1, 1]]
def plD (ps : List (List Int)) : List D := ps.map fun p => .lst (iL p)
/-- the frame of law before the places -/
def LO (s : D) (w : OO) (m : Nat → Nat → Nat → Int) (z : Bool) (s5 : Option Sl) (s6 s7 s13 : Option D) : Rho := [some (.fz s), some (.own w), some (.fz (matD D.lst D.lst D.lst m)), some (.fz (.bl z)), some (.fz (.tup (iL (detL (Fm m))))), s5, s6.map Sl.fz, s7.map Sl.fz, none, none, none, none, none, s13.map Sl.fz, none, none, none, none, none, none, none]
abbrev ownP (ps : List (List Int)) : Option Sl := some (.own (.lst (plD ps)))
section
variable {s : D} {w : OO} {m : Nat → Nat → Nat → Int} {z : Bool}
theorem ap_ok {ρ ρ1 : Rho} {k : Nat} {me : M D} {d : D} {ds0 ds : List D} (h1 : ownLst ρ k = some ds0) (h2 : me ρ = .ok d ρ1) (h3 : ownLst ρ1 k = some ds) (h4 : ds.length < 16777216) : apM k me ρ = .ok .non (ρ1.set k (some (.own (.lst (ds ++ [d]))))) := by
  unfold apM
  have o : lift (ownLst ρ k) ρ = .ok ds0 ρ := by
    rw [h1]
    rfl
  have o1 : lift (ownLst ρ1 k) ρ1 = .ok ds ρ1 := by
    rw [h3]
    rfl
  rw [bind_ok (m := fun ρ => lift (ownLst ρ k) ρ) o, bind_ok h2, bind_ok (m := fun ρ => lift (ownLst ρ k) ρ) o1]
  unfold addL
  rw [if_pos h4]
abbrev gI (i : Nat) : Int := 0 + (i : Int) * 1
abbrev b2 (x y : Int) : Int := if decide (x = y) = true then 1 else 0
theorem A6 : asgN 5 (lcM (rngM1 (aV (ret (.int 4)) (aNil))) (tgN 16) (yesM) (fzM (lcM (rngM1 (aV (ret (.int 4)) (aNil))) (tgN 8) (yesM) (mC (aV (m2 (rdV 16) (rdV 8) dEq) (aNil)) dInt) [8])) [16]) (LO s w m z none none none none) = .ok .nx (LO s w m z (ownP pl0) none none none) := by
  have : lcM (rngM1 (aV (ret (.int 4)) (aNil))) (tgN 16) (yesM) (fzM (lcM (rngM1 (aV (ret (.int 4)) (aNil))) (tgN 8) (yesM) (mC (aV (m2 (rdV 16) (rdV 8) dEq) (aNil)) dInt) [8])) [16] (LO s w m z none none none none) = .ok (.lst ([0, 1, 2, 3].map fun i => .lst ([0, 1, 2, 3].map fun j => .int (b2 (gI i) (gI j))))) (LO s w m z none none none none) :=
    lcM_map (fun i => .int (gI i)) _ [0, 1, 2, 3] (rng1_ok (as1 rfl) (by decide)) rfl (by simp [szOk]) rfl rfl fun i hi => ⟨_, rfl, fz_ok (lcM_map (fun i => .int (gI i)) _ [0, 1, 2, 3] (rng1_ok (as1 rfl) (by decide)) rfl (by simp [szOk]) rfl rfl fun j hj => ⟨_, rfl, mC_ok (as1 (m2_ok rfl rfl (dEq_int _ _))) rfl, rfl⟩), rfl⟩
  have e1 : ([0, 1, 2, 3].map fun i => ([0, 1, 2, 3].map fun j => b2 (gI i) (gI j))) = pl0 := by decide
  refine asgN2 this ?_
  rw [← e1]
  rfl
def pA (one other : Int) : List Int := [0, 1, 2, 3].map fun i => b2 (gI i) one + 2 * b2 (gI i) other
def pB (one other : Int) : List Int := [0, 1, 2, 3].map fun i => b2 (gI i) one - b2 (gI i) other
abbrev aB : M Fl := (seqM (dropM (apM 5 (fzM (lcM (rngM1 (aV (ret (.int 4)) (aNil))) (tgN 16) (yesM) (m2 (mC (aV (m2 (rdV 16) (rdV 6) dEq) (aNil)) dInt) (m2 (ret (.int 2)) (mC (aV (m2 (rdV 16) (rdV 13) dEq) (aNil)) dInt) dMul) dAdd) [16])))) (dropM (apM 5 (fzM (lcM (rngM1 (aV (ret (.int 4)) (aNil))) (tgN 16) (yesM) (m2 (mC (aV (m2 (rdV 16) (rdV 6) dEq) (aNil)) dInt) (mC (aV (m2 (rdV 16) (rdV 13) dEq) (aNil)) dInt) dSub) [16])))))
theorem b2_bits (x y : Int) : ib (b2 x y) ≤ 1 := by
  unfold b2
  split <;> decide
theorem a_step {ps : List (List Int)} (hl : ps.length ≤ 1000) (one other : Int) : aB (LO s w m z (ownP ps) (some (.int one)) none (some (.int other))) = .ok .nx (LO s w m z (ownP (ps ++ [pA one other, pB one other])) (some (.int one)) none (some (.int other))) := by
  have c1 : ∀ ps, fzM (lcM (rngM1 (aV (ret (.int 4)) (aNil))) (tgN 16) (yesM) (m2 (mC (aV (m2 (rdV 16) (rdV 6) dEq) (aNil)) dInt) (m2 (ret (.int 2)) (mC (aV (m2 (rdV 16) (rdV 13) dEq) (aNil)) dInt) dMul) dAdd) [16]) (LO s w m z (ownP ps) (some (.int one)) none (some (.int other))) = .ok (.lst ([0, 1, 2, 3].map fun i => .int (b2 (gI i) one + 2 * b2 (gI i) other))) (LO s w m z (ownP ps) (some (.int one)) none (some (.int other))) := fun ps =>
    fz_ok (lcM_map (fun i => .int (gI i)) _ [0, 1, 2, 3] (rng1_ok (as1 rfl) (by decide)) rfl (by simp [szOk]) rfl rfl fun i hi => ⟨_, rfl, m2_ok (mC_ok (as1 (m2_ok rfl rfl (dEq_int _ _))) rfl) (m2_ok rfl (mC_ok (as1 (m2_ok rfl rfl (dEq_int _ _))) rfl) (mul_ok (mul_bits (m := 2) (by decide) (b2_bits _ _)))) rfl, rfl⟩)
  have c2 : ∀ ps, fzM (lcM (rngM1 (aV (ret (.int 4)) (aNil))) (tgN 16) (yesM) (m2 (mC (aV (m2 (rdV 16) (rdV 6) dEq) (aNil)) dInt) (mC (aV (m2 (rdV 16) (rdV 13) dEq) (aNil)) dInt) dSub) [16]) (LO s w m z (ownP ps) (some (.int one)) none (some (.int other))) = .ok (.lst ([0, 1, 2, 3].map fun i => .int (b2 (gI i) one - b2 (gI i) other))) (LO s w m z (ownP ps) (some (.int one)) none (some (.int other))) := fun ps =>
    fz_ok (lcM_map (fun i => .int (gI i)) _ [0, 1, 2, 3] (rng1_ok (as1 rfl) (by decide)) rfl (by simp [szOk]) rfl rfl fun i hi => ⟨_, rfl, m2_ok (mC_ok (as1 (m2_ok rfl rfl (dEq_int _ _))) rfl) (mC_ok (as1 (m2_ok rfl rfl (dEq_int _ _))) rfl) rfl, rfl⟩)
  have sz : ∀ ps : List (List Int), ps.length ≤ 1001 → (plD ps).length < 16777216 := fun ps h => by
    unfold plD
    rw [List.length_map]
    omega
  have q1 := ap_ok (k := 5) (ds0 := plD ps) rfl (c1 ps) rfl (sz ps (by omega))
  have r1 : (LO s w m z (ownP ps) (some (.int one)) none (some (.int other))).set 5 (some (.own (.lst (plD ps ++ [.lst ([0, 1, 2, 3].map fun i => .int (b2 (gI i) one + 2 * b2 (gI i) other))])))) = LO s w m z (ownP (ps ++ [pA one other])) (some (.int one)) none (some (.int other)) := by
    have : plD (ps ++ [pA one other]) = plD ps ++ [.lst ([0, 1, 2, 3].map fun i => .int (b2 (gI i) one + 2 * b2 (gI i) other))] := by
      unfold plD
      rw [List.map_append]
      rfl
    rw [← this]
    rfl
  rw [r1] at q1
  have q2 := ap_ok (k := 5) (ds0 := plD (ps ++ [pA one other])) rfl (c2 (ps ++ [pA one other])) rfl (sz _ (by simp; omega))
  have r2 : (LO s w m z (ownP (ps ++ [pA one other])) (some (.int one)) none (some (.int other))).set 5 (some (.own (.lst (plD (ps ++ [pA one other]) ++ [.lst ([0, 1, 2, 3].map fun i => .int (b2 (gI i) one - b2 (gI i) other))])))) = LO s w m z (ownP (ps ++ [pA one other, pB one other])) (some (.int one)) none (some (.int other)) := by
    have : plD (ps ++ [pA one other, pB one other]) = plD (ps ++ [pA one other]) ++ [.lst ([0, 1, 2, 3].map fun i => .int (b2 (gI i) one - b2 (gI i) other))] := by
      unfold plD
      rw [show ps ++ [pA one other, pB one other] = (ps ++ [pA one other]) ++ [pB one other] by simp, List.map_append]
      rfl
    rw [← this]
    rfl
  rw [r2] at q2
  exact seq2 (drop_ok q1) (drop_ok q2)
theorem A7g {ps : List (List Int)} (hl : ps.length ≤ 100) : forM (rngM1 (aV (ret (.int 4)) (aNil))) (tgN 6) (forM (rngM1 (aV (rdV 6) (aNil))) (tgN 13) aB) (LO s w m z (ownP ps) none none none) = .ok .nx (LO s w m z (ownP ((((((ps ++ [pA 1 0, pB 1 0]) ++ [pA 2 0, pB 2 0]) ++ [pA 2 1, pB 2 1]) ++ [pA 3 0, pB 3 0]) ++ [pA 3 1, pB 3 1]) ++ [pA 3 2, pB 3 2])) (some (.int 3)) none (some (.int 2))) := by
  have hr : ∀ {n : Nat} {ra : M (List Pa)} {ρ ρ1 : Rho} {ds : List D}, mAs ra ρ = .ok [.int n] ρ1 → n ≤ 10 → rngD 0 1 n = ds → rngM1 ra ρ = .ok ds ρ1 := fun h hn hd => (rng1_ok h (by constructor <;> omega)).trans (by rw [← hd]; rfl)
  have l0 : rngD 0 1 0 = [] := rfl
  have l1 : rngD 0 1 1 = [.int 0] := rfl
  have l2 : rngD 0 1 2 = [.int 0, .int 1] := rfl
  have l3 : rngD 0 1 3 = [.int 0, .int 1, .int 2] := rfl
  have l4 : rngD 0 1 4 = [.int 0, .int 1, .int 2, .int 3] := rfl
  have i0 : forM (rngM1 (aV (rdV 6) (aNil))) (tgN 13) aB (LO s w m z (ownP ps) (some (.int 0)) none none) = .ok .nx (LO s w m z (ownP ps) (some (.int 0)) none none) := for2 (hr (n := 0) (as1 rfl) (by decide) l0) for_nil
  have i1 : forM (rngM1 (aV (rdV 6) (aNil))) (tgN 13) aB (LO s w m z (ownP ps) (some (.int 1)) none none) = .ok .nx (LO s w m z (ownP (ps ++ [pA 1 0, pB 1 0])) (some (.int 1)) none (some (.int 0))) := for2 (hr (n := 1) (as1 rfl) (by decide) l1) (for_cons (ρ1 := LO s w m z (ownP ps) (some (.int 1)) none (some (.int 0))) rfl (a_step (by omega) 1 0) for_nil)
  have i2 : forM (rngM1 (aV (rdV 6) (aNil))) (tgN 13) aB (LO s w m z (ownP (ps ++ [pA 1 0, pB 1 0])) (some (.int 2)) none (some (.int 0))) = .ok .nx (LO s w m z (ownP (((ps ++ [pA 1 0, pB 1 0]) ++ [pA 2 0, pB 2 0]) ++ [pA 2 1, pB 2 1])) (some (.int 2)) none (some (.int 1))) := for2 (hr (n := 2) (as1 rfl) (by decide) l2) (for_cons (ρ1 := LO s w m z (ownP (ps ++ [pA 1 0, pB 1 0])) (some (.int 2)) none (some (.int 0))) rfl (a_step (by simp; omega) 2 0) (for_cons (ρ1 := LO s w m z (ownP ((ps ++ [pA 1 0, pB 1 0]) ++ [pA 2 0, pB 2 0])) (some (.int 2)) none (some (.int 1))) rfl (a_step (by simp; omega) 2 1) for_nil))
  have i3 : forM (rngM1 (aV (rdV 6) (aNil))) (tgN 13) aB (LO s w m z (ownP (((ps ++ [pA 1 0, pB 1 0]) ++ [pA 2 0, pB 2 0]) ++ [pA 2 1, pB 2 1])) (some (.int 3)) none (some (.int 1))) = .ok .nx (LO s w m z (ownP ((((((ps ++ [pA 1 0, pB 1 0]) ++ [pA 2 0, pB 2 0]) ++ [pA 2 1, pB 2 1]) ++ [pA 3 0, pB 3 0]) ++ [pA 3 1, pB 3 1]) ++ [pA 3 2, pB 3 2])) (some (.int 3)) none (some (.int 2))) := for2 (hr (n := 3) (as1 rfl) (by decide) l3) (for_cons (ρ1 := LO s w m z (ownP (((ps ++ [pA 1 0, pB 1 0]) ++ [pA 2 0, pB 2 0]) ++ [pA 2 1, pB 2 1])) (some (.int 3)) none (some (.int 0))) rfl (a_step (by simp; omega) 3 0) (for_cons (ρ1 := LO s w m z (ownP ((((ps ++ [pA 1 0, pB 1 0]) ++ [pA 2 0, pB 2 0]) ++ [pA 2 1, pB 2 1]) ++ [pA 3 0, pB 3 0])) (some (.int 3)) none (some (.int 1))) rfl (a_step (by simp; omega) 3 1) (for_cons (ρ1 := LO s w m z (ownP (((((ps ++ [pA 1 0, pB 1 0]) ++ [pA 2 0, pB 2 0]) ++ [pA 2 1, pB 2 1]) ++ [pA 3 0, pB 3 0]) ++ [pA 3 1, pB 3 1])) (some (.int 3)) none (some (.int 2))) rfl (a_step (by simp; omega) 3 2) for_nil)))
  exact for2 (hr (n := 4) (as1 rfl) (by decide) l4) (for_cons (ρ1 := LO s w m z (ownP ps) (some (.int 0)) none none) rfl i0 (for_cons (ρ1 := LO s w m z (ownP ps) (some (.int 1)) none none) rfl i1 (for_cons (ρ1 := LO s w m z (ownP (ps ++ [pA 1 0, pB 1 0])) (some (.int 2)) none (some (.int 0))) rfl i2 (for_cons (ρ1 := LO s w m z (ownP (((ps ++ [pA 1 0, pB 1 0]) ++ [pA 2 0, pB 2 0]) ++ [pA 2 1, pB 2 1])) (some (.int 3)) none (some (.int 1))) rfl i3 for_nil))))
theorem A7 : forM (rngM1 (aV (ret (.int 4)) (aNil))) (tgN 6) (forM (rngM1 (aV (rdV 6) (aNil))) (tgN 13) aB) (LO s w m z (ownP pl0) none none none) = .ok .nx (LO s w m z (ownP pl1) (some (.int 3)) none (some (.int 2))) := by
  have last : ((((((pl0 ++ [pA 1 0, pB 1 0]) ++ [pA 2 0, pB 2 0]) ++ [pA 2 1, pB 2 1]) ++ [pA 3 0, pB 3 0]) ++ [pA 3 1, pB 3 1]) ++ [pA 3 2, pB 3 2]) = pl1 := by decide
  rw [← last]
  exact A7g (by decide)
end
end K75

set_option Elab.async false
set_option linter.all false
set_option maxRecDepth 100000
set_option maxHeartbeats 1000000
/-! P17: the drawn places, all places. -/
namespace K75
open PySem PySem.Spec PyProof.Rows L2 Dn
variable (e : Str → Addr)
section
variable {s : D} {m : Nat → Nat → Nat → Int} {z : Bool} {cs : List Int}
abbrev dB : M Fl := (dropM (apM 5 (fzM (lstM (aV (m2 (callD (den__law_dip e) (aS 1 (aV (ret (.int 9)) (aNil)))) (ret (.int 4)) dSub) (aV (m2 (callD (den__law_dip e) (aS 1 (aV (ret (.int 9)) (aNil)))) (ret (.int 4)) dSub) (aV (m2 (ret (.int 1)) (callD (den__law_dip e) (aS 1 (aV (ret (.int 4)) (aNil)))) dAdd) (aV (m2 (callD (den__law_dip e) (aS 1 (aV (ret (.int 9)) (aNil)))) (ret (.int 4)) dSub) (aNil)))))))))
theorem d_step {N : Nat} {a r : Int} {ps : List (List Int)} {s6 s7 s13 : Option D} (g : Good N cs a r) (hN : N ≤ 900) (hl : ps.length ≤ 1000) :
    ∃ p a' r', dB e (LO s (wl cs a r) m z (ownP ps) s6 s7 s13) = .ok .nx (LO s (wl cs a' r') m z (ownP (ps ++ [p])) s6 s7 s13) ∧ Good (N + 4) cs a' r' ∧ Pl p := by
  obtain ⟨v1, a1, r1, e1, b1, g1⟩ := dip_eq e g (by omega) (many := 9) (by decide) (by decide)
  obtain ⟨v2, a2, r2, e2, b2, g2⟩ := dip_eq e g1 (by omega) (many := 9) (by decide) (by decide)
  obtain ⟨v3, a3, r3, e3, b3, g3⟩ := dip_eq e g2 (by omega) (many := 4) (by decide) (by decide)
  obtain ⟨v4, a4, r4, e4, b4, g4⟩ := dip_eq e g3 (by omega) (many := 9) (by decide) (by decide)
  refine ⟨[v1 - 4, v2 - 4, 1 + v3, v4 - 4], a4, r4, ?_, g4, v1 - 4, v2 - 4, 1 + v3, v4 - 4, rfl, nine_of (by omega) (by omega), nine_of (by omega) (by omega), nine_of (by omega) (by omega), nine_of (by omega) (by omega), ?_⟩
  · have hm : fzM (lstM (aV (m2 (callD (den__law_dip e) (aS 1 (aV (ret (.int 9)) (aNil)))) (ret (.int 4)) dSub) (aV (m2 (callD (den__law_dip e) (aS 1 (aV (ret (.int 9)) (aNil)))) (ret (.int 4)) dSub) (aV (m2 (ret (.int 1)) (callD (den__law_dip e) (aS 1 (aV (ret (.int 4)) (aNil)))) dAdd) (aV (m2 (callD (den__law_dip e) (aS 1 (aV (ret (.int 9)) (aNil)))) (ret (.int 4)) dSub) (aNil)))))) (LO s (wl cs a r) m z (ownP ps) s6 s7 s13) = .ok (.lst (iL [v1 - 4, v2 - 4, 1 + v3, v4 - 4])) (LO s (wl cs a4 r4) m z (ownP ps) s6 s7 s13) :=
      fz_ok (lst_ok (as_cons (m2_ok (ρ1 := LO s (wl cs a1 r1) m z (ownP ps) s6 s7 s13) (call_s (k := 1) rfl rfl e1) rfl rfl) (as_cons (m2_ok (ρ1 := LO s (wl cs a2 r2) m z (ownP ps) s6 s7 s13) (call_s (k := 1) rfl rfl e2) rfl rfl) (as_cons (m2_ok (ρ2 := LO s (wl cs a3 r3) m z (ownP ps) s6 s7 s13) rfl (call_s (k := 1) rfl rfl e3) rfl) (as1 (m2_ok (ρ1 := LO s (wl cs a4 r4) m z (ownP ps) s6 s7 s13) (call_s (k := 1) rfl rfl e4) rfl rfl))))))
    have q := ap_ok (k := 5) (ds0 := plD ps) rfl hm rfl (by unfold plD; rw [List.length_map]; omega)
    have : plD (ps ++ [[v1 - 4, v2 - 4, 1 + v3, v4 - 4]]) = plD ps ++ [.lst (iL [v1 - 4, v2 - 4, 1 + v3, v4 - 4])] := by
      unfold plD
      rw [List.map_append]
      rfl
    refine (drop_ok q).trans ?_
    rw [← this]
    rfl
  · have : decide (1 + v3 ≠ 0) = true := decide_eq_true (by omega)
    show (decide (v1 - 4 ≠ 0) || (decide (v2 - 4 ≠ 0) || (decide (1 + v3 ≠ 0) || _))) = true
    rw [this]
    simp
theorem d_loop : ∀ (ds : List D) (N : Nat) (a r : Int) (ps : List (List Int)) (s6 s7 s13 : Option D), Good N cs a r → N + 4 * ds.length ≤ 900 → ps.length + ds.length ≤ 1000 → (∀ p ∈ ps, Pl p) →
    ∃ ps' a' r' t7, forL (tgN 7) (dB e) ds (LO s (wl cs a r) m z (ownP ps) s6 s7 s13) = .ok .nx (LO s (wl cs a' r') m z (ownP ps') s6 t7 s13) ∧ ∀ p ∈ ps', Pl p
  | [], N, a, r, ps, s6, s7, s13, g, _, _, h => ⟨ps, a, r, s7, rfl, h⟩
  | d :: ds, N, a, r, ps, s6, s7, s13, g, hN, hl, h => by
    simp only [List.length_cons] at hN hl
    obtain ⟨p, a1, r1, e1, g1, h1⟩ := d_step e (s := s) (m := m) (z := z) (ps := ps) (s6 := s6) (s7 := some d) (s13 := s13) g (by omega) (by omega)
    obtain ⟨ps', a', r', t7, e2, h2⟩ := d_loop ds (N + 4) a1 r1 (ps ++ [p]) s6 (some d) s13 g1 (by omega) (by simp; omega) (fun x hx => by
      rcases List.mem_append.mp hx with z | z
      · exact h x z
      · rw [List.mem_singleton.mp z]
        exact h1)
    exact ⟨ps', a', r', t7, for_cons (ρ1 := LO s (wl cs a r) m z (ownP ps) s6 (some d) s13) rfl e1 e2, h2⟩
theorem pl1_ok : ∀ p ∈ pl1, Pl p := by
  intro p hp
  have key : ∀ p ∈ pl1, p.length = 4 ∧ (∀ x ∈ p, x ∈ nine) ∧ p.any (fun x => decide (x ≠ 0)) = true := by decide
  obtain ⟨h1, h2, h3⟩ := key p hp
  match p, h1 with
  | [a, b, c, d], _ => exact ⟨a, b, c, d, rfl, h2 a (by simp), h2 b (by simp), h2 c (by simp), h2 d (by simp), h3⟩
/-- all places -/
theorem p_loop {w : OO} {ps : D} {s6 s7 : Option D} (hm : BM 110 m) (hb : BdM m) (hl : (detL (Fm m)).length = 20) (hd : Bd 700 (detL (Fm m))) : ∀ (l : List (List Int)) (s8 s13 s14 s15 : Option D), (∀ p ∈ l, Pl p) →
    ∃ t8 t14 t15, forL (tgN 8) (plB e) (plD l) (LR s w m z ps s6 s7 s8 s13 s14 s15) = .ok .nx (LR s w m z ps s6 s7 t8 s13 t14 t15)
  | [], s8, s13, s14, s15, _ => ⟨s8, s14, s15, rfl⟩
  | p :: l, s8, s13, s14, s15, h => by
    obtain ⟨u14, u15, e1⟩ := place_step e (s := s) (w := w) (z := z) (ps := ps) (s6 := s6) (s7 := s7) (s13 := s13) (s14 := s14) (s15 := s15) hm hb hl hd (h p List.mem_cons_self)
    obtain ⟨t8, t14, t15, e2⟩ := p_loop hm hb hl hd l (some (.lst (iL p))) s13 u14 u15 fun x hx => h x (List.mem_cons_of_mem _ hx)
    exact ⟨t8, t14, t15, for_cons (ρ1 := LR s w m z ps s6 s7 (some (.lst (iL p))) s13 s14 s15) rfl e1 e2⟩
end
end K75

set_option Elab.async false
set_option linter.all false
set_option maxRecDepth 100000
set_option maxHeartbeats 1000000
/-! P18: the law. -/
namespace K75
open PySem PySem.Spec PyProof.Rows L2 Dn
variable (e : Str → Addr)
theorem callN_ok {den : Den} {ra : M (List Pa)} {ds : List D} {o : OO} {ρ ρ1 : Rho} (h : mAs ra ρ = .ok ds ρ1) (hd : den (ds.map Sl.fz) = .ok (.rn o) (ds.map fun _ => none)) : callN den ra ρ = .ok o ρ1 := by
  obtain ⟨ps, h1, h2⟩ := mAs_inv h
  unfold callN
  rw [bind_ok (bind_ok h1 |>.trans (callR_ok h2 hd))]
  rfl
theorem call_s1 {den : Den} {k : Nat} {s : Sl} {v : D} {o : OO} {ρ : Rho} (hk : ρ[k]? = some (some s)) (hd : den [s] = .ok (.rt v) [some o]) : callD den (aS k aNil) ρ = .ok v (ρ.set k (some (.own o))) := by
  have h1 : aS k aNil ρ = .ok [.s k] ρ := by
    unfold aS
    rw [hk]
    rfl
  have h2 : callR den [.s k] ρ = .ok (.rt v) (ρ.set k (some (.own o))) := by
    unfold callR
    rw [if_pos (by simp [slotsP])]
    show (match (match ρ[k]? with
      | some (some s) => (some []).map (s :: ·)
      | _ => none) with
      | none => Rs.no
      | some sls => match den sls with
        | .ok r os => (match putO [.s k] os ρ with
          | some ρ' => .ok r ρ'
          | none => .no)
        | .err x os => (match putO [.s k] os ρ with
          | some ρ' => .err x ρ'
          | none => .no)
        | .no => .no) = _
    rw [hk]
    show (match den [s] with
        | .ok r os => (match putO [.s k] os ρ with
          | some ρ' => Rs.ok r ρ'
          | none => .no)
        | .err x os => (match putO [.s k] os ρ with
          | some ρ' => .err x ρ'
          | none => .no)
        | .no => .no) = _
    rw [hd]
    rfl
  unfold callD
  rw [bind_ok ((bind_ok h1).trans h2)]
  rfl
theorem fn_rn {msk : List Bool} {n : Nat} {mb : M Fl} {sls : List Sl} {o : OO} {os : List (Option OO)} {ρ : Rho} (hk : okM msk sls = true) (hm : mb (sls.map some ++ List.replicate (n - sls.length) none) = .ok (.rn o) ρ) (he : ends msk ρ = some os) : fnDen msk n mb sls = .ok (.rn o) os := by
  unfold fnDen
  rw [if_pos hk, hm]
  show endM msk (.rn o) ρ = _
  unfold endM
  rw [he]
theorem well_eq {ns : List Int} (hl : ns.length ≤ 63) (hb : ∀ z ∈ ns, ib z ≤ 1048576) : ∃ cs, den__law_well e [.fz (.fl (iL ns))] = .ok (.rn (wl cs 0 0)) [none] ∧ Good 0 cs 0 0 := by
  let A := HT.sIx (iL ns).length 0 none
  let B := HT.sIx (iL ns).length (iL ns).length (some 62) - HT.sIx (iL ns).length 0 none
  have hc : cutD (iL ns) none (some 62) = iL ((ns.drop A).take B) := by
    show ((iL ns).drop A).take B = _
    rw [List.map_drop.symm, List.map_take.symm]
  have hlen : ((ns.drop A).take B).length ≤ 63 := by
    rw [List.length_take, List.length_drop]
    omega
  refine ⟨(ns.drop A).take B, ?_, ⟨hlen, fun c h => hb c (List.mem_of_mem_drop (List.mem_of_mem_take h)), Int.le_refl _, Int.le_refl _, Int.le_refl _, by decide⟩⟩
  refine fn_rn (ρ := [some (.fz (.fl (iL ns))), none]) rfl ?_ rfl
  refine bind_ok (ρ1 := [some (.fz (.fl (iL ns))), none]) (lst_ok (as_cons (fz_ok (lcM_map D.int D.int ((ns.drop A).take B) (it_ok (d := .lst (cutD (iL ns) none (some 62))) rfl rfl) hc (by show _ ≤ 16777216; omega) rfl rfl fun x hx => ⟨_, rfl, mC_ok (as1 rfl) rfl, rfl⟩)) (as_cons rfl (as1 rfl))))
/-- the frame of law -/
def LF (s : D) (w : OO) (m : Nat → Nat → Nat → Int) (z : Bool) (ps : D) (s6 s7 s8 s9 s10 s11 s12 s13 s14 s15 : Option D) : Rho := [some (.fz s), some (.own w), some (.fz (matD D.lst D.lst D.lst m)), some (.fz (.bl z)), some (.fz (.tup (iL (detL (Fm m))))), some (.fz ps), s6.map Sl.fz, s7.map Sl.fz, s8.map Sl.fz, s9.map Sl.fz, s10.map Sl.fz, s11.map Sl.fz, s12.map Sl.fz, s13.map Sl.fz, s14.map Sl.fz, s15.map Sl.fz, none, none, none, none, none]
section
variable {s : D} {w : OO} {m : Nat → Nat → Nat → Int} {z : Bool} {ps : D} {s6 s7 s8 s9 s10 s11 s12 s13 s14 s15 : Option D}
theorem par_ok {ρ ρ1 : Rho} {i j : Nat} {ra : M (List Pa)} {d f : D} (h : mAs ra ρ = .ok [d, f] ρ1) : parM i j ra ρ = .ok .nx ((ρ1.set i (some (.fz d))).set j (some (.fz f))) := by
  unfold parM
  rw [bind_ok h]
theorem A10 : parM 9 10 (aV (mCut (rdV 2) (pNo) (pYes (ret (.int 2)))) (aV (m2 (rdV 2) (mCut (rdV 2) (pNo) (pYes (ret (.int 1)))) dAdd) (aNil))) (LF s w m z ps s6 s7 s8 s9 s10 s11 s12 s13 s14 s15) = .ok .nx (LF s w m z ps s6 s7 s8 (some (.lst [r_ m 0, r_ m 1])) (some (.lst [r_ m 0, r_ m 1, r_ m 2, r_ m 0])) s11 s12 s13 s14 s15) := by
  refine (par_ok (d := .lst [r_ m 0, r_ m 1]) (f := .lst [r_ m 0, r_ m 1, r_ m 2, r_ m 0]) (ρ1 := LF s w m z ps s6 s7 s8 s9 s10 s11 s12 s13 s14 s15) ?_).trans rfl
  exact as_cons rfl (as1 (m2_ok rfl rfl rfl))
theorem ne_rep {n : Nat} {x : D} (h1 : eqOk (.lst (List.replicate n x)) (.lst (List.replicate n x)) = true) (h2 : deq (.lst (List.replicate n x)) (.lst (List.replicate n x)) = true) : dNe (.lst (List.replicate n x)) (.lst (List.replicate n x)) = some (.bl false) := by
  unfold dNe
  rw [if_pos h1, h2]
  rfl
/-- what is odd -/
def odd7 (m : Nat → Nat → Nat → Int) : List D := [.lst [r_ m 0, r_ m 1], .lst [r_ m 0, r_ m 1, r_ m 2, r_ m 0], .lst [.lst [f_ m 0 0, f_ m 0 1], .lst [f_ m 1 0, f_ m 1 1], .lst [f_ m 2 0, f_ m 2 1]], .lst [r_ m 0, r_ m 1, .lst [f_ m 2 0, f_ m 2 1, .lst [.int (m 2 2 0), .int (m 2 2 1), .int (m 2 2 2)]]], .non, .str "matrix", r_ m 0]
theorem A11 : asgM 11 (fzM (lstM (aV (rdV 9) (aV (rdV 10) (aV (fzM (lcM (itM (rdV 2)) (tgN 17) (yesM) (mCut (rdV 17) (pNo) (pYes (ret (.int 2)))) [17])) (aV (m2 (mCut (rdV 2) (pNo) (pYes (ret (.int 2)))) (fzM (lstM (aV (m2 (mCut (m2 (rdV 2) (ret (.int 2)) dIx) (pNo) (pYes (ret (.int 2)))) (fzM (lstM (aV (mCut (m2 (m2 (rdV 2) (ret (.int 2)) dIx) (ret (.int 2)) dIx) (pNo) (pYes (ret (.int 3)))) (aNil)))) dAdd) (aNil)))) dAdd) (aV (ret .non) (aV (ret (.str "matrix")) (aV (m2 (rdV 2) (ret (.int 0)) dIx) (aNil)))))))))) (LF s w m z ps s6 s7 s8 (some (.lst [r_ m 0, r_ m 1])) (some (.lst [r_ m 0, r_ m 1, r_ m 2, r_ m 0])) s11 s12 s13 s14 s15) = .ok .nx (LF s w m z ps s6 s7 s8 (some (.lst [r_ m 0, r_ m 1])) (some (.lst [r_ m 0, r_ m 1, r_ m 2, r_ m 0])) (some (.lst (odd7 m))) s12 s13 s14 s15) := by
  refine asg2 (fz_ok (lst_ok (as_cons rfl (as_cons rfl (as_cons (fz_ok (lcM_map (fun i => r_ m i) (fun i => .lst [f_ m i 0, f_ m i 1]) [0, 1, 2] (it_ok rfl rfl) rfl (by simp [szOk]) rfl rfl fun i hi => ⟨_, rfl, rfl, rfl⟩)) (as_cons (m2_ok rfl (fz_ok (lst_ok (as1 (m2_ok rfl (fz_ok (lst_ok (as1 rfl))) rfl)))) rfl) (as_cons rfl (as_cons rfl (as1 rfl))))))))) rfl
theorem A12 : asgM 11 (m2 (rdV 11) (fzM (lstM (aV (m2 (mCut (rdV 2) (pNo) (pYes (ret (.int 2)))) (fzM (lstM (aV (m2 (mCut (m2 (rdV 2) (ret (.int 2)) dIx) (pNo) (pYes (ret (.int 2)))) (fzM (lstM (aV (fzM (lstM (aV (ret (.int 1)) (aV (ret (.int 0)) (aV (ret (.bl true)) (aV (ret (.int 0)) (aNil))))))) (aNil)))) dAdd) (aNil)))) dAdd) (aV (m2 (mCut (rdV 2) (pNo) (pYes (ret (.int 2)))) (fzM (lstM (aV (m2 (mCut (m2 (rdV 2) (ret (.int 2)) dIx) (pNo) (pYes (ret (.int 2)))) (fzM (lstM (aV (ret (.int 7)) (aNil)))) dAdd) (aNil)))) dAdd) (aNil))))) dAdd) (LF s w m z ps s6 s7 s8 s9 s10 (some (.lst (odd7 m))) s12 s13 s14 s15) = .ok .nx (LF s w m z ps s6 s7 s8 s9 s10 (some (.lst (odd m))) s12 s13 s14 s15) := by
  refine asg2 (m2_ok rfl (fz_ok (lst_ok (as_cons (m2_ok rfl (fz_ok (lst_ok (as1 (m2_ok rfl (fz_ok (lst_ok (as1 rfl))) rfl)))) rfl) (as1 (m2_ok rfl (fz_ok (lst_ok (as1 (m2_ok rfl (fz_ok (lst_ok (as1 rfl))) rfl)))) rfl))))) rfl) rfl
theorem A13 : (mB (m2 (fzM (lcM (itM (rdV 11)) (tgN 18) (yesM) (callD (den__law_heard e) (aV (rdV 18) (aV (tupM (aV (ret (.int 0)) (aV (ret (.int 0)) (aV (ret (.int 0)) (aV (ret (.int 0)) (aNil)))))) (aNil)))) [18])) (m2 (fzM (lstM (aV (tupM (aV (tupM (aV (ret (.str "form")) (aV (ret (.str "matrix")) (aNil)))) (aV (tupM (aV (ret (.str "form")) (aV (ret (.str "matrix")) (aNil)))) (aNil)))) (aNil)))) (mC (aV (rdV 11) (aNil)) dLen) dMul) dNe)) (LF s w m z ps s6 s7 s8 s9 s10 (some (.lst (odd m))) s12 s13 s14 s15) = .ok false (LF s w m z ps s6 s7 s8 s9 s10 (some (.lst (odd m))) s12 s13 s14 s15) := by
  refine mB_ok (m2_ok (fz_ok (lcM_map (fun X => X) (fun _ => .tup [sayF, sayF]) (odd m) (it_ok rfl rfl) (by simp) (show (9 : Nat) ≤ 16777216 by decide) rfl rfl fun X hX => ⟨_, rfl, call_ok (as_cons rfl (as1 (tup_ok (as_cons rfl (as_cons rfl (as_cons rfl (as1 rfl))))))) (heard_bad e (odd_bad e X hX)), rfl⟩)) (m2_ok (fz_ok (lst_ok (as1 (tup_ok (as_cons (tup_ok (as_cons rfl (as1 rfl))) (as1 (tup_ok (as_cons rfl (as1 rfl))))))))) (mC_ok (as1 rfl) (z := .int 9) rfl) rfl) ?_)
  exact ne_rep (n := 9) (x := .tup [sayF, sayF]) (by decide +kernel) (by decide +kernel)
theorem A14 (he : e "BadRow" ≠ e "BadForm") (hb : BdM m) : (mB (m2 (fzM (lcM (itM (fzM (lstM (aV (tupM (aV (ret (.int 0)) (aV (ret (.int 0)) (aV (ret (.int 0)) (aV (ret (.int 0)) (aNil)))))) (aV (tupM (aV (ret (.int 1)) (aV (ret (.int 2)) (aV (ret (.int 3)) (aNil))))) (aV (ret .non) (aV (tupM (aV (ret (.int 1)) (aV (ret (.int 0)) (aV (ret (.int 0)) (aV (ret (.str "1")) (aNil)))))) (aV (fzM (lstM (aV (ret (.int 1)) (aV (ret (.int 2)) (aV (ret (.int 3)) (aV (ret (.bl true)) (aNil))))))) (aNil))))))))) (tgN 8) (yesM) (m2 (callD (den__law_heard e) (aV (rdV 2) (aV (rdV 8) (aNil)))) (ret (.int 0)) dIx) [8])) (m2 (fzM (lstM (aV (tupM (aV (ret (.str "row")) (aV (ret (.str "place")) (aNil)))) (aNil)))) (ret (.int 5)) dMul) dNe)) (LF s w m z ps s6 s7 s8 s9 s10 s11 s12 s13 s14 s15) = .ok false (LF s w m z ps s6 s7 s8 s9 s10 s11 s12 s13 s14 s15) := by
  refine mB_ok (m2_ok (fz_ok (lcM_map (fun X => X) (fun _ => sayR) [D.tup [.int 0, .int 0, .int 0, .int 0], .tup [.int 1, .int 2, .int 3], .non, .tup [.int 1, .int 0, .int 0, .str "1"], .lst [.int 1, .int 2, .int 3, .bl true]] (it_ok (fz_ok (lst_ok (as_cons (tup_ok (as_cons rfl (as_cons rfl (as_cons rfl (as1 rfl))))) (as_cons (tup_ok (as_cons rfl (as_cons rfl (as1 rfl)))) (as_cons rfl (as_cons (tup_ok (as_cons rfl (as_cons rfl (as_cons rfl (as1 rfl))))) (as1 (fz_ok (lst_ok (as_cons rfl (as_cons rfl (as_cons rfl (as1 rfl))))))))))))) rfl) rfl (by simp [szOk]) (by cases s8 <;> rfl) (by cases s8 <;> rfl) fun X hX => ⟨_, rfl, m2_ok (call_ok (as_cons rfl (as1 rfl)) (heard_row e (tm := D.lst) (tr := D.lst) (tf := D.lst) (m := m) (.inl rfl) (.inl rfl) (.inl rfl) hb he (bad_rows e X hX))) rfl rfl, rfl⟩)) (m2_ok (fz_ok (lst_ok (as1 (tup_ok (as_cons rfl (as1 rfl)))))) rfl rfl) ?_)
  exact ne_rep (n := 5) (x := sayR) (by decide +kernel) (by decide +kernel)
def m0 : Nat → Nat → Nat → Int := fun _ _ _ => 0
theorem m0_bd : BdM m0 := fun i j _ _ c hc => by
  simp only [Fm, m0, List.mem_cons, List.not_mem_nil, or_false, or_self] at hc
  subst hc
  decide
theorem A15 : asgM 12 (m2 (fzM (lstM (aV (m2 (fzM (lstM (aV (tupM (aV (ret (.int 0)) (aV (ret (.int 0)) (aV (ret (.int 0)) (aV (ret (.int 0)) (aNil)))))) (aNil)))) (ret (.int 3)) dMul) (aNil)))) (ret (.int 3)) dMul) (LF s w m z ps s6 s7 s8 s9 s10 s11 s12 s13 s14 s15) = .ok .nx (LF s w m z ps s6 s7 s8 s9 s10 s11 (some (matD D.lst D.lst D.tup m0)) s13 s14 s15) := by
  refine asg2 (m2_ok (fz_ok (lst_ok (as1 (m2_ok (fz_ok (lst_ok (as1 (tup_ok (as_cons rfl (as_cons rfl (as_cons rfl (as1 rfl)))))))) rfl rfl)))) rfl rfl) rfl
theorem det0 : detL (Fm m0) = List.replicate 20 0 := by decide +kernel
theorem pl1234 : plL [1, 2, 3, 4] = [1, 2, 3, 4] := by decide
theorem pl0009 : plL [0, 0, 0, 9] = [0, 0, 0, 1] := by decide
theorem A16 : (orM (mB (m2 (callD (den_determinant_form e) (aV (rdV 12) (aNil))) (m2 (tupM (aV (ret (.int 0)) (aNil))) (ret (.int 20)) dMul) dNe)) (mB (m2 (callD (den_matrix_at e) (aV (rdV 12) (aV (tupM (aV (ret (.int 1)) (aV (ret (.int 2)) (aV (ret (.int 3)) (aV (ret (.int 4)) (aNil)))))) (aNil)))) (m2 (tupM (aV (tupM (aV (ret (.int 0)) (aV (ret (.int 0)) (aV (ret (.int 0)) (aNil))))) (aNil))) (ret (.int 3)) dMul) dNe))) (LF s w m z ps s6 s7 s8 s9 s10 s11 (some (matD D.lst D.lst D.tup m0)) s13 s14 s15) = .ok false (LF s w m z ps s6 s7 s8 s9 s10 s11 (some (matD D.lst D.lst D.tup m0)) s13 s14 s15) := by
  have d0 := detform_eq e (tm := D.lst) (tr := D.lst) (tf := D.tup) (m := m0) (.inl rfl) (.inl rfl) (.inr rfl) m0_bd
  rw [det0] at d0
  have p0 := place_eq e (d := .tup [.int 1, .int 2, .int 3, .int 4]) (p := .str "place") (x0 := 1) (x1 := 2) (x2 := 3) (x3 := 4) (.inr rfl) (by decide) (by decide) (by decide) (by decide)
  rw [pl1234] at p0
  have t0 := matat_eq e (tm := D.lst) (tr := D.lst) (tf := D.tup) (m := m0) (.inl rfl) (.inl rfl) (.inr rfl) m0_bd p0 (by
    intro c hc
    simp only [List.mem_cons, List.not_mem_nil, or_false] at hc
    rcases hc with rfl | rfl | rfl | rfl <;> decide) (by decide)
  refine orf2 (mB_ok (m2_ok (call_ok (as1 rfl) d0) (m2_ok (tup_ok (as1 rfl)) rfl rfl) ?_)) (mB_ok (m2_ok (call_ok (as_cons rfl (as1 (tup_ok (as_cons rfl (as_cons rfl (as_cons rfl (as1 rfl))))))) t0) (m2_ok (tup_ok (as1 (tup_ok (as_cons rfl (as_cons rfl (as1 rfl)))))) rfl rfl) ?_))
  · rfl
  · rfl
theorem A17 (hb : BdM m) : (retM (m2 (callD (den__law_heard e) (aV (rdV 2) (aV (tupM (aV (ret (.int 0)) (aV (ret (.int 0)) (aV (ret (.int 0)) (aV (ret (.int 9)) (aNil)))))) (aNil)))) (tupM (aV (ret .non) (aV (ret .non) (aNil)))) dEq)) (LF s w m z ps s6 s7 s8 s9 s10 s11 s12 s13 s14 s15) = .ok (.rt (.bl true)) (LF s w m z ps s6 s7 s8 s9 s10 s11 s12 s13 s14 s15) := by
  have p0 := place_eq e (d := .tup [.int 0, .int 0, .int 0, .int 9]) (p := .str "place") (x0 := 0) (x1 := 0) (x2 := 0) (x3 := 9) (.inr rfl) (by decide) (by decide) (by decide) (by decide)
  rw [pl0009] at p0
  refine ret_ok (m2_ok (call_ok (as_cons rfl (as1 (tup_ok (as_cons rfl (as_cons rfl (as_cons rfl (as1 rfl))))))) (heard_ok e (tm := D.lst) (tr := D.lst) (tf := D.lst) (m := m) (.inl rfl) (.inl rfl) (.inl rfl) hb p0 (by
    intro c hc
    simp only [List.mem_cons, List.not_mem_nil, or_false] at hc
    rcases hc with rfl | rfl | rfl | rfl <;> decide) (by decide))) (tup_ok (as_cons rfl (as1 rfl))) rfl)
end
end K75

set_option Elab.async false
set_option linter.all false
set_option maxRecDepth 100000
set_option maxHeartbeats 1000000
/-! P19: the plain law. -/
namespace K75
open PySem PySem.Spec PyProof.Rows L2 Dn
variable (e : Str → Addr)
section
variable {s : D} {w : OO} {m : Nat → Nat → Nat → Int} {z : Bool}
theorem A3 (hl : (detL (Fm m)).length = 20) (hz : z = true → Deg m) : (orM (notM (mT (mC (aV (rdV 4) (aV (ret (.ty "tuple")) (aNil))) dIsi))) (orM (mB (m2 (mC (aV (rdV 4) (aNil)) dLen) (ret (.int 20)) dNe)) (andM (mT (rdV 3)) (mB (m2 (rdV 4) (m2 (tupM (aV (ret (.int 0)) (aNil))) (ret (.int 20)) dMul) dNe))))) (LO s w m z none none none none) = .ok false (LO s w m z none none none none) := by
  refine orf2 (notM_ok (b := true) (mT_ok (mC_ok (as_cons rfl (as1 rfl)) rfl))) (orf2 (mB_ok (m2_ok (mC_ok (as1 rfl) (z := .int 20) ?_) rfl (dNe_int 20 20))) ?_)
  · show some (D.int ((iL (detL (Fm m))).length : Int)) = _
    rw [List.length_map, hl]
    rfl
  · cases z with
    | false => exact and_f (mT_ok rfl)
    | true =>
      refine andt2 (mT_ok rfl) (mB_ok (m2_ok rfl (m2_ok (tup_ok (as1 rfl)) rfl rfl) ?_))
      rw [deg_zero (hz rfl) hl]
      exact tup_ne_refl (List.replicate 20 0)
theorem A4 (hl : (detL (Fm m)).length = 20) (hb : BdM m) : (orM (mB (m2 (fzM (lcM (itM (rdV 4)) (tgN 19) (orM (mT (mC (aV (rdV 19) (aV (ret (.ty "bool")) (aNil))) dIsi)) (notM (mT (mC (aV (rdV 19) (aV (ret (.ty "int")) (aNil))) dIsi)))) (rdV 19) [19])) (fzM (lstM (aNil))) dNe)) (mB (m2 (callD (den_determinant_form e) (aV (mC (aV (fzM (lcM (itM (rdV 2)) (tgN 17) (yesM) (mC (aV (rdV 17) (aNil)) dTuple) [17])) (aNil)) dTuple) (aNil))) (rdV 4) dNe))) (LO s w m z none none none none) = .ok false (LO s w m z none none none none) := by
  have f : fzM (lcM (itM (rdV 4)) (tgN 19) (orM (mT (mC (aV (rdV 19) (aV (ret (.ty "bool")) (aNil))) dIsi)) (notM (mT (mC (aV (rdV 19) (aV (ret (.ty "int")) (aNil))) dIsi)))) (rdV 19) [19]) (LO s w m z none none none none) = .ok (.lst (((detL (Fm m)).filter fun _ => false).map D.int)) (LO s w m z none none none none) :=
    fz_ok (lcM_of D.int (fun _ => false) D.int (detL (Fm m)) (it_ok rfl rfl) rfl (by rw [hl]; decide) rfl rfl fun x hx => ⟨_, rfl, orf2 (mT_ok (mC_ok (as_cons rfl (as1 rfl)) rfl)) (notM_ok (b := true) (mT_ok (mC_ok (as_cons rfl (as1 rfl)) rfl))), fun z => (Bool.noConfusion z), rfl⟩)
  rw [show (detL (Fm m)).filter (fun _ => false) = [] from List.filter_eq_nil_iff.mpr fun _ _ => Bool.false_ne_true] at f
  refine orf2 (mB_ok (m2_ok f (fz_ok (lst_ok as_nil)) rfl)) (mB_ok (m2_ok (call_ok (as1 (mC_ok (as1 (fz_ok (lcM_map (fun i => rowD D.lst D.lst m i) (fun i => rowD D.tup D.lst m i) [0, 1, 2] (it_ok rfl rfl) rfl (by simp [szOk]) rfl rfl fun i hi => ⟨_, rfl, mC_ok (as1 rfl) rfl, rfl⟩))) rfl)) (detform_eq e (tm := D.tup) (tr := D.tup) (tf := D.lst) (m := m) (.inr rfl) (.inr rfl) (.inl rfl) hb)) rfl (tup_ne_refl _)))
end
theorem plain (he : e "BadRow" ≠ e "BadForm") (ns : List Int) (hl : ns.length ≤ 63) (hb : ∀ z ∈ ns, Builtin.Int.intBits z ≤ 1048576) : ∃ os, den_law e [.fz (.fl (ns.map D.int))] = .ok (.rt (.bl true)) os := by
  obtain ⟨cs, hw, g0⟩ := well_eq e hl hb
  obtain ⟨m, z, a1, r1, hm, g1, bm, deg⟩ := matrix_eq e g0 (by decide)
  have hbm : BdM m := fun i j _ _ c hc => by
    simp only [Fm, List.mem_cons, List.not_mem_nil, or_false] at hc
    rcases hc with rfl | rfl | rfl | rfl <;> exact Nat.le_trans (bm _ _ _) (by decide)
  obtain ⟨_, dbd, dlen⟩ := det_eq e (ixM (tm := D.lst) (tr := D.lst) (tf := D.lst) (.inl rfl) (.inl rfl) (.inl rfl) hbm)
  let s : D := .fl (iL ns)
  obtain ⟨ps, a2, r2, t7, hd, hps⟩ := d_loop e (s := s) (m := m) (z := z) (rngD 0 1 12) (0 + 50) a1 r1 pl1 (some (.int 3)) none (some (.int 2)) g1 (by decide) (by decide) pl1_ok
  obtain ⟨t8, t14, t15, hp⟩ := p_loop e (s := s) (w := wl cs a2 r2) (z := z) (ps := .lst (plD ps)) (s6 := some (.int 3)) (s7 := t7) bm hbm dlen dbd ps none (some (.int 2)) none none hps
  refine ⟨[none], fn_rt (ρ := LF s (wl cs a2 r2) m z (.lst (plD ps)) (some (.int 3)) t7 t8 (some (.lst [r_ m 0, r_ m 1])) (some (.lst [r_ m 0, r_ m 1, r_ m 2, r_ m 0])) (some (.lst (odd m))) (some (matD D.lst D.lst D.tup m0)) (some (.int 2)) t14 t15) rfl ?_ rfl⟩
  refine seq2 (asgN2 (callN_ok (as1 rfl) hw) rfl) ?_
  refine seq2 (tgS_ok (call_s1 (k := 1) rfl hm) rfl) ?_
  refine seq2 (ρ1 := LO s (wl cs a1 r1) m z none none none none) (asg2 (call_ok (as1 rfl) (detform_eq e (tm := D.lst) (tr := D.lst) (tf := D.lst) (m := m) (.inl rfl) (.inl rfl) (.inl rfl) hbm)) rfl) ?_
  refine seq2 (iff2 (A3 dlen deg) rfl) ?_
  refine seq2 (iff2 (A4 e dlen hbm) rfl) ?_
  refine seq2 A6 ?_
  refine seq2 A7 ?_
  refine seq2 (for2 (rng1_ok (as1 rfl) (by decide)) hd) ?_
  refine seq2 (for2 (ρ1 := LR s (wl cs a2 r2) m z (.lst (plD ps)) (some (.int 3)) t7 none (some (.int 2)) none none) (it_ok (d := .lst (plD ps)) rfl rfl) hp) ?_
  refine seq2 (ρ1 := LF s (wl cs a2 r2) m z (.lst (plD ps)) (some (.int 3)) t7 t8 (some (.lst [r_ m 0, r_ m 1])) (some (.lst [r_ m 0, r_ m 1, r_ m 2, r_ m 0])) none none (some (.int 2)) t14 t15) (A10 (s9 := none) (s10 := none) (s11 := none) (s12 := none)) ?_
  refine seq2 A11 ?_
  refine seq2 A12 ?_
  refine seq2 (iff2 (A13 e) rfl) ?_
  refine seq2 (iff2 (A14 e he hbm) rfl) ?_
  refine seq2 A15 ?_
  refine seq2 (iff2 (A16 e) rfl) ?_
  exact A17 e hbm
end K75

set_option Elab.async false
set_option linter.all false
set_option maxRecDepth 100000
set_option maxHeartbeats 0
namespace K75
open PySem PySem.Spec PyProof.Rows L2 Dn
theorem classes {K : PySem.W.Frag} (h1 : PySem.W.exmOne K (.ref (He.ga K "BadRow")) (.ref (He.ga K "BadForm")) = some false) (h2 : PySem.W.exmOne K (.ref (He.ga K "BadForm")) (.ref (He.ga K "BadForm")) = some true) : He.ga K "BadRow" ≠ He.ga K "BadForm" := fun z => by
  rw [z, h2] at h1
  cases h1
end K75
open PySem PySem.W PySem.Calls PyProof.Rows
theorem PySem.Challenge.cw_sixpins_k75_determinants_of_any_matrix_holds : PySem.Challenge.rw_sixpins_k75_determinants_of_any_matrix.Holds := by
  w_on; o_law
  refine HandSHeadRun.head_imp (r := OpenLaw.row PySem.Challenge.rw_sixpins_k75_determinants_of_any_matrix) (q := view (OpenLaw.row PySem.Challenge.rw_sixpins_k75_determinants_of_any_matrix).prog [0, 41]) (H := K75.hk) (ob := K75.ob) (M := 20000) (loose := K75.names) (d := HandSHeadRun.topDef (OpenLaw.row PySem.Challenge.rw_sixpins_k75_determinants_of_any_matrix).prog 41) (kwd := []) K75.ob_eq
    K75.run (by kernel_rfl) (by kernel_rfl) (by kernel_rfl) (by rfl) (by first | assumption | decide +kernel) (by decide +kernel) ⟨rfl, rfl, rfl, rfl, rfl, by decide +kernel⟩ ?hw ?hc
  case hw => w_witness2
  case hc =>
    refine Dn.walkD (l := PySem.Challenge.rw_sixpins_k75_determinants_of_any_matrix) (n := 63) (k := 9) (x := "script") rfl (by decide) (by kernel_rfl) ⟨rfl, by decide, by decide⟩ ?F
    intro w mg fa h Y G hmg0
    obtain ⟨K, KX, c⟩ := Y
    have hmg : mg ("law" : PySem.Str) = some (.ref fa) := by
      have e : (HandSHeadRun.topDef (OpenLaw.row PySem.Challenge.rw_sixpins_k75_determinants_of_any_matrix).prog 41).name = ("law" : PySem.Str) := by kernel_rfl
      rw [← e]
      exact hmg0
    have e := hmg.symm.trans (He.glo_ok KX G (c.saysE.says.fact 27 (f := .glo "law") rfl))
    cases e
    obtain ⟨fd, hb, hF⟩ := K75.fn_of_law (P := (PySem.Challenge.rw_sixpins_k75_determinants_of_any_matrix).prog) c
    refine ⟨K, fd, _, KX, hb, fun ns hl hz => K75.plain (He.ga K) ?_ ns hl hz, fun base h1 h2 => hF w mg base base h1 h2⟩
    exact K75.classes (He.exm_ok (c.saysE.says.fact 45 (f := .exm "BadRow" "BadForm" false) rfl)) (He.exm_ok (c.saysE.says.fact 47 (f := .exm "BadForm" "BadForm" true) rfl))
