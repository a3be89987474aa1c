import PyProof.Rows.All
import Wide.All
import OpenK.AllK
import Wide.FinOn
import HandS.ForMost
import HandS.ForExc
import HandS.TupAny
import HandS.TupMul
import HandS.SortInts
import HandS.Zip
import HandS.Deep
import HandS.RaiseMore
import HandS.Style
import HandS.Words
import HandS.IsInst
import HandS.Text
import HandS.Dict
import KE.GoesEnum
import HandS.More
import HandS.Small
import HandS.HeadHook3
import PySem.Challenge.RW_leftasleep_k39_good_books_by_names
set_option Elab.async false
set_option linter.all false
set_option maxRecDepth 100000
set_option maxHeartbeats 4000000
/-! the clean layer, part A: plain data, computations, what a value stands for -/
namespace Cl
open PySem PySem.Spec PyProof.Rows L2

abbrev D := PyData
/-- an exception: its class's name, its fields -/
structure Xc where
  cls : Str
  fs : List (Str × D)
/-- a plain computation -/
inductive P (α : Type) where
  | ok (a : α) | ex (x : Xc) | no
/-- a computation over a state, with choices: by its weakest precondition -/
structure M (γ α : Type) where
  wp : γ → (α → γ → Prop) → (Xc → γ → Prop) → Prop
  mono : ∀ {g : γ} {Q Q' : α → γ → Prop} {E : Xc → γ → Prop}, wp g Q E → (∀ a g, Q a g → Q' a g) → wp g Q' E
/-- what a statement leads to -/
inductive Fl (ρ α : Type) where
  | nx (a : α) | rt (r : ρ) | bk (a : α) | ct (a : α)

class MO (m : Type → Type) where
  pur : {α : Type} → α → m α
  bnd : {α β : Type} → m α → (α → m β) → m β
  lift : {α : Type} → P α → m α
  /-- what it raises counts as stuck -/
  nox : {α : Type} → m α → m α
open MO

namespace P
@[reducible] def bnd {α β : Type} (x : P α) (k : α → P β) : P β := match x with
  | .ok a => k a
  | .ex e => .ex e
  | .no => .no
@[reducible] def nox {α : Type} (x : P α) : P α := match x with
  | .ok a => .ok a
  | .ex _ => .no
  | .no => .no
end P
@[reducible] instance instP : MO P := ⟨fun a => .ok a, P.bnd, fun p => p, P.nox⟩

def wpP {γ α : Type} (p : P α) (g : γ) (Q : α → γ → Prop) (E : Xc → γ → Prop) : Prop := match p with
  | .ok a => Q a g
  | .ex x => E x g
  | .no => False
theorem wpP_mono {γ α : Type} {p : P α} {g : γ} {Q Q' : α → γ → Prop} {E : Xc → γ → Prop} (h : wpP p g Q E) (hq : ∀ a g, Q a g → Q' a g) : wpP p g Q' E := by
  cases p with
  | ok a => exact hq _ _ h
  | ex x => exact h
  | no => exact h
@[reducible] instance instM {γ : Type} : MO (M γ) where
  pur := fun a => ⟨fun g Q _ => Q a g, fun h hq => hq _ _ h⟩
  bnd := fun x k => ⟨fun g Q E => x.wp g (fun a g' => (k a).wp g' Q E) E, fun h hq => x.mono h fun a g' h' => (k a).mono h' hq⟩
  lift := fun p => ⟨fun g Q E => wpP p g Q E, fun h hq => wpP_mono h hq⟩
  nox := fun x => ⟨fun g Q _ => x.wp g Q (fun _ _ => False), fun h hq => x.mono h hq⟩

class PM (γ : Type) (m : Type → Type) extends MO m where
  wp : {α : Type} → m α → γ → (α → γ → Prop) → (Xc → γ → Prop) → Prop
  mono : ∀ {α : Type} {x : m α} {g : γ} {Q Q' : α → γ → Prop} {E : Xc → γ → Prop}, wp x g Q E → (∀ a g, Q a g → Q' a g) → wp x g Q' E
  of_pur : ∀ {α : Type} {a : α} {g : γ} {Q : α → γ → Prop} {E : Xc → γ → Prop}, wp (pur a) g Q E → Q a g
  of_bnd : ∀ {α β : Type} {x : m α} {k : α → m β} {g : γ} {Q : β → γ → Prop} {E : Xc → γ → Prop}, wp (bnd x k) g Q E → wp x g (fun a g' => wp (k a) g' Q E) E
  of_lift : ∀ {α : Type} {p : P α} {g : γ} {Q : α → γ → Prop} {E : Xc → γ → Prop}, wp (lift p) g Q E → wpP p g Q E
  of_nox : ∀ {α : Type} {x : m α} {g : γ} {Q : α → γ → Prop} {E : Xc → γ → Prop}, wp (nox x) g Q E → wp x g Q (fun _ _ => False)
@[reducible] instance instPP {γ : Type} : PM γ P where
  toMO := instP
  wp := fun p g Q E => wpP p g Q E
  mono := wpP_mono
  of_pur := fun h => h
  of_bnd := fun {α β x k g Q E} h => by cases x <;> exact h
  of_lift := fun h => h
  of_nox := fun {α x g Q E} h => by cases x <;> exact h
@[reducible] instance instPM {γ : Type} : PM γ (M γ) where
  toMO := instM
  wp := fun x => x.wp
  mono := fun {α x g Q Q' E} h hq => x.mono h hq
  of_pur := fun h => h
  of_bnd := fun h => h
  of_lift := fun h => h
  of_nox := fun h => h

/-! ### what a value stands for -/
def kD : Key → D
  | .inl i => .int i
  | .inr s => .str s
mutual
inductive Rp (K : PySem.W.Frag) (G : Hp) : V → D → Prop
  | non : Rp K G .non .none
  | bl (b : Bool) : Rp K G (.bl b) (.bool b)
  | int (i : Int) : Rp K G (.int i) (.int i)
  | str (x : Str) : Rp K G (.str x) (.str x)
  | lst {a : Addr} {vs : List V} {ds : List D} : G a = some (.lst vs) → RpL K G vs ds → Rp K G (.ref a) (.list ds)
  | tup {a : Addr} {vs : List V} {ds : List D} : SqT K G a vs → RpL K G vs ds → Rp K G (.ref a) (.tuple ds)
  | dct {a : Addr} {kvs : List (Key × V)} {ds : List (D × D)} : G a = some (.dK kvs) → RpK K G kvs ds → Rp K G (.ref a) (.dict ds)
inductive RpL (K : PySem.W.Frag) (G : Hp) : List V → List D → Prop
  | nil : RpL K G [] []
  | cons {v : V} {vs : List V} {d : D} {ds : List D} : Rp K G v d → RpL K G vs ds → RpL K G (v :: vs) (d :: ds)
inductive RpK (K : PySem.W.Frag) (G : Hp) : List (Key × V) → List (D × D) → Prop
  | nil : RpK K G [] []
  | cons {k : Key} {v : V} {kvs : List (Key × V)} {d : D} {ds : List (D × D)} : Rp K G v d → RpK K G kvs ds → RpK K G ((k, v) :: kvs) ((kD k, d) :: ds)
end

/-- all that G knows H knows -/
def Sub (G H : Hp) : Prop := ∀ a o, G a = some o → H a = some o
theorem Sub.refl (G : Hp) : Sub G G := fun _ _ h => h
theorem Sub.trans {G H I : Hp} (a : Sub G H) (b : Sub H I) : Sub G I := fun c o h => b c o (a c o h)
theorem Sub.rd {G H : Hp} {a : Addr} {u : HO} (e : Sub G H) (h : Rd G a u) : Rd H a u := by
  rcases h with h | ⟨o, h⟩
  · exact .inl (e _ _ h)
  · exact .inr ⟨o, e _ _ h⟩
theorem Sub.seq {K : PySem.W.Frag} {G H : Hp} {a : Addr} {xs : List V} (e : Sub G H) (h : SqT K G a xs) : SqT K H a xs := by
  rcases h with h | h
  · exact .inl (e.rd h)
  · exact .inr h
section
variable {K : PySem.W.Frag} {G G' H : Hp}
mutual
theorem Rp.sub (e : Sub G G') : ∀ {d : D} {v : V}, Rp K G v d → Rp K G' v d
  | .none, _, h => by cases h; exact .non
  | .bool _, _, h => by cases h; exact .bl _
  | .int _, _, h => by cases h; exact .int _
  | .str _, _, h => by cases h; exact .str _
  | .list ds, _, h => by
    cases h with
    | lst h1 h2 => exact .lst (e _ _ h1) (RpL.sub e h2)
  | .tuple ds, _, h => by
    cases h with
    | tup h1 h2 => exact .tup (e.seq h1) (RpL.sub e h2)
  | .dict ds, _, h => by
    cases h with
    | dct h1 h2 => exact .dct (e _ _ h1) (RpK.sub e h2)
theorem RpL.sub (e : Sub G G') : ∀ {ds : List D} {vs : List V}, RpL K G vs ds → RpL K G' vs ds
  | [], _, h => by cases h; exact .nil
  | d :: ds, _, h => by
    cases h with
    | cons h1 h2 => exact .cons (Rp.sub e h1) (RpL.sub e h2)
theorem RpK.sub (e : Sub G G') : ∀ {ds : List (D × D)} {kvs : List (Key × V)}, RpK K G kvs ds → RpK K G' kvs ds
  | [], _, h => by cases h; exact .nil
  | (kd, d) :: ds, _, h => by
    cases h with
    | cons h1 h2 => exact .cons (Rp.sub e h1) (RpK.sub e h2)
end
theorem RpL.length : ∀ {vs : List V} {ds : List D}, RpL K G vs ds → vs.length = ds.length
  | _, _, .nil => rfl
  | _, _, .cons _ t => by rw [List.length_cons, List.length_cons, RpL.length t]
theorem RpK.length : ∀ {vs : List (Key × V)} {ds : List (D × D)}, RpK K G vs ds → vs.length = ds.length
  | _, _, .nil => rfl
  | _, _, .cons _ t => by rw [List.length_cons, List.length_cons, RpK.length t]
theorem RpL.get : ∀ {vs : List V} {ds : List D} {i : Nat} {d : D}, RpL K G vs ds → ds[i]? = some d → ∃ v, vs[i]? = some v ∧ Rp K G v d
  | _, _, _, _, .nil, e => by simp at e
  | _, _, 0, _, .cons r _, e => by simp at e; subst e; exact ⟨_, rfl, r⟩
  | _, _, i + 1, d, .cons _ t, e => by
    obtain ⟨u, h1, h2⟩ := RpL.get (i := i) (d := d) t (by simpa using e)
    exact ⟨u, by simpa using h1, h2⟩
theorem RpL.get' : ∀ {vs : List V} {ds : List D} {i : Nat} {v : V}, RpL K G vs ds → vs[i]? = some v → ∃ d, ds[i]? = some d ∧ Rp K G v d
  | _, _, _, _, .nil, e => by simp at e
  | _, _, 0, _, .cons r _, e => by simp at e; subst e; exact ⟨_, rfl, r⟩
  | _, _, i + 1, d, .cons _ t, e => by
    obtain ⟨u, h1, h2⟩ := RpL.get' (i := i) (v := d) t (by simpa using e)
    exact ⟨u, by simpa using h1, h2⟩
theorem RpL.append : ∀ {vs ws : List V} {ds es : List D}, RpL K G vs ds → RpL K G ws es → RpL K G (vs ++ ws) (ds ++ es)
  | _, _, _, _, .nil, s => s
  | _, _, _, _, .cons r t, s => .cons r (RpL.append t s)
theorem RpL.take : ∀ {vs : List V} {ds : List D} (n : Nat), RpL K G vs ds → RpL K G (vs.take n) (ds.take n)
  | _, _, 0, _ => .nil
  | _, _, _ + 1, .nil => .nil
  | _, _, n + 1, .cons r t => .cons r (RpL.take n t)
theorem RpL.drop : ∀ {vs : List V} {ds : List D} (n : Nat), RpL K G vs ds → RpL K G (vs.drop n) (ds.drop n)
  | _, _, 0, r => r
  | _, _, _ + 1, .nil => .nil
  | _, _, n + 1, .cons _ t => RpL.drop n t
theorem RpL.set {v : V} {d : D} (r : Rp K G v d) : ∀ {vs : List V} {ds : List D} (i : Nat), RpL K G vs ds → RpL K G (vs.set i v) (ds.set i d)
  | _, _, _, .nil => .nil
  | _, _, 0, .cons _ t => .cons r t
  | _, _, i + 1, .cons q t => .cons q (RpL.set r i t)
theorem RpL.erase : ∀ {vs : List V} {ds : List D} (i : Nat), RpL K G vs ds → RpL K G (vs.eraseIdx i) (ds.eraseIdx i)
  | _, _, _, .nil => .nil
  | _, _, 0, .cons _ t => t
  | _, _, i + 1, .cons q t => .cons q (RpL.erase i t)
theorem RpL.one {v : V} {d : D} (r : Rp K G v d) : RpL K G [v] [d] := .cons r .nil
theorem RpL.reverse : ∀ {vs : List V} {ds : List D}, RpL K G vs ds → RpL K G vs.reverse ds.reverse
  | _, _, .nil => .nil
  | _, _, .cons r t => by
    rw [List.reverse_cons, List.reverse_cons]
    exact (RpL.reverse t).append (.one r)
theorem RpL.flatten : ∀ {n : Nat} {vs : List V} {ds : List D}, RpL K G vs ds → RpL K G (List.replicate n vs).flatten (List.replicate n ds).flatten
  | 0, _, _, _ => .nil
  | n + 1, _, _, h => by
    rw [List.replicate_succ, List.replicate_succ, List.flatten_cons, List.flatten_cons]
    exact h.append (RpL.flatten h)

/-! ### data without lists and dicts -/
mutual
def flat : D → Bool
  | .none | .bool _ | .int _ | .str _ => true
  | .tuple ds => flatL ds
  | .list _ => false
  | .dict _ => false
def flatL : List D → Bool
  | [] => true
  | d :: ds => flat d && flatL ds
end
/-- H without what stands at p -/
def cut (H : Hp) (p : Addr) : Hp := fun a => if a = p then none else H a
theorem cut_ne {H : Hp} {p a : Addr} (h : a ≠ p) : cut H p a = H a := by unfold cut; rw [if_neg h]
theorem cut_same {H : Hp} {p : Addr} : cut H p p = none := by unfold cut; rw [if_pos rfl]
/-- what is no tuple plays no part in flat data -/
def NoTup (G : Hp) (p : Addr) : Prop := ∀ xs, ¬ Rd G p (.tup xs)
mutual
theorem Rp.cut {p : Addr} (hp : NoTup G p) : ∀ {d : D} {v : V}, Rp K G v d → flat d = true → Rp K (Cl.cut G p) v d
  | .none, _, h, _ => by cases h; exact .non
  | .bool _, _, h, _ => by cases h; exact .bl _
  | .int _, _, h, _ => by cases h; exact .int _
  | .str _, _, h, _ => by cases h; exact .str _
  | .list ds, _, h, f => by simp [flat] at f
  | .tuple ds, _, h, f => by
    cases h with
    | tup h1 h2 =>
      rename_i a vs
      refine .tup ?_ (RpL.cut hp h2 (by simpa [flat] using f))
      rcases h1 with h1 | h1
      · have ne : a ≠ p := fun e => hp _ (e ▸ h1)
        rcases h1 with h1 | ⟨o, h1⟩
        · exact .inl (.inl (by rw [cut_ne ne]; exact h1))
        · exact .inl (.inr ⟨o, by rw [cut_ne ne]; exact h1⟩)
      · exact .inr h1
  | .dict ds, _, h, f => by simp [flat] at f
theorem RpL.cut {p : Addr} (hp : NoTup G p) : ∀ {ds : List D} {vs : List V}, RpL K G vs ds → flatL ds = true → RpL K (Cl.cut G p) vs ds
  | [], _, h, _ => by cases h; exact .nil
  | d :: ds, _, h, f => by
    cases h with
    | cons h1 h2 =>
      rw [flatL, Bool.and_eq_true] at f
      exact .cons (Rp.cut hp h1 f.1) (RpL.cut hp h2 f.2)
end
end

/-! ### where one stands: the visible heap G, a region J of objects that change, the heap H -/
structure Vis (G : Hp) (J : Addr → Prop) (H : Hp) : Prop where
  sub : Sub G H
  dis : ∀ a, J a → G a = none
  dom : ∀ a, J a → H a ≠ none
structure Aft (G : Hp) (J : Addr → Prop) (H : Hp) (G' : Hp) (J' : Addr → Prop) (H' : Hp) : Prop where
  gg : Sub G G'
  hh : ∀ a o, ¬ J a → H a = some o → H' a = some o
  dm : ∀ a, H a ≠ none → H' a ≠ none
  gn : ∀ a, G' a ≠ none → G a ≠ none ∨ H a = none
  jn : ∀ a, J' a → J a ∨ H a = none
  vis : Vis G' J' H'
section
variable {G G1 G2 H H1 H2 : Hp} {J J1 J2 : Addr → Prop}
theorem Aft.refl (v : Vis G J H) : Aft G J H G J H := ⟨Sub.refl _, fun _ _ _ h => h, fun _ h => h, fun _ h => .inl h, fun _ h => .inl h, v⟩
theorem Aft.trans (a : Aft G J H G1 J1 H1) (b : Aft G1 J1 H1 G2 J2 H2) : Aft G J H G2 J2 H2 where
  gg := a.gg.trans b.gg
  hh := fun c o hj h => b.hh c o (fun j1 => by
    rcases a.jn c j1 with q | q
    · exact hj q
    · rw [q] at h; cases h) (a.hh c o hj h)
  dm := fun c h => b.dm c (a.dm c h)
  gn := fun c h => by
    rcases b.gn c h with q | q
    · exact a.gn c q
    · exact .inr (Classical.byContradiction fun z => a.dm c z q)
  jn := fun c h => by
    rcases b.jn c h with q | q
    · exact a.jn c q
    · exact .inr (Classical.byContradiction fun z => a.dm c z q)
  vis := b.vis
theorem none_of_sub (e : Sub G H) {a : Addr} (h : H a = none) : G a = none := by
  cases q : G a with
  | none => rfl
  | some o => rw [e a o q] at h; cases h
theorem sub_upd {p : Addr} {o : HO} (h : G p = none) : Sub G (upd G p o) := fun a u e => by
  rw [upd_ne (ne_of_none e h)]; exact e
theorem sub_upd2 {p : Addr} {o : HO} (e : Sub G H) : Sub (upd G p o) (upd H p o) := fun a u h => by
  by_cases q : a = p
  · subst q; rw [upd_same] at h ⊢; exact h
  · rw [upd_ne q] at h ⊢; exact e a u h
theorem sub_updH {p : Addr} {o : HO} (e : Sub G H) (h : G p = none) : Sub G (upd H p o) := fun a u q => by
  rw [upd_ne (ne_of_none q h)]; exact e a u q
/-- what becomes of both heaps where nothing changes but new objects come -/
structure New (G H G' H' : Hp) : Prop where
  gg : Sub G G'
  hh : Sub H H'
  gn : ∀ a, G' a ≠ none → G a ≠ none ∨ H a = none
  sub : Sub G' H'
theorem New.refl (e : Sub G H) : New G H G H := ⟨Sub.refl _, Sub.refl _, fun _ h => .inl h, e⟩
theorem dm_of {H H' : Hp} (e : Sub H H') : ∀ a, H a ≠ none → H' a ≠ none := fun a h q => by
  cases z : H a with
  | none => exact h z
  | some o => rw [e a o z] at q; cases q
theorem New.trans (a : New G H G1 H1) (b : New G1 H1 G2 H2) : New G H G2 H2 where
  gg := a.gg.trans b.gg
  hh := a.hh.trans b.hh
  gn := fun c h => by
    rcases b.gn c h with q | q
    · exact a.gn c q
    · exact .inr (none_of_sub a.hh q)
  sub := b.sub
/-- a new visible object -/
theorem New.laid {p : Addr} {o : HO} (e : Sub G H) (h : H p = none) : New G H (upd G p o) (upd H p o) where
  gg := sub_upd (none_of_sub e h)
  hh := sub_upd h
  gn := fun a q => by
    by_cases z : a = p
    · subst z; exact .inr h
    · rw [upd_ne z] at q; exact .inl q
  sub := sub_upd2 e
/-- a new object that is not shown -/
theorem New.own {p : Addr} {o : HO} (e : Sub G H) (h : H p = none) : New G H G (upd H p o) where
  gg := Sub.refl _
  hh := sub_upd h
  gn := fun a q => .inl q
  sub := sub_updH e (none_of_sub e h)
theorem Vis.new (v : Vis G J H) (n : New G H G1 H1) : Vis G1 J H1 where
  sub := n.sub
  dis := fun a j => by
    cases q : G1 a with
    | none => rfl
    | some o =>
      rcases n.gn a (by rw [q]; exact Option.some_ne_none o) with z | z
      · exact absurd (v.dis a j) z
      · exact absurd z (v.dom a j)
  dom := fun a j => dm_of n.hh a (v.dom a j)
theorem New.aft (n : New G H G1 H1) (v : Vis G J H) : Aft G J H G1 J H1 := ⟨n.gg, fun a o _ h => n.hh a o h, dm_of n.hh, n.gn, fun _ h => .inl h, v.new n⟩
end

/-! ### a local name -/
inductive Cell where
  | lst (xs : List D) | dct (kvs : List (D × D))
def HC (K : PySem.W.Frag) (G H : Hp) (p : Addr) : Cell → Prop
  | .lst xs => ∃ vs, H p = some (.lst vs) ∧ RpL K G vs xs
  | .dct kvs => ∃ us, H p = some (.dK us) ∧ RpK K G us kvs
inductive Ent where
  | val (d : D) | own (c : Cell) | obj (a : Addr) | bad
abbrev En := List (Option Ent)
theorem HC.ex {K : PySem.W.Frag} {G H : Hp} {p : Addr} {c : Cell} (h : HC K G H p c) : ∃ o, H p = some o := by
  cases c <;> (obtain ⟨u, h, _⟩ := h; exact ⟨_, h⟩)
theorem HC.keep {K : PySem.W.Frag} {G H G' H' : Hp} {p : Addr} {c : Cell} (h : HC K G H p c) (e : Sub G G') (k : ∀ o, H p = some o → H' p = some o) : HC K G' H' p c := by
  cases c with
  | lst xs => obtain ⟨u, h, r⟩ := h; exact ⟨u, k _ h, r.sub e⟩
  | dct xs => obtain ⟨u, h, r⟩ := h; exact ⟨u, k _ h, r.sub e⟩

/-- the local names: H0 is the heap at the entry -/
structure EnvR (K : PySem.W.Frag) (H0 : Hp) (ρ : En) (σ : L2.St) (H G : Hp) (J : Addr → Prop) : Prop where
  val : ∀ (i : Nat) (d : D), ρ[i]? = some (some (.val d)) → ∃ v, σ[i]? = some (some v) ∧ Rp K G v d
  obj : ∀ (i : Nat) (a : Addr), ρ[i]? = some (some (.obj a)) → σ[i]? = some (some (.ref a))
  own : ∀ (i : Nat) (c : Cell), ρ[i]? = some (some (.own c)) → ∃ p, σ[i]? = some (some (.ref p)) ∧ H0 p = none ∧ G p = none ∧ ¬ J p ∧ HC K G H p c
  sep : ∀ (i j : Nat) (c c' : Cell) (p : Addr), i ≠ j → ρ[i]? = some (some (.own c)) → ρ[j]? = some (some (.own c')) → σ[i]? = some (some (.ref p)) → σ[j]? ≠ some (some (.ref p))
  len : ρ.length = σ.length
  nb : ∀ i : Nat, ρ[i]? ≠ some (some .bad)
theorem set_nb {ρ : En} {i : Nat} {x : Ent} (h : ∀ i : Nat, ρ[i]? ≠ some (some .bad)) (hx : x ≠ .bad) : ∀ j : Nat, (ρ.set i (some x))[j]? ≠ some (some .bad) := fun j q => by
  by_cases z : i = j
  · subst z
    rw [List.getElem?_set, if_pos rfl] at q
    split at q
    · exact hx (Option.some.inj (Option.some.inj q))
    · cases q
  · rw [List.getElem?_set_ne z] at q
    exact h j q
section
variable {K : PySem.W.Frag} {H0 G G' H H' : Hp} {ρ : En} {σ : L2.St} {J J' : Addr → Prop}
theorem EnvR.aft (e : EnvR K H0 ρ σ H G J) (a : Aft G J H G' J' H') : EnvR K H0 ρ σ H' G' J' where
  val := fun i d h => let ⟨v, h1, h2⟩ := e.val i d h; ⟨v, h1, h2.sub a.gg⟩
  obj := e.obj
  own := fun i c h => by
    obtain ⟨p, h1, h2, h3, h4, h5⟩ := e.own i c h
    obtain ⟨o, ho⟩ := h5.ex
    refine ⟨p, h1, h2, ?_, fun j => ?_, h5.keep a.gg fun o h => a.hh p o h4 h⟩
    · cases q : G' p with
      | none => rfl
      | some u =>
        rcases a.gn p (by rw [q]; exact Option.some_ne_none u) with z | z
        · exact absurd h3 z
        · rw [ho] at z; cases z
    · rcases a.jn p j with z | z
      · exact h4 z
      · rw [ho] at z; cases z
  sep := e.sep
  len := e.len
  nb := e.nb
/-- a name is stored: a plain value -/
theorem EnvR.setV {i : Nat} {v : V} {d : D} (e : EnvR K H0 ρ σ H G J) (r : Rp K G v d) : EnvR K H0 (ρ.set i (some (.val d))) (σ.set i (some v)) H G J where
  val := fun j d' h => by
    by_cases q : i = j
    · subst q
      rw [List.getElem?_set] at h
      rw [if_pos rfl] at h
      split at h
      · rename_i hl
        cases h
        refine ⟨v, ?_, r⟩
        rw [List.getElem?_set, if_pos rfl, if_pos (by rw [← e.len]; exact hl)]
      · cases h
    · rw [List.getElem?_set_ne q] at h ⊢
      exact e.val j d' h
  obj := fun j a h => by
    by_cases q : i = j
    · subst q
      rw [List.getElem?_set, if_pos rfl] at h
      split at h <;> cases h
    · rw [List.getElem?_set_ne q] at h ⊢
      exact e.obj j a h
  own := fun j c h => by
    by_cases q : i = j
    · subst q
      rw [List.getElem?_set, if_pos rfl] at h
      split at h <;> cases h
    · rw [List.getElem?_set_ne q] at h ⊢
      exact e.own j c h
  sep := fun j k c c' p hjk h1 h2 h3 h4 => by
    by_cases q : i = j
    · subst q
      rw [List.getElem?_set, if_pos rfl] at h1
      split at h1 <;> cases h1
    · by_cases q' : i = k
      · subst q'
        rw [List.getElem?_set, if_pos rfl] at h2
        split at h2 <;> cases h2
      · rw [List.getElem?_set_ne q] at h1 h3
        rw [List.getElem?_set_ne q'] at h2 h4
        exact e.sep j k c c' p hjk h1 h2 h3 h4
  len := by rw [List.length_set, List.length_set, e.len]
  nb := set_nb e.nb (fun z => by cases z)
theorem EnvR.setO {i : Nat} {a : Addr} (e : EnvR K H0 ρ σ H G J) : EnvR K H0 (ρ.set i (some (.obj a))) (σ.set i (some (.ref a))) H G J where
  val := fun j d' h => by
    by_cases q : i = j
    · subst q
      rw [List.getElem?_set, if_pos rfl] at h
      split at h <;> cases h
    · rw [List.getElem?_set_ne q] at h ⊢
      exact e.val j d' h
  obj := fun j a' h => by
    by_cases q : i = j
    · subst q
      rw [List.getElem?_set, if_pos rfl] at h
      split at h
      · rename_i hl
        cases h
        rw [List.getElem?_set, if_pos rfl, if_pos (by rw [← e.len]; exact hl)]
      · cases h
    · rw [List.getElem?_set_ne q] at h ⊢
      exact e.obj j a' h
  own := fun j c h => by
    by_cases q : i = j
    · subst q
      rw [List.getElem?_set, if_pos rfl] at h
      split at h <;> cases h
    · rw [List.getElem?_set_ne q] at h ⊢
      exact e.own j c h
  sep := fun j k c c' p hjk h1 h2 h3 h4 => by
    by_cases q : i = j
    · subst q
      rw [List.getElem?_set, if_pos rfl] at h1
      split at h1 <;> cases h1
    · by_cases q' : i = k
      · subst q'
        rw [List.getElem?_set, if_pos rfl] at h2
        split at h2 <;> cases h2
      · rw [List.getElem?_set_ne q] at h1 h3
        rw [List.getElem?_set_ne q'] at h2 h4
        exact e.sep j k c c' p hjk h1 h2 h3 h4
  len := by rw [List.length_set, List.length_set, e.len]
  nb := set_nb e.nb (fun z => by cases z)
/-- a new object of one's own is stored -/
theorem EnvR.setL {i : Nat} {p : Addr} {c : Cell} (e : EnvR K H0 ρ σ H G J) (h0 : H0 p = none) (hg : G p = none) (hj : ¬ J p) (hc : HC K G H p c)
    (hn : ∀ (j : Nat) (c' : Cell), j ≠ i → ρ[j]? = some (some (.own c')) → σ[j]? ≠ some (some (.ref p))) : EnvR K H0 (ρ.set i (some (.own c))) (σ.set i (some (.ref p))) H G J where
  val := fun j d' h => by
    by_cases q : i = j
    · subst q
      rw [List.getElem?_set, if_pos rfl] at h
      split at h <;> cases h
    · rw [List.getElem?_set_ne q] at h ⊢
      exact e.val j d' h
  obj := fun j a' h => by
    by_cases q : i = j
    · subst q
      rw [List.getElem?_set, if_pos rfl] at h
      split at h <;> cases h
    · rw [List.getElem?_set_ne q] at h ⊢
      exact e.obj j a' h
  own := fun j c' h => by
    by_cases q : i = j
    · subst q
      rw [List.getElem?_set, if_pos rfl] at h
      split at h
      · rename_i hl
        cases h
        refine ⟨p, ?_, h0, hg, hj, hc⟩
        rw [List.getElem?_set, if_pos rfl, if_pos (by rw [← e.len]; exact hl)]
      · cases h
    · rw [List.getElem?_set_ne q] at h ⊢
      exact e.own j c' h
  sep := fun j k c1 c2 r hjk h1 h2 h3 h4 => by
    by_cases q : i = j
    · subst q
      rw [List.getElem?_set_ne hjk] at h2 h4
      rw [List.getElem?_set, if_pos rfl] at h3
      split at h3
      · cases h3
        exact hn k c2 (Ne.symm hjk) h2 h4
      · cases h3
    · by_cases q' : i = k
      · subst q'
        rw [List.getElem?_set_ne q] at h1 h3
        rw [List.getElem?_set, if_pos rfl] at h4
        split at h4
        · cases h4
          exact hn j c1 hjk h1 h3
        · cases h4
      · rw [List.getElem?_set_ne q] at h1 h3
        rw [List.getElem?_set_ne q'] at h2 h4
        exact e.sep j k c1 c2 r hjk h1 h2 h3 h4
  len := by rw [List.length_set, List.length_set, e.len]
  nb := set_nb e.nb (fun z => by cases z)
/-- fewer names known -/
def LeE (ρ ρ' : En) : Prop := ρ.length = ρ'.length ∧ ∀ (i : Nat) (x : Ent), ρ[i]? = some (some x) → ρ'[i]? = some (some x)
theorem EnvR.le {ρ' : En} (e : EnvR K H0 ρ' σ H G J) (l : LeE ρ ρ') : EnvR K H0 ρ σ H G J where
  val := fun i d h => e.val i d (l.2 i _ h)
  obj := fun i d h => e.obj i d (l.2 i _ h)
  own := fun i d h => e.own i d (l.2 i _ h)
  sep := fun i j c c' p hij h1 h2 => e.sep i j c c' p hij (l.2 i _ h1) (l.2 j _ h2)
  len := l.1.trans e.len
  nb := fun i z => e.nb i (l.2 i _ z)
/-- the own object at p changes -/
theorem EnvR.mut {i : Nat} {p : Addr} {c c' : Cell} {o : HO} (e : EnvR K H0 ρ σ H G J) (hi : ρ[i]? = some (some (.own c))) (hp : σ[i]? = some (some (.ref p))) (hc : HC K G (upd H p o) p c') : EnvR K H0 (ρ.set i (some (.own c'))) σ (upd H p o) G J where
  val := fun j d' h => by
    by_cases q : i = j
    · subst q
      rw [List.getElem?_set, if_pos rfl] at h
      split at h <;> cases h
    · rw [List.getElem?_set_ne q] at h
      exact e.val j d' h
  obj := fun j a' h => by
    by_cases q : i = j
    · subst q
      rw [List.getElem?_set, if_pos rfl] at h
      split at h <;> cases h
    · rw [List.getElem?_set_ne q] at h
      exact e.obj j a' h
  own := fun j c1 h => by
    by_cases q : i = j
    · subst q
      rw [List.getElem?_set, if_pos rfl] at h
      split at h
      · cases h
        obtain ⟨p', h1, h2, h3, h4, h5⟩ := e.own _ _ hi
        rw [hp] at h1; cases h1
        exact ⟨p, hp, h2, h3, h4, hc⟩
      · cases h
    · rw [List.getElem?_set_ne q] at h
      obtain ⟨p', h1, h2, h3, h4, h5⟩ := e.own _ _ h
      have ne : p' ≠ p := fun z => by
        subst z
        exact e.sep _ _ _ _ _ q hi h hp h1
      refine ⟨p', h1, h2, h3, h4, h5.keep (Sub.refl _) fun o h => ?_⟩
      rw [upd_ne ne]; exact h
  sep := fun j k c1 c2 r hjk h1 h2 h3 h4 => by
    have f1 : ∃ c, ρ[j]? = some (some (.own c)) := by
      by_cases q : i = j
      · subst q; exact ⟨_, hi⟩
      · rw [List.getElem?_set_ne q] at h1; exact ⟨_, h1⟩
    have f2 : ∃ c, ρ[k]? = some (some (.own c)) := by
      by_cases q : i = k
      · subst q; exact ⟨_, hi⟩
      · rw [List.getElem?_set_ne q] at h2; exact ⟨_, h2⟩
    obtain ⟨d1, f1⟩ := f1
    obtain ⟨d2, f2⟩ := f2
    exact e.sep j k d1 d2 r hjk f1 f2 h3 h4
  len := by rw [List.length_set, e.len]
  nb := set_nb e.nb (fun z => by cases z)
end
end Cl

set_option Elab.async false
set_option linter.all false
set_option maxRecDepth 100000
set_option maxHeartbeats 4000000
/-! the clean layer, part B: what an expression is worth -/
namespace Cl
open PySem PySem.Spec PyProof.Rows L2
open MO

def optP {α : Type} : Option α → P α
  | some a => .ok a
  | none => .no
/-- a part that may be lacking -/
def need {m : Type → Type} [MO m] {α : Type} (o : Option α) : m α := lift (optP o)
theorem of_need {γ : Type} {m : Type → Type} [PM γ m] {α β : Type} {o : Option α} {k : α → m β} {g : γ} {Q : β → γ → Prop} {E : Xc → γ → Prop} (h : PM.wp (bnd (need o) k) g Q E) : ∃ a, o = some a ∧ PM.wp (k a) g Q E := by
  have h1 := PM.of_lift (PM.of_bnd h)
  cases o with
  | none => exact h1.elim
  | some a => exact ⟨a, rfl, h1⟩

/-- what stands in the region, and what it leans on -/
structure SIx (γ : Type) where
  si : γ → Hp → (Addr → Prop) → Hp → Prop
  new : ∀ {g : γ} {G G' H H' : Hp} {J : Addr → Prop}, si g G J H → Sub G G' → (∀ a o, J a → H a = some o → H' a = some o) → si g G' J H'
  cut : ∀ {g : γ} {G H : Hp} {J : Addr → Prop} {p : Addr}, si g G J H → NoTup G p → (∀ o u, G p ≠ some (.frz o u)) → ¬ J p → si g (Cl.cut G p) J H
/-- the code's surroundings -/
structure Cc (γ : Type) where
  H0 : Hp
  G0 : Hp
  J0 : Addr → Prop
  S : SIx γ
  EX : Xc → γ → Prop
structure Cc.St {γ : Type} (C : Cc γ) (K : PySem.W.Frag) (ρ : En) (σ : L2.St) (H G : Hp) (J : Addr → Prop) (g : γ) : Prop where
  env : EnvR K C.H0 ρ σ H G J
  aft : Aft C.G0 C.J0 C.H0 G J H
  si : C.S.si g G J H
section
variable {γ : Type} {C : Cc γ} {K : PySem.W.Frag} {ρ : En} {σ : L2.St} {H G H' G' : Hp} {J J' : Addr → Prop} {g g' : γ}
theorem Cc.St.vis (s : C.St K ρ σ H G J g) : Vis G J H := s.aft.vis
theorem Cc.St.go (s : C.St K ρ σ H G J g) (a : Aft G J H G' J' H') (si : C.S.si g' G' J' H') : C.St K ρ σ H' G' J' g' := ⟨s.env.aft a, s.aft.trans a, si⟩
theorem SIx.nw {S : SIx γ} (s : S.si g G J H) (n : New G H G' H') : S.si g G' J H' := S.new s n.gg fun a o _ h => n.hh a o h
end

/-- what comes: a plain value, an object of one's own, another object -/
inductive R where
  | v (d : D) | l (c : Cell) | o (a : Addr)
def RR (K : PySem.W.Frag) (G : Hp) (J : Addr → Prop) (H Hb : Hp) (v : V) : R → Prop
  | .v d => Rp K G v d
  | .l c => ∃ p, v = .ref p ∧ Hb p = none ∧ G p = none ∧ ¬ J p ∧ HC K G H p c
  | .o a => v = .ref a
theorem RR.aft {K : PySem.W.Frag} {G G' H H' Hb : Hp} {J J' : Addr → Prop} {v : V} {r : R} (h : RR K G J H Hb v r) (a : Aft G J H G' J' H') : RR K G' J' H' Hb v r := by
  cases r with
  | v d => exact Rp.sub a.gg h
  | o x => exact h
  | l c =>
    obtain ⟨p, h1, h2, h3, h4, h5⟩ := h
    obtain ⟨o, ho⟩ := h5.ex
    refine ⟨p, h1, h2, ?_, fun j => ?_, h5.keep a.gg fun o h => a.hh p o h4 h⟩
    · cases q : G' p with
      | none => rfl
      | some u =>
        rcases a.gn p (by rw [q]; exact Option.some_ne_none u) with z | z
        · exact absurd h3 z
        · rw [ho] at z; cases z
    · rcases a.jn p j with z | z
      · exact h4 z
      · rw [ho] at z; cases z
theorem RR.base {K : PySem.W.Frag} {G H Hb Hc : Hp} {J : Addr → Prop} {v : V} {r : R} (h : RR K G J H Hb v r) (k : ∀ a, Hb a = none → Hc a = none) : RR K G J H Hc v r := by
  cases r with
  | v d => exact h
  | o x => exact h
  | l c =>
    obtain ⟨p, h1, h2, h3⟩ := h
    exact ⟨p, h1, k p h2, h3⟩

section
variable {γ : Type} {m : Type → Type} [PM γ m]
/-- an expression: x is what is done from here on, k what is done with its value -/
def CE {α β : Type} (C : Cc γ) (X : Cx) (ρ : En) (e : Expr) (rk : α → R) (x : m β) (k : α → m β) : Prop :=
  ∀ Qf : β → γ → Prop, PE X e (fun σ H Q => ∃ G J g, C.St X.K ρ σ H G J g ∧ PM.wp x g Qf C.EX ∧
    ∀ v a H' G' J' g', Aft G J H G' J' H' → C.S.si g' G' J' H' → RR X.K G' J' H' H v (rk a) → PM.wp (k a) g' Qf C.EX → Q v H')
/-- a test -/
def CT {β : Type} (C : Cc γ) (X : Cx) (ρ : En) (e : Expr) (x : m β) (k : Bool → m β) : Prop :=
  ∀ Qf : β → γ → Prop, PT X e (fun σ H Q => ∃ G J g, C.St X.K ρ σ H G J g ∧ PM.wp x g Qf C.EX ∧
    ∀ b H' G' J' g', Aft G J H G' J' H' → C.S.si g' G' J' H' → PM.wp (k b) g' Qf C.EX → Q b H')
def CW {β : Type} (C : Cc γ) (X : Cx) (ρ : En) (e : Expr) (x : m β) (k : Bool → m β) : Prop :=
  ∀ Qf : β → γ → Prop, PW X e (fun σ H Q => ∃ G J g, C.St X.K ρ σ H G J g ∧ PM.wp x g Qf C.EX ∧
    ∀ b H' G' J' g', Aft G J H G' J' H' → C.S.si g' G' J' H' → PM.wp (k b) g' Qf C.EX → Q b H')
/-- several values -/
inductive RRs (K : PySem.W.Frag) (G : Hp) (J : Addr → Prop) (H Hb : Hp) : List V → List R → Prop
  | nil : RRs K G J H Hb [] []
  | cons {v : V} {vs : List V} {r : R} {rs : List R} : RR K G J H Hb v r → RRs K G J H Hb vs rs → RRs K G J H Hb (v :: vs) (r :: rs)
def CA {β : Type} (C : Cc γ) (X : Cx) (ρ : En) (es : List Expr) (x : m β) (k : List R → m β) : Prop :=
  ∀ Qf : β → γ → Prop, PA X es (fun σ H Q => ∃ G J g, C.St X.K ρ σ H G J g ∧ PM.wp x g Qf C.EX ∧
    ∀ vs rs H' G' J' g', Aft G J H G' J' H' → C.S.si g' G' J' H' → RRs X.K G' J' H' H vs rs → rs.length = es.length → PM.wp (k rs) g' Qf C.EX → Q vs H')
end
abbrev dv : D → R := R.v
abbrev bv : Bool → R := fun b => R.v (.bool b)
abbrev iv : Int → R := fun i => R.v (.int i)
abbrev lv : List D → R := fun xs => R.l (.lst xs)

/-! ### readings -/
theorem PE.imp {X : Cx} {e : Expr} {t t' : TE} (h : PE X e t) (i : ∀ σ H Q, t' σ H Q → t σ H Q) : PE X e t' := ⟨fun pins s σ H Q I q => h.run pins s σ H Q I (i σ H Q q)⟩
theorem PE.ex {X : Cx} {e : Expr} {ι : Type} {t : ι → TE} (h : ∀ i, PE X e (t i)) : PE X e (fun σ H Q => ∃ i, t i σ H Q) := ⟨fun pins s σ H Q I ⟨i, q⟩ => (h i).run pins s σ H Q I q⟩
theorem PT.imp {X : Cx} {e : Expr} {t t' : TT} (h : PT X e t) (i : ∀ σ H Q, t' σ H Q → t σ H Q) : PT X e t' := ⟨fun pins s σ H Q I q => h.run pins s σ H Q I (i σ H Q q)⟩
theorem PT.ex {X : Cx} {e : Expr} {ι : Type} {t : ι → TT} (h : ∀ i, PT X e (t i)) : PT X e (fun σ H Q => ∃ i, t i σ H Q) := ⟨fun pins s σ H Q I ⟨i, q⟩ => (h i).run pins s σ H Q I q⟩
theorem PW.imp {X : Cx} {e : Expr} {t t' : TT} (h : PW X e t) (i : ∀ σ H Q, t' σ H Q → t σ H Q) : PW X e t' := ⟨fun wh pins s σ H Q I q => h.run wh pins s σ H Q I (i σ H Q q)⟩
theorem PW.ex {X : Cx} {e : Expr} {ι : Type} {t : ι → TT} (h : ∀ i, PW X e (t i)) : PW X e (fun σ H Q => ∃ i, t i σ H Q) := ⟨fun wh pins s σ H Q I ⟨i, q⟩ => (h i).run wh pins s σ H Q I q⟩
theorem PA.imp {X : Cx} {e : List Expr} {t t' : TA} (h : PA X e t) (i : ∀ σ H Q, t' σ H Q → t σ H Q) : PA X e t' := ⟨fun pos pins s σ H Q I q => h.run pos pins s σ H Q I (i σ H Q q)⟩
theorem PA.ex {X : Cx} {e : List Expr} {ι : Type} {t : ι → TA} (h : ∀ i, PA X e (t i)) : PA X e (fun σ H Q => ∃ i, t i σ H Q) := ⟨fun pos pins s σ H Q I ⟨i, q⟩ => (h i).run pos pins s σ H Q I q⟩
theorem PSs.imp {X : Cx} {e : List Stmt} {t t' : TS} (h : PSs X e t) (i : ∀ D σ H, t' D σ H → t D σ H) : PSs X e t' := ⟨fun pins s σ H D I q => h.run pins s σ H D I (i D σ H q)⟩
theorem PSs.ex {X : Cx} {e : List Stmt} {ι : Type} {t : ι → TS} (h : ∀ i, PSs X e (t i)) : PSs X e (fun D σ H => ∃ i, t i D σ H) := ⟨fun pins s σ H D I ⟨i, q⟩ => (h i).run pins s σ H D I q⟩
theorem PS.imp {X : Cx} {e : Stmt} {t t' : TS} (h : PS X e t) (i : ∀ D σ H, t' D σ H → t D σ H) : PS X e t' := ⟨fun pins s σ H D I q => h.run pins s σ H D I (i D σ H q)⟩
theorem PG.imp {X : Cx} {e : Expr} {t t' : TG} (h : PG X e t) (i : ∀ v σ H Q, t' v σ H Q → t v σ H Q) : PG X e t' := ⟨fun pins s σ H v u Q I r q => h.run pins s σ H v u Q I r (i v σ H Q q)⟩
theorem PI.imp {X : Cx} {tg e : Expr} {t t' : TI} (h : PI X tg e t) (i : ∀ σ H Q, t' σ H Q → t σ H Q) : PI X tg e t' := ⟨fun pins s σ H R I q => h.run pins s σ H R I (i σ H R q)⟩

/-! ### operations on plain data -/
/-- a two-place operation that makes no list of one's own -/
def P2 (K : PySem.W.Frag) (r : R2) {α : Type} (p : D → D → Option α) (rk : α → D) : Prop := ∀ (H G : Hp) (v1 v2 : V) (d1 d2 : D) (d : α) (Q : VK), Sub G H → Rp K G v1 d1 → Rp K G v2 d2 → p d1 d2 = some d →
  (∀ v H' G', New G H G' H' → Rp K G' v (rk d) → Q v H') → r v1 v2 H Q
def P1 (K : PySem.W.Frag) (r : V → Hp → VK → Prop) {α : Type} (p : D → Option α) (rk : α → D) : Prop := ∀ (H G : Hp) (v1 : V) (d1 : D) (d : α) (Q : VK), Sub G H → Rp K G v1 d1 → p d1 = some d →
  (∀ v H' G', New G H G' H' → Rp K G' v (rk d) → Q v H') → r v1 H Q
/-- that makes a new list -/
def P2L (K : PySem.W.Frag) (r : R2) (p : D → D → Option (List D)) : Prop := ∀ (H G : Hp) (v1 v2 : V) (d1 d2 : D) (ds : List D) (Q : VK), Sub G H → Rp K G v1 d1 → Rp K G v2 d2 → p d1 d2 = some ds →
  (∀ q vs, H q = none → RpL K G vs ds → Q (.ref q) (upd H q (.lst vs))) → r v1 v2 H Q
def P1L (K : PySem.W.Frag) (r : V → Hp → VK → Prop) (p : D → Option (List D)) : Prop := ∀ (H G : Hp) (v1 : V) (d1 : D) (ds : List D) (Q : VK), Sub G H → Rp K G v1 d1 → p d1 = some ds →
  (∀ q vs, H q = none → RpL K G vs ds → Q (.ref q) (upd H q (.lst vs))) → r v1 H Q
theorem rp_new {K : PySem.W.Frag} {G H : Hp} {q : Addr} {vs : List V} {ds : List D} (e : Sub G H) (h : H q = none) (r : RpL K G vs ds) : Rp K (upd G q (.lst vs)) (.ref q) (.list ds) :=
  .lst upd_same (r.sub (sub_upd (none_of_sub e h)))
theorem rp_newT {K : PySem.W.Frag} {G H : Hp} {q : Addr} {vs : List V} {ds : List D} (e : Sub G H) (h : H q = none) (r : RpL K G vs ds) : Rp K (upd G q (.tup vs)) (.ref q) (.tuple ds) :=
  .tup (.inl (.inl upd_same)) (r.sub (sub_upd (none_of_sub e h)))
theorem P2L.to {K : PySem.W.Frag} {r : R2} {p : D → D → Option (List D)} (h : P2L K r p) : P2 K r p PyData.list := fun H G v1 v2 d1 d2 d Q s r1 r2 e hq =>
  h H G v1 v2 d1 d2 d Q s r1 r2 e fun q vs hn rl => hq _ _ _ (New.laid s hn) (rp_new s hn rl)
theorem P1L.to {K : PySem.W.Frag} {r : V → Hp → VK → Prop} {p : D → Option (List D)} (h : P1L K r p) : P1 K r p PyData.list := fun H G v1 d1 d Q s r1 e hq =>
  h H G v1 d1 d Q s r1 e fun q vs hn rl => hq _ _ _ (New.laid s hn) (rp_new s hn rl)

section
variable {γ : Type} {m : Type → Type} [PM γ m] {C : Cc γ} {X : Cx} {ρ : En} {α β : Type}

/-! ### names and constants -/
theorem ce_name {i : Nat} {x : Str} {pos : Pos} {d : D} {k : D → m β} (hd : ρ[i]? = some (some (.val d)) := by rfl) (hp : PE X (.Name x pos) (tVar i) := by exact pv _) : CE C X ρ (.Name x pos) dv (k d) k := fun Qf =>
  PE.imp hp fun σ H Q ⟨G, J, g, st, w, h⟩ => by
    obtain ⟨v, h1, h2⟩ := st.env.val i d hd
    exact ⟨v, h1, h v d H G J g (Aft.refl st.vis) st.si h2 w⟩
theorem ce_obj {i : Nat} {x : Str} {pos : Pos} {a : Addr} {k : Addr → m β} (hd : ρ[i]? = some (some (.obj a)) := by rfl) (hp : PE X (.Name x pos) (tVar i) := by exact pv _) : CE C X ρ (.Name x pos) R.o (k a) k := fun Qf =>
  PE.imp hp fun σ H Q ⟨G, J, g, st, w, h⟩ => ⟨_, st.env.obj i a hd, h _ a H G J g (Aft.refl st.vis) st.si rfl w⟩
theorem ce_c {e : Expr} {v : V} {d : D} {k : D → m β} (he : PE X e (tC v)) (r : ∀ G, Rp X.K G v d) : CE C X ρ e dv (k d) k := fun Qf =>
  PE.imp he fun σ H Q ⟨G, J, g, st, w, h⟩ => h v d H G J g (Aft.refl st.vis) st.si (r G) w
theorem ce_int {i : Int} {j pos} {k : D → m β} : CE C X ρ (.Constant (.int i) j pos) dv (k (.int i)) k := ce_c pe_int fun _ => .int _
theorem ce_str {x : Str} {j pos} {k : D → m β} : CE C X ρ (.Constant (.str x) j pos) dv (k (.str x)) k := ce_c pe_str fun _ => .str _
theorem ce_bool {b : Bool} {j pos} {k : D → m β} : CE C X ρ (.Constant (.bool b) j pos) dv (k (.bool b)) k := ce_c pe_bl fun _ => .bl _
theorem ce_none {j pos} {k : D → m β} : CE C X ρ (.Constant .none j pos) dv (k .none) k := ce_c pe_non fun _ => .non
/-- a bool as a value -/
theorem ce_bd {e : Expr} {x : m β} {k : D → m β} (h : CE C X ρ e bv x (fun b => k (.bool b))) : CE C X ρ e dv x k := fun Qf =>
  PE.imp (h Qf) fun σ H Q ⟨G, J, g, st, w, q⟩ => ⟨G, J, g, st, w, fun v a H' G' J' g' af si rr w' => q v (.bool a) H' G' J' g' af si rr w'⟩
theorem ce_id {e : Expr} {x : m β} {k : Int → m β} {k' : D → m β} (h : CE C X ρ e iv x (fun b => k' (.int b))) : CE C X ρ e dv x k' := fun Qf =>
  PE.imp (h Qf) fun σ H Q ⟨G, J, g, st, w, q⟩ => ⟨G, J, g, st, w, fun v a H' G' J' g' af si rr w' => q v (.int a) H' G' J' g' af si rr w'⟩
/-- a new list is shown -/
theorem ce_show {e : Expr} {x : m β} {k : D → m β} (h : CE C X ρ e lv x (fun xs => k (.list xs))) : CE C X ρ e dv x k := fun Qf =>
  PE.imp (h Qf) fun σ H Q ⟨G, J, g, st, w, q⟩ => ⟨G, J, g, st, w, fun v a H' G' J' g' af si rr w' => by
    obtain ⟨p, rfl, hb, hg, hj, vs, hv, rl⟩ := rr
    have hH : H p = none := hb
    have vis' : Vis (upd G' p (.lst vs)) J' H' := ⟨fun c o hc => by
        by_cases z : c = p
        · subst z; rw [upd_same] at hc; cases hc; exact hv
        · rw [upd_ne z] at hc; exact af.vis.sub c o hc, fun c j => by
        rw [upd_ne (fun z => hj (by rw [← z]; exact j))]; exact af.vis.dis c j, af.vis.dom⟩
    refine q _ (.list a) H' (upd G' p (.lst vs)) J' g' ⟨af.gg.trans (sub_upd hg), af.hh, af.dm, fun c hc => ?_, af.jn, vis'⟩ (C.S.new si (sub_upd hg) fun _ _ _ h => h) (.lst upd_same (rl.sub (sub_upd hg))) w'
    by_cases z : c = p
    · subst z; exact .inr hH
    · rw [upd_ne z] at hc; exact af.gn c hc⟩

/-! ### operators -/
theorem fin_new {G H G' H' : Hp} {J : Addr → Prop} {g : γ} {Q : VK} {K : PySem.W.Frag} {v : V} {d : D} (vis : Vis G J H) (si : C.S.si g G J H) (n : New G H G' H') : Aft G J H G' J H' ∧ C.S.si g G' J H' := ⟨n.aft vis, SIx.nw si n⟩
theorem ce_op {op : Operator} {r : R2} {a b : Expr} {pos : Pos} {p : D → D → Option α} {rk : α → D} {x : m β} {x2 : D → m β} {k : α → m β} (ho : OpR X (binaryOp op) r) (hp : P2 X.K r p rk)
    (hb : ∀ d1, CE C X ρ b dv (x2 d1) (fun d2 => bnd (need (p d1 d2)) k)) (ha : CE C X ρ a dv x x2) : CE C X ρ (.BinOp a op b pos) (fun a => .v (rk a)) x k := fun Qf =>
  PE.imp (pe_op ho (ha Qf) (PE.ex fun d1 => hb d1 Qf)) fun σ H Q ⟨G, J, g, st, w, h⟩ => by
    refine ⟨G, J, g, st, w, fun v1 d1 H1 G1 J1 g1 af1 si1 r1 w1 => ⟨d1, G1, J1, g1, st.go af1 si1, w1, fun v2 d2 H2 G2 J2 g2 af2 si2 r2 w2 => ?_⟩⟩
    obtain ⟨d, e, w3⟩ := of_need w2
    exact hp H2 G2 v1 v2 d1 d2 d Q af2.vis.sub (Rp.sub af2.gg r1) r2 e fun v H' G' n rr => h v d H' G' J2 g2 ((af1.trans af2).trans (n.aft af2.vis)) (SIx.nw si2 n) rr w3
theorem ce_opL {op : Operator} {r : R2} {a b : Expr} {pos : Pos} {p : D → D → Option (List D)} {x : m β} {x2 : D → m β} {k : List D → m β} (ho : OpR X (binaryOp op) r) (hp : P2L X.K r p)
    (hb : ∀ d1, CE C X ρ b dv (x2 d1) (fun d2 => bnd (need (p d1 d2)) k)) (ha : CE C X ρ a dv x x2) : CE C X ρ (.BinOp a op b pos) lv x k := fun Qf =>
  PE.imp (pe_op ho (ha Qf) (PE.ex fun d1 => hb d1 Qf)) fun σ H Q ⟨G, J, g, st, w, h⟩ => by
    refine ⟨G, J, g, st, w, fun v1 d1 H1 G1 J1 g1 af1 si1 r1 w1 => ⟨d1, G1, J1, g1, st.go af1 si1, w1, fun v2 d2 H2 G2 J2 g2 af2 si2 r2 w2 => ?_⟩⟩
    obtain ⟨d, e, w3⟩ := of_need w2
    refine hp H2 G2 v1 v2 d1 d2 d Q af2.vis.sub (Rp.sub af2.gg r1) r2 e fun q vs hn rl => ?_
    have n : New G2 H2 G2 (upd H2 q (.lst vs)) := New.own af2.vis.sub hn
    refine h _ d _ G2 J2 g2 ((af1.trans af2).trans (n.aft af2.vis)) (SIx.nw si2 n) ⟨q, rfl, ?_, none_of_sub af2.vis.sub hn, fun j => af2.vis.dom q j hn, vs, upd_same, rl⟩ w3
    exact Classical.byContradiction fun z => (af1.trans af2).dm q z hn
theorem ce_un {op : UnaryOp} {r : V → Hp → VK → Prop} {a : Expr} {pos : Pos} {p : D → Option α} {rk : α → D} {x : m β} {k : α → m β} (ho : UnR X (unaryOp op) r) (hp : P1 X.K r p rk)
    (ha : CE C X ρ a dv x (fun d1 => bnd (need (p d1)) k)) : CE C X ρ (.UnaryOp op a pos) (fun a => .v (rk a)) x k := fun Qf =>
  PE.imp (pe_un ho (ha Qf)) fun σ H Q ⟨G, J, g, st, w, h⟩ => by
    refine ⟨G, J, g, st, w, fun v1 d1 H1 G1 J1 g1 af1 si1 r1 w1 => ?_⟩
    obtain ⟨d, e, w3⟩ := of_need w1
    exact hp H1 G1 v1 d1 d Q af1.vis.sub r1 e fun v H' G' n rr => h v d H' G' J1 g1 (af1.trans (n.aft af1.vis)) (SIx.nw si1 n) rr w3
/-- a comparison, as a value and as a test -/
theorem ce_cmp {op : CmpOp} {r : R2} {a b : Expr} {pos : Pos} {p : D → D → Option Bool} {x : m β} {x2 : D → m β} {k : Bool → m β} (ho : OpR X (compareOp op) r) (hp : P2 X.K r p PyData.bool)
    (hb : ∀ d1, CE C X ρ b dv (x2 d1) (fun d2 => bnd (need (p d1 d2)) k)) (ha : CE C X ρ a dv x x2) (hm : behindInMarks op b = false := by first | exact nomark _ | rfl) : CE C X ρ (.Compare a [op] [b] pos) bv x k := fun Qf =>
  PE.imp (pe_cmpR ho (ha Qf) (PE.ex fun d1 => hb d1 Qf) hm) fun σ H Q ⟨G, J, g, st, w, h⟩ => by
    refine ⟨G, J, g, st, w, fun v1 d1 H1 G1 J1 g1 af1 si1 r1 w1 => ⟨d1, G1, J1, g1, st.go af1 si1, w1, fun v2 d2 H2 G2 J2 g2 af2 si2 r2 w2 => ?_⟩⟩
    obtain ⟨d, e, w3⟩ := of_need w2
    exact hp H2 G2 v1 v2 d1 d2 d Q af2.vis.sub (Rp.sub af2.gg r1) r2 e fun v H' G' n rr => h v d H' G' J2 g2 ((af1.trans af2).trans (n.aft af2.vis)) (SIx.nw si2 n) rr w3
theorem ct_cmp {op : CmpOp} {r : R2} {a b : Expr} {pos : Pos} {p : D → D → Option Bool} {x : m β} {x2 : D → m β} {k : Bool → m β} (ho : OpR X (compareOp op) r) (hp : P2 X.K r p PyData.bool)
    (hb : ∀ d1, CE C X ρ b dv (x2 d1) (fun d2 => bnd (need (p d1 d2)) k)) (ha : CE C X ρ a dv x x2) (hm : behindInMarks op b = false := by first | exact nomark _ | rfl) : CT C X ρ (.Compare a [op] [b] pos) x k := fun Qf =>
  PT.imp (pt_cmpR ho (ha Qf) (PE.ex fun d1 => hb d1 Qf) hm) fun σ H Q ⟨G, J, g, st, w, h⟩ => by
    refine ⟨G, J, g, st, w, fun v1 d1 H1 G1 J1 g1 af1 si1 r1 w1 => ⟨d1, G1, J1, g1, st.go af1 si1, w1, fun v2 d2 H2 G2 J2 g2 af2 si2 r2 w2 => ?_⟩⟩
    obtain ⟨d, e, w3⟩ := of_need w2
    exact hp H2 G2 v1 v2 d1 d2 d _ af2.vis.sub (Rp.sub af2.gg r1) r2 e fun v H' G' n rr => by
      cases rr
      exact ⟨d, rfl, h d H' G' J2 g2 ((af1.trans af2).trans (n.aft af2.vis)) (SIx.nw si2 n) w3⟩
/-- an expression whose value is a bool, as a test -/
theorem ct_val {e : Expr} {x : m β} {k : Bool → m β} (h : CE C X ρ e bv x k) (he : ∀ whole, isTrue e X.env whole = (do let v ← whole; standAt e.pos; holding [v] (truthy v)) := by intro _; rfl) : CT C X ρ e x k := fun Qf =>
  PT.imp (pt_val (h Qf) he) fun σ H Q ⟨G, J, g, st, w, q⟩ => ⟨G, J, g, st, w, fun v b H' G' J' g' af si rr w' => by
    cases rr
    exact ⟨b, rfl, q b H' G' J' g' af si w'⟩⟩
/-- a plain value that must be a bool -/
def asB : D → Option Bool
  | .bool b => some b
  | _ => none
theorem ce_asB {e : Expr} {x : m β} {k : Bool → m β} (h : CE C X ρ e dv x (fun d => bnd (need (asB d)) k)) : CE C X ρ e bv x k := fun Qf =>
  PE.imp (h Qf) fun σ H Q ⟨G, J, g, st, w, q⟩ => ⟨G, J, g, st, w, fun v d H' G' J' g' af si rr w' => by
    obtain ⟨b, e, w3⟩ := of_need w'
    cases d <;> first | (cases e; exact q v b H' G' J' g' af si rr w3) | cases e⟩
theorem ct_not {a : Expr} {pos : Pos} {x : m β} {k : Bool → m β} (h : CT C X ρ a x (fun b => k (!b))) : CT C X ρ (.UnaryOp .Not a pos) x k := fun Qf =>
  PT.imp (pt_not (h Qf)) fun σ H Q ⟨G, J, g, st, w, q⟩ => ⟨G, J, g, st, w, fun b H' G' J' g' af si w' => q (!b) H' G' J' g' af si w'⟩
theorem cw_and1 {a : Expr} {pos : Pos} {x : m β} {k : Bool → m β} (h : CT C X ρ a x k) : CW C X ρ (.BoolOp .And [a] pos) x k := fun Qf => PW.imp (pw_and1 (h Qf)) fun _ _ _ h => h
theorem cw_or1 {a : Expr} {pos : Pos} {x : m β} {k : Bool → m β} (h : CT C X ρ a x k) : CW C X ρ (.BoolOp .Or [a] pos) x k := fun Qf => PW.imp (pw_or1 (h Qf)) fun _ _ _ h => h
theorem cw_and {a b : Expr} {rest : List Expr} {pos : Pos} {x y : m β} {k : Bool → m β} (hb : CW C X ρ (.BoolOp .And (b :: rest) pos) y k) (ha : CT C X ρ a x (fun c => if c = true then y else k false)) : CW C X ρ (.BoolOp .And (a :: b :: rest) pos) x k := fun Qf =>
  PW.imp (pw_and (ha Qf) (hb Qf)) fun σ H Q ⟨G, J, g, st, w, q⟩ => ⟨G, J, g, st, w, fun c H1 G1 J1 g1 af1 si1 w1 => by
    cases c with
    | true =>
      rw [if_pos rfl]
      dsimp only at w1; rw [if_pos rfl] at w1
      exact ⟨G1, J1, g1, st.go af1 si1, w1, fun b H' G' J' g' af si w' => q b H' G' J' g' (af1.trans af) si w'⟩
    | false =>
      rw [if_neg Bool.false_ne_true]
      dsimp only at w1; rw [if_neg Bool.false_ne_true] at w1
      exact q false H1 G1 J1 g1 af1 si1 w1⟩
theorem cw_or {a b : Expr} {rest : List Expr} {pos : Pos} {x y : m β} {k : Bool → m β} (hb : CW C X ρ (.BoolOp .Or (b :: rest) pos) y k) (ha : CT C X ρ a x (fun c => if c = true then k true else y)) : CW C X ρ (.BoolOp .Or (a :: b :: rest) pos) x k := fun Qf =>
  PW.imp (pw_or (ha Qf) (hb Qf)) fun σ H Q ⟨G, J, g, st, w, q⟩ => ⟨G, J, g, st, w, fun c H1 G1 J1 g1 af1 si1 w1 => by
    cases c with
    | true =>
      rw [if_pos rfl]
      dsimp only at w1; rw [if_pos rfl] at w1
      exact q true H1 G1 J1 g1 af1 si1 w1
    | false =>
      rw [if_neg Bool.false_ne_true]
      dsimp only at w1; rw [if_neg Bool.false_ne_true] at w1
      exact ⟨G1, J1, g1, st.go af1 si1, w1, fun b H' G' J' g' af si w' => q b H' G' J' g' (af1.trans af) si w'⟩⟩
theorem ct_w {e : Expr} {x : m β} {k : Bool → m β} (h : CW C X ρ e x k) : CT C X ρ e x k := fun Qf => (h Qf).pt
/-- and, or as values -/
theorem ce_one {op} {a : Expr} {pos : Pos} {x : m β} {k : Bool → m β} (h : CE C X ρ a bv x k) : CE C X ρ (.BoolOp op [a] pos) bv x k := fun Qf => PE.imp (pe_one (h Qf)) fun _ _ _ h => h
theorem ce_and {a b : Expr} {rest : List Expr} {pos : Pos} {x y : m β} {k : Bool → m β} (hb : CE C X ρ (.BoolOp .And (b :: rest) pos) bv y k) (ha : CE C X ρ a bv x (fun c => if c = true then y else k false)) : CE C X ρ (.BoolOp .And (a :: b :: rest) pos) bv x k := fun Qf =>
  PE.imp (pe_and (ha Qf) (hb Qf)) fun σ H Q ⟨G, J, g, st, w, q⟩ => ⟨G, J, g, st, w, fun v c H1 G1 J1 g1 af1 si1 rr w1 => by
    cases rr
    refine ⟨c, rfl, ?_⟩
    cases c with
    | true =>
      rw [if_pos rfl]
      dsimp only at w1; rw [if_pos rfl] at w1
      exact ⟨G1, J1, g1, st.go af1 si1, w1, fun v b H' G' J' g' af si rr w' => q v b H' G' J' g' (af1.trans af) si rr w'⟩
    | false =>
      rw [if_neg Bool.false_ne_true]
      dsimp only at w1; rw [if_neg Bool.false_ne_true] at w1
      exact q _ false H1 G1 J1 g1 af1 si1 (.bl _) w1⟩
theorem ce_or {a b : Expr} {rest : List Expr} {pos : Pos} {x y : m β} {k : Bool → m β} (hb : CE C X ρ (.BoolOp .Or (b :: rest) pos) bv y k) (ha : CE C X ρ a bv x (fun c => if c = true then k true else y)) : CE C X ρ (.BoolOp .Or (a :: b :: rest) pos) bv x k := fun Qf =>
  PE.imp (pe_or (ha Qf) (hb Qf)) fun σ H Q ⟨G, J, g, st, w, q⟩ => ⟨G, J, g, st, w, fun v c H1 G1 J1 g1 af1 si1 rr w1 => by
    cases rr
    refine ⟨c, rfl, ?_⟩
    cases c with
    | true =>
      rw [if_pos rfl]
      dsimp only at w1; rw [if_pos rfl] at w1
      exact q _ true H1 G1 J1 g1 af1 si1 (.bl _) w1
    | false =>
      rw [if_neg Bool.false_ne_true]
      dsimp only at w1; rw [if_neg Bool.false_ne_true] at w1
      exact ⟨G1, J1, g1, st.go af1 si1, w1, fun v b H' G' J' g' af si rr w' => q v b H' G' J' g' (af1.trans af) si rr w'⟩⟩
theorem ce_not {a : Expr} {pos : Pos} {x : m β} {k : Bool → m β} (h : CE C X ρ a bv x (fun b => k (!b))) : CE C X ρ (.UnaryOp .Not a pos) bv x k := fun Qf =>
  PE.imp (pe_not (h Qf)) fun σ H Q ⟨G, J, g, st, w, q⟩ => ⟨G, J, g, st, w, fun v b H' G' J' g' af si rr w' => by
    cases rr
    exact ⟨b, rfl, q _ (!b) H' G' J' g' af si (.bl _) w'⟩⟩
theorem ce_if {c a b : Expr} {pos : Pos} {rk : α → R} {x y z : m β} {k : α → m β} (ha : CE C X ρ a rk y k) (hb : CE C X ρ b rk z k) (hc : CT C X ρ c x (fun t => if t = true then y else z)) : CE C X ρ (.IfExp c a b pos) rk x k := fun Qf =>
  PE.imp (pe_ifExp (hc Qf) (ha Qf) (hb Qf)) fun σ H Q ⟨G, J, g, st, w, q⟩ => ⟨G, J, g, st, w, fun t H1 G1 J1 g1 af1 si1 w1 => by
    have bk : ∀ c, H1 c = none → H c = none := fun c h => Classical.byContradiction fun z => af1.dm c z h
    cases t with
    | true =>
      dsimp only
      rw [if_pos rfl]
      dsimp only at w1; rw [if_pos rfl] at w1
      exact ⟨G1, J1, g1, st.go af1 si1, w1, fun v b H' G' J' g' af si rr w' => q v b H' G' J' g' (af1.trans af) si (rr.base bk) w'⟩
    | false =>
      dsimp only
      rw [if_neg Bool.false_ne_true]
      dsimp only at w1; rw [if_neg Bool.false_ne_true] at w1
      exact ⟨G1, J1, g1, st.go af1 si1, w1, fun v b H' G' J' g' af si rr w' => q v b H' G' J' g' (af1.trans af) si (rr.base bk) w'⟩⟩

/-! ### several expressions -/
theorem RRs.aft {K : PySem.W.Frag} {G G' H H' Hb : Hp} {J J' : Addr → Prop} (a : Aft G J H G' J' H') : ∀ {vs : List V} {rs : List R}, RRs K G J H Hb vs rs → RRs K G' J' H' Hb vs rs
  | _, _, .nil => .nil
  | _, _, .cons h t => .cons (h.aft a) (RRs.aft a t)
theorem RRs.base {K : PySem.W.Frag} {G H Hb Hc : Hp} {J : Addr → Prop} (k : ∀ a, Hb a = none → Hc a = none) : ∀ {vs : List V} {rs : List R}, RRs K G J H Hb vs rs → RRs K G J H Hc vs rs
  | _, _, .nil => .nil
  | _, _, .cons h t => .cons (h.base k) (RRs.base k t)
theorem ca_nil {k : List R → m β} : CA C X ρ [] (k []) k := fun Qf => PA.imp pa_nil fun σ H Q ⟨G, J, g, st, w, h⟩ => h [] [] H G J g (Aft.refl st.vis) st.si .nil rfl w
theorem ca_cons {e : Expr} {es : List Expr} {rk : α → R} {x : m β} {y : α → m β} {k : List R → m β} (hr : ∀ a, CA C X ρ es (y a) (fun rs => k (rk a :: rs))) (he : CE C X ρ e rk x y)
    (hs : starEach (e :: es) X.env = (false, eval e X.env) :: starEach es X.env := by rfl) : CA C X ρ (e :: es) x k := fun Qf =>
  PA.imp (pa_cons (he Qf) (PA.ex fun a => hr a Qf) hs) fun σ H Q ⟨G, J, g, st, w, h⟩ => ⟨G, J, g, st, w, fun v a H1 G1 J1 g1 af1 si1 rr w1 => ⟨a, G1, J1, g1, st.go af1 si1, w1, fun vs rs H' G' J' g' af si rrs hl w' =>
    h (v :: vs) (rk a :: rs) H' G' J' g' (af1.trans af) si (.cons (rr.aft af) (rrs.base fun c h => Classical.byContradiction fun z => af1.dm c z h)) (by rw [List.length_cons, List.length_cons, hl]) w'⟩⟩
/-- plain values all -/
def unV : List R → List D
  | [] => []
  | .v d :: rs => d :: unV rs
  | _ :: rs => unV rs
def allV : List R → Bool
  | [] => true
  | .v _ :: rs => allV rs
  | _ :: _ => false
theorem RRs.toL {K : PySem.W.Frag} {G H Hb : Hp} {J : Addr → Prop} : ∀ {vs : List V} {rs : List R}, RRs K G J H Hb vs rs → allV rs = true → RpL K G vs (unV rs)
  | _, _, .nil, _ => .nil
  | _, .v d :: rs, .cons h t, e => .cons h (RRs.toL t e)
  | _, .l _ :: _, .cons _ _, e => by simp [allV] at e
  | _, .o _ :: _, .cons _ _, e => by simp [allV] at e
theorem unV_length : ∀ {rs : List R}, allV rs = true → (unV rs).length = rs.length
  | [], _ => rfl
  | .v _ :: rs, e => by
    show (unV rs).length + 1 = rs.length + 1
    rw [unV_length (rs := rs) e]
  | .l _ :: _, e => by simp [allV] at e
  | .o _ :: _, e => by simp [allV] at e
/-- an argument list of plain values -/
def CD {β : Type} (C : Cc γ) (X : Cx) (ρ : En) (es : List Expr) (x : m β) (k : List D → m β) : Prop :=
  ∀ Qf : β → γ → Prop, PA X es (fun σ H Q => ∃ G J g, C.St X.K ρ σ H G J g ∧ PM.wp x g Qf C.EX ∧
    ∀ vs ds H' G' J' g', Aft G J H G' J' H' → C.S.si g' G' J' H' → RpL X.K G' vs ds → ds.length = es.length → PM.wp (k ds) g' Qf C.EX → Q vs H')
theorem cd_nil {k : List D → m β} : CD C X ρ [] (k []) k := fun Qf => PA.imp pa_nil fun σ H Q ⟨G, J, g, st, w, h⟩ => h [] [] H G J g (Aft.refl st.vis) st.si .nil rfl w
theorem cd_cons {e : Expr} {es : List Expr} {x : m β} {y : D → m β} {k : List D → m β} (hr : ∀ a, CD C X ρ es (y a) (fun rs => k (a :: rs))) (he : CE C X ρ e dv x y)
    (hs : starEach (e :: es) X.env = (false, eval e X.env) :: starEach es X.env := by rfl) : CD C X ρ (e :: es) x k := fun Qf =>
  PA.imp (pa_cons (he Qf) (PA.ex fun a => hr a Qf) hs) fun σ H Q ⟨G, J, g, st, w, h⟩ => ⟨G, J, g, st, w, fun v a H1 G1 J1 g1 af1 si1 rr w1 => ⟨a, G1, J1, g1, st.go af1 si1, w1, fun vs rs H' G' J' g' af si rrs hl w' =>
    h (v :: vs) (a :: rs) H' G' J' g' (af1.trans af) si (.cons (Rp.sub af.gg rr) rrs) (by rw [List.length_cons, List.length_cons, hl]) w'⟩⟩
theorem ce_tup {es : List Expr} {x1} {pos : Pos} {x : m β} {k : D → m β} (h : CD C X ρ es x (fun ds => k (.tuple ds))) (hl : es.length ≤ sizeLine := by decide) : CE C X ρ (.Tuple es x1 pos) dv x k := fun Qf =>
  PE.imp (pe_tup (h Qf)) fun σ H Q ⟨G, J, g, st, w, q⟩ => ⟨G, J, g, st, w, fun vs ds H' G' J' g' af si rl hn w' => ⟨by rw [rl.length, hn]; exact hl, fun p np => by
    have n := New.laid (o := .tup vs) af.vis.sub np
    exact q _ (.tuple ds) _ _ J' g' (af.trans (n.aft af.vis)) (SIx.nw si n) (rp_newT af.vis.sub np rl) w'⟩⟩
theorem ce_lst {es : List Expr} {pos : Pos} {x : m β} {k : List D → m β} (h : CD C X ρ es x k) (hl : es.length ≤ sizeLine := by decide) : CE C X ρ (.List es pos) lv x k := fun Qf =>
  PE.imp (pe_lst (h Qf)) fun σ H Q ⟨G, J, g, st, w, q⟩ => ⟨G, J, g, st, w, fun vs ds H' G' J' g' af si rl hn w' => ⟨by rw [rl.length, hn]; exact hl, fun p np => by
    have n := New.own (o := .lst vs) af.vis.sub np
    refine q _ ds _ _ J' g' (af.trans (n.aft af.vis)) (SIx.nw si n) ⟨p, rfl, Classical.byContradiction fun z => af.dm p z np, none_of_sub af.vis.sub np, fun j => af.vis.dom p j np, vs, upd_same, rl⟩ w'⟩⟩
end
end Cl

set_option Elab.async false
set_option linter.all false
set_option maxRecDepth 100000
set_option maxHeartbeats 4000000
/-! the clean layer, part C: statements -/
namespace Cl
open PySem PySem.Spec PyProof.Rows L2
open MO

section
variable {γ : Type} {m : Type → Type} [PM γ m] {α β δ τ : Type}
/-- what is wanted behind a block -/
structure Fi (C : Cc γ) (K : PySem.W.Frag) (G : Hp) (out : α → En) (outL : τ → En) (rk : δ → R) (kn : α → m β) (kr : δ → m β) (kb kc : τ → m β) (Qf : β → γ → Prop) (E : Ends) : Prop where
  nx : ∀ a σ' H' G' J' g', Sub G G' → C.St K (out a) σ' H' G' J' g' → PM.wp (kn a) g' Qf C.EX → E.nx σ' H'
  rt : ∀ r v H' G' J' g', Aft C.G0 C.J0 C.H0 G' J' H' → C.S.si g' G' J' H' → RR K G' J' H' C.H0 v (rk r) → PM.wp (kr r) g' Qf C.EX → E.rt v H'
  bk : ∀ a σ' H' G' J' g', Sub G G' → C.St K (outL a) σ' H' G' J' g' → PM.wp (kb a) g' Qf C.EX → E.bk σ' H'
  ct : ∀ a σ' H' G' J' g', Sub G G' → C.St K (outL a) σ' H' G' J' g' → PM.wp (kc a) g' Qf C.EX → E.ct σ' H'
theorem Fi.sub {C : Cc γ} {K : PySem.W.Frag} {G G1 : Hp} {out : α → En} {outL : τ → En} {rk : δ → R} {kn : α → m β} {kr : δ → m β} {kb kc : τ → m β} {Qf : β → γ → Prop} {E : Ends}
    (f : Fi C K G out outL rk kn kr kb kc Qf E) (s : Sub G G1) : Fi C K G1 out outL rk kn kr kb kc Qf E :=
  ⟨fun a σ' H' G' J' g' h => f.nx a σ' H' G' J' g' (s.trans h), f.rt, fun a σ' H' G' J' g' h => f.bk a σ' H' G' J' g' (s.trans h), fun a σ' H' G' J' g' h => f.ct a σ' H' G' J' g' (s.trans h)⟩
/-- a block: x is what is done from here on; kn behind it, kr behind a return, kb behind a break, kc behind a continue -/
def CS (C : Cc γ) (X : Cx) (ρ : En) (ss : List Stmt) (out : α → En) (outL : τ → En) (rk : δ → R) (x : m β) (kn : α → m β) (kr : δ → m β) (kb kc : τ → m β) : Prop :=
  ∀ Qf : β → γ → Prop, PSs X ss (fun E σ H => ∃ G J g, C.St X.K ρ σ H G J g ∧ PM.wp x g Qf C.EX ∧ Fi C X.K G out outL rk kn kr kb kc Qf E)
variable {C : Cc γ} {X : Cx} {ρ : En} {rest : List Stmt} {out : α → En} {outL : τ → En} {rk : δ → R} {x : m β} {kn : α → m β} {kr : δ → m β} {kb kc : τ → m β}

/-! ### fewer names -/
theorem le_nil : LeE [] [] := ⟨rfl, fun i x h => h⟩
theorem le_none {a b : En} {x : Option Ent} (h : LeE a b) : LeE (none :: a) (x :: b) := ⟨by rw [List.length_cons, List.length_cons, h.1], fun i y q => by
  cases i with
  | zero => simp at q
  | succ i => simp at q ⊢; exact h.2 i y q⟩
theorem le_same {a b : En} {x : Option Ent} (h : LeE a b) : LeE (x :: a) (x :: b) := ⟨by rw [List.length_cons, List.length_cons, h.1], fun i y q => by
  cases i with
  | zero => simp at q ⊢; exact q
  | succ i => simp at q ⊢; exact h.2 i y q⟩
theorem Cc.St.le {K : PySem.W.Frag} {ρ' : En} {σ : L2.St} {H G : Hp} {J : Addr → Prop} {g : γ} (s : C.St K ρ' σ H G J g) (l : LeE ρ ρ') : C.St K ρ σ H G J g := ⟨s.env.le l, s.aft, s.si⟩

theorem cs_nil {a : α} (l : LeE (out a) ρ) : CS C X ρ [] out outL rk (kn a) kn kr kb kc := fun Qf =>
  PSs.imp pss_nil fun E σ H ⟨G, J, g, st, w, f⟩ => f.nx a σ H G J g (Sub.refl _) (st.le l) w
theorem cs_break {t : τ} {pos : Pos} (l : LeE (outL t) ρ) : CS C X ρ [.Break pos] out outL rk (kb t) kn kr kb kc := fun Qf =>
  PSs.imp (pss_one ps_break) fun E σ H ⟨G, J, g, st, w, f⟩ => f.bk t σ H G J g (Sub.refl _) (st.le l) w
theorem cs_continue {t : τ} {pos : Pos} (l : LeE (outL t) ρ) : CS C X ρ [.Continue pos] out outL rk (kc t) kn kr kb kc := fun Qf =>
  PSs.imp (pss_one ps_continue) fun E σ H ⟨G, J, g, st, w, f⟩ => f.ct t σ H G J g (Sub.refl _) (st.le l) w
theorem cs_pass {pos : Pos} (h : CS C X ρ rest out outL rk x kn kr kb kc) : CS C X ρ (.Pass pos :: rest) out outL rk x kn kr kb kc := fun Qf =>
  PSs.imp (pss_cons ps_pass (h Qf)) fun E σ H h => h
/-- what is never come to -/
theorem cs_never {ss : List Stmt} : CS C X ρ ss out outL rk (lift .no) kn kr kb kc := fun Qf =>
  PSs.imp pss_never fun E σ H ⟨G, J, g, st, w, f⟩ => (PM.of_lift w).elim

/-! ### stores -/
section
variable {i : Nat} {y : Str} {e : Expr} {pos pos' : Pos}
theorem cs_set {xr : D → m β} (hr : ∀ d, CS C X (ρ.set i (some (.val d))) rest out outL rk (xr d) kn kr kb kc) (he : CE C X ρ e dv x xr) (hN : X.N.Nodup) (hi : X.N[i]? = some y := by rfl) (hx : Loc X.env.scope y := by first | exact Or.inl rfl | exact Or.inr rfl)
    (hs : swapsWith e (some (.Name y pos')) pos.line X.env = pure false := by rfl) (hf : X.fn y = true ∨ X.env.scope.names.lookup y = some .local := by first | exact .inl rfl | exact .inr rfl | assumption) :
    CS C X ρ (.Assign [.Name y pos'] e pos :: rest) out outL rk x kn kr kb kc := fun Qf =>
  PSs.imp (pss_cons (ps_set hN hi hx (he Qf) hs hf) (PSs.ex fun d => hr d Qf)) fun E σ H ⟨G, J, g, st, w, f⟩ =>
    ⟨G, J, g, st, w, fun v d H' G' J' g' af si rr w' => ⟨d, G', J', g', ⟨(st.env.aft af).setV rr, st.aft.trans af, si⟩, w', f.sub af.gg⟩⟩
theorem cs_setO {xr : Addr → m β} (hr : ∀ d, CS C X (ρ.set i (some (.obj d))) rest out outL rk (xr d) kn kr kb kc) (he : CE C X ρ e R.o x xr) (hN : X.N.Nodup) (hi : X.N[i]? = some y := by rfl) (hx : Loc X.env.scope y := by first | exact Or.inl rfl | exact Or.inr rfl)
    (hs : swapsWith e (some (.Name y pos')) pos.line X.env = pure false := by rfl) (hf : X.fn y = true ∨ X.env.scope.names.lookup y = some .local := by first | exact .inl rfl | exact .inr rfl | assumption) :
    CS C X ρ (.Assign [.Name y pos'] e pos :: rest) out outL rk x kn kr kb kc := fun Qf =>
  PSs.imp (pss_cons (ps_set hN hi hx (he Qf) hs hf) (PSs.ex fun d => hr d Qf)) fun E σ H ⟨G, J, g, st, w, f⟩ =>
    ⟨G, J, g, st, w, fun v d H' G' J' g' af si rr w' => ⟨d, G', J', g', ⟨by cases rr; exact (st.env.aft af).setO, st.aft.trans af, si⟩, w', f.sub af.gg⟩⟩
/-- an object is stored whose freshness is told from H -/
theorem Cc.St.setL {K : PySem.W.Frag} {σ : L2.St} {H G H' G' : Hp} {J J' : Addr → Prop} {g g' : γ} {p : Addr} {c : Cell} (st : C.St K ρ σ H G J g) (af : Aft G J H G' J' H') (si : C.S.si g' G' J' H')
    (hb : H p = none) (hg : G' p = none) (hj : ¬ J' p) (hc : HC K G' H' p c) : C.St K (ρ.set i (some (.own c))) (σ.set i (some (.ref p))) H' G' J' g' := by
  refine ⟨(st.env.aft af).setL ?_ hg hj hc fun j c' ji hj1 hj2 => ?_, st.aft.trans af, si⟩
  · exact Classical.byContradiction fun z => st.aft.dm p z hb
  · obtain ⟨p', h1, _, _, _, h5⟩ := st.env.own j c' hj1
    rw [hj2] at h1; cases h1
    obtain ⟨o, ho⟩ := h5.ex
    rw [hb] at ho; cases ho
theorem cs_setL {α' : Type} {cc : α' → Cell} {xr : α' → m β} (hr : ∀ a, CS C X (ρ.set i (some (.own (cc a)))) rest out outL rk (xr a) kn kr kb kc) (he : CE C X ρ e (fun a => .l (cc a)) x xr) (hN : X.N.Nodup) (hi : X.N[i]? = some y := by rfl) (hx : Loc X.env.scope y := by first | exact Or.inl rfl | exact Or.inr rfl)
    (hs : swapsWith e (some (.Name y pos')) pos.line X.env = pure false := by rfl) (hf : X.fn y = true ∨ X.env.scope.names.lookup y = some .local := by first | exact .inl rfl | exact .inr rfl | assumption) :
    CS C X ρ (.Assign [.Name y pos'] e pos :: rest) out outL rk x kn kr kb kc := fun Qf =>
  PSs.imp (pss_cons (ps_set hN hi hx (he Qf) hs hf) (PSs.ex fun d => hr d Qf)) fun E σ H ⟨G, J, g, st, w, f⟩ =>
    ⟨G, J, g, st, w, fun v d H' G' J' g' af si rr w' => by
      obtain ⟨p, rfl, hb, hg, hj, hc⟩ := rr
      exact ⟨d, G', J', g', st.setL af si hb hg hj hc, w', f.sub af.gg⟩⟩
/-- one's own object is shown from here on -/
def cellD : Cell → D
  | .lst xs => .list xs
  | .dct kvs => .dict kvs
theorem Cc.St.show {K : PySem.W.Frag} {σ : L2.St} {H G : Hp} {J : Addr → Prop} {g : γ} {i : Nat} {c : Cell} (st : C.St K ρ σ H G J g) (hi : ρ[i]? = some (some (.own c))) :
    ∃ G', Sub G G' ∧ C.St K (ρ.set i (some (.val (cellD c)))) σ H G' J g ∧ (∃ p o, σ[i]? = some (some (.ref p)) ∧ H p = some o ∧ G p = none ∧ G' = upd G p o ∧ ¬ J p ∧ C.H0 p = none ∧ (∀ xs, o ≠ .tup xs) ∧ ∀ a b, o ≠ .frz a b) := by
  obtain ⟨p, h1, h2, h3, h4, h5⟩ := st.env.own i c hi
  obtain ⟨o, ho, ht, hf, r⟩ : ∃ o, H p = some o ∧ (∀ xs, o ≠ .tup xs) ∧ (∀ a b, o ≠ .frz a b) ∧ Rp K (upd G p o) (.ref p) (cellD c) := by
    cases c with
    | lst xs =>
      obtain ⟨vs, hv, rl⟩ := h5
      exact ⟨_, hv, (fun _ z => by cases z), (fun _ _ z => by cases z), .lst upd_same (rl.sub (sub_upd h3))⟩
    | dct xs =>
      obtain ⟨vs, hv, rl⟩ := h5
      exact ⟨_, hv, (fun _ z => by cases z), (fun _ _ z => by cases z), .dct upd_same (rl.sub (sub_upd h3))⟩
  have hs : Sub G (upd G p o) := sub_upd h3
  have gs : Sub (upd G p o) H := fun c u q => by
    by_cases z : c = p
    · subst z; rw [upd_same] at q; cases q; exact ho
    · rw [upd_ne z] at q; exact st.aft.vis.sub c u q
  refine ⟨upd G p o, hs, ⟨⟨fun j d hd => ?_, fun j a hd => ?_, fun j c' hd => ?_, fun j k c1 c2 r1 hjk q1 q2 => ?_, by rw [List.length_set, st.env.len], set_nb st.env.nb (fun z => by cases z)⟩, ⟨st.aft.gg.trans hs, st.aft.hh, st.aft.dm, fun a ha => ?_, st.aft.jn, ⟨gs, fun a j => ?_, st.aft.vis.dom⟩⟩, C.S.new st.si hs fun _ _ _ h => h⟩, p, o, h1, ho, h3, rfl, h4, h2, ht, hf⟩
  · by_cases q : i = j
    · subst q
      rw [List.getElem?_set, if_pos rfl] at hd
      split at hd
      · cases hd; exact ⟨_, h1, r⟩
      · cases hd
    · rw [List.getElem?_set_ne q] at hd
      obtain ⟨v, e1, e2⟩ := st.env.val j d hd
      exact ⟨v, e1, e2.sub hs⟩
  · by_cases q : i = j
    · subst q
      rw [List.getElem?_set, if_pos rfl] at hd
      split at hd <;> cases hd
    · rw [List.getElem?_set_ne q] at hd
      exact st.env.obj j a hd
  · by_cases q : i = j
    · subst q
      rw [List.getElem?_set, if_pos rfl] at hd
      split at hd <;> cases hd
    · rw [List.getElem?_set_ne q] at hd
      obtain ⟨p', e1, e2, e3, e4, e5⟩ := st.env.own j c' hd
      have ne : p' ≠ p := fun z => by
        subst z
        exact st.env.sep i j _ _ _ q hi hd h1 e1
      exact ⟨p', e1, e2, by rw [upd_ne ne]; exact e3, e4, e5.keep hs fun o h => h⟩
  · have f : ∀ {k : Nat} {c' : Cell}, (ρ.set i (some (.val (cellD c))))[k]? = some (some (.own c')) → ρ[k]? = some (some (.own c')) := fun {k c'} q => by
      by_cases z : i = k
      · subst z
        rw [List.getElem?_set, if_pos rfl] at q
        split at q <;> cases q
      · rw [List.getElem?_set_ne z] at q; exact q
    exact st.env.sep j k c1 c2 r1 hjk (f q1) (f q2)
  · by_cases z : a = p
    · subst z; exact .inr h2
    · rw [upd_ne z] at ha; exact st.aft.gn a ha
  · rw [upd_ne (fun z => h4 (by rw [← z]; exact j))]; exact st.aft.vis.dis a j
theorem cs_show {ss : List Stmt} (i : Nat) {c : Cell} (hi : ρ[i]? = some (some (.own c))) (h : CS C X (ρ.set i (some (.val (cellD c)))) ss out outL rk x kn kr kb kc) : CS C X ρ ss out outL rk x kn kr kb kc := fun Qf =>
  PSs.imp (h Qf) fun E σ H ⟨G, J, g, st, w, f⟩ => by
    obtain ⟨G', hs, st', _⟩ := st.show hi
    exact ⟨G', J, g, st', w, f.sub hs⟩
end

/-! ### return -/
theorem cs_ret {e : Expr} {pos : Pos} (he : CE C X ρ e rk x kr) : CS C X ρ [.Return (some e) pos] out outL rk x kn kr kb kc := fun Qf =>
  PSs.imp (pss_one (ps_ret (he Qf))) fun E σ H ⟨G, J, g, st, w, f⟩ => ⟨G, J, g, st, w, fun v d H' G' J' g' af si rr w' =>
    f.rt d v H' G' J' g' (st.aft.trans af) si (rr.base fun a h => Classical.byContradiction fun z => st.aft.dm a z h) w'⟩
theorem cs_retN {pos : Pos} {kr : D → m β} : CS C X ρ [.Return none pos] out outL dv (kr .none) kn kr kb kc := fun Qf =>
  PSs.imp (pss_one ps_retN) fun E σ H ⟨G, J, g, st, w, f⟩ => f.rt .none .non H G J g st.aft st.si .non w
/-- a list of one's own is given back -/
theorem cs_retL {y : Str} {p1 pos : Pos} {i : Nat} {xs : List D} {kr : List D → m β} (hi : ρ[i]? = some (some (.own (.lst xs)))) (hp : PE X (.Name y p1) (tVar i) := by exact pv _) :
    CS C X ρ [.Return (some (.Name y p1)) pos] out outL lv (kr xs) kn kr kb kc := fun Qf =>
  PSs.imp (pss_one (ps_ret hp)) fun E σ H ⟨G, J, g, st, w, f⟩ => by
    obtain ⟨p, h1, h2, h3, h4, h5⟩ := st.env.own i _ hi
    exact ⟨_, h1, f.rt xs _ H G J g st.aft st.si ⟨p, rfl, h2, h3, h4, h5⟩ w⟩

/-! ### if -/
def badE : En := [some .bad]
theorem bad_env {C : Cc γ} {K : PySem.W.Frag} {H G : Hp} {σ : L2.St} {J : Addr → Prop} {g : γ} (h : C.St K badE σ H G J g) : False := h.env.nb 0 rfl
/-- the first block never comes to its end -/
theorem cs_ifT {t : Expr} {A : List Stmt} {pos : Pos} {y z : m β} (hA : ∀ out' : α → En, CS C X ρ A out' outL rk y kn kr kb kc) (hR : CS C X ρ rest out outL rk z kn kr kb kc) (ht : CT C X ρ t x (fun b => if b = true then y else z)) :
    CS C X ρ (.If t A [] pos :: rest) out outL rk x kn kr kb kc := fun Qf =>
  PSs.imp (pss_cons (ps_if (ht Qf) (hA (fun _ => badE) Qf) pss_nil) (hR Qf)) fun E σ H ⟨G, J, g, st, w, f⟩ => ⟨G, J, g, st, w, fun b H1 G1 J1 g1 af1 si1 w1 => by
    cases b with
    | true =>
      dsimp only
      rw [if_pos rfl]
      dsimp only at w1; rw [if_pos rfl] at w1
      exact ⟨G1, J1, g1, st.go af1 si1, w1, ⟨fun a σ' H' G' J' g' hs st' w' => (bad_env st').elim, f.rt, (f.sub af1.gg).bk, (f.sub af1.gg).ct⟩⟩
    | false =>
      dsimp only
      rw [if_neg Bool.false_ne_true]
      dsimp only at w1; rw [if_neg Bool.false_ne_true] at w1
      exact ⟨G1, J1, g1, st.go af1 si1, w1, f.sub af1.gg⟩⟩
end
end Cl

set_option Elab.async false
set_option linter.all false
set_option maxRecDepth 100000
set_option maxHeartbeats 4000000
/-! the clean layer, part D: branches, changes of one's own lists, targets, loops -/
namespace Cl
open PySem PySem.Spec PyProof.Rows L2
open MO

section
variable {γ : Type} {m : Type → Type} [PM γ m] {α β δ τ : Type}
variable {C : Cc γ} {X : Cx} {ρ : En} {rest : List Stmt} {out : α → En} {outL : τ → En} {rk : δ → R} {x : m β} {kn : α → m β} {kr : δ → m β} {kb kc : τ → m β}
theorem Aft.back {G H G' H' : Hp} {J J' : Addr → Prop} (a : Aft G J H G' J' H') : ∀ c, H' c = none → H c = none := fun c h => Classical.byContradiction fun z => a.dm c z h

/-- a join: what is done behind both branches is k -/
def jn {α β : Type} (f : (α → m β) → m β) (k : α → m β) : m β := f k
theorem cs_ifE {t : Expr} {A B : List Stmt} {pos : Pos} {y z : m β} (hA : CS C X ρ A out outL rk y kn kr kb kc) (hB : CS C X ρ B out outL rk z kn kr kb kc) (ht : CT C X ρ t x (fun b => if b = true then y else z)) :
    CS C X ρ [.If t A B pos] out outL rk x kn kr kb kc := fun Qf =>
  PSs.imp (pss_one (ps_if (ht Qf) (hA Qf) (hB Qf))) fun E σ H ⟨G, J, g, st, w, f⟩ => ⟨G, J, g, st, w, fun b H1 G1 J1 g1 af1 si1 w1 => by
    cases b with
    | true =>
      dsimp only
      rw [if_pos rfl]
      dsimp only at w1; rw [if_pos rfl] at w1
      exact ⟨G1, J1, g1, st.go af1 si1, w1, f.sub af1.gg⟩
    | false =>
      dsimp only
      rw [if_neg Bool.false_ne_true]
      dsimp only at w1; rw [if_neg Bool.false_ne_true] at w1
      exact ⟨G1, J1, g1, st.go af1 si1, w1, f.sub af1.gg⟩⟩
theorem cs_ifJ {α1 : Type} {out1 : α1 → En} {t : Expr} {A B : List Stmt} {pos : Pos} {k : α1 → m β} {y z x : (α1 → m β) → m β} (hR : ∀ a, CS C X (out1 a) rest out outL rk (k a) kn kr kb kc)
    (hA : ∀ k1, CS C X ρ A out1 outL rk (y k1) k1 kr kb kc) (hB : ∀ k1, CS C X ρ B out1 outL rk (z k1) k1 kr kb kc) (ht : ∀ k1, CT C X ρ t (x k1) (fun b => if b = true then y k1 else z k1)) :
    CS C X ρ (.If t A B pos :: rest) out outL rk (jn x k) kn kr kb kc := fun Qf =>
  PSs.imp (pss_cons (ps_if (ht k Qf) (hA k Qf) (hB k Qf)) (PSs.ex fun a => hR a Qf)) fun E σ H ⟨G, J, g, st, w, f⟩ => ⟨G, J, g, st, w, fun b H1 G1 J1 g1 af1 si1 w1 => by
    have fi : Fi C X.K G1 out1 outL rk k kr kb kc Qf { E with nx := fun σ H => ∃ a, (∃ G J g, C.St X.K (out1 a) σ H G J g ∧ PM.wp (k a) g Qf C.EX ∧ Fi C X.K G out outL rk kn kr kb kc Qf E) } :=
      ⟨fun a σ' H' G' J' g' hs st' w' => ⟨a, G', J', g', st', w', f.sub (af1.gg.trans hs)⟩, f.rt, (f.sub af1.gg).bk, (f.sub af1.gg).ct⟩
    cases b with
    | true =>
      dsimp only
      rw [if_pos rfl]
      dsimp only at w1; rw [if_pos rfl] at w1
      exact ⟨G1, J1, g1, st.go af1 si1, w1, fi⟩
    | false =>
      dsimp only
      rw [if_neg Bool.false_ne_true]
      dsimp only at w1; rw [if_neg Bool.false_ne_true] at w1
      exact ⟨G1, J1, g1, st.go af1 si1, w1, fi⟩⟩

/-! ### one's own list changes -/
/-- a method of lists with one plain argument, its answer dropped -/
def Mu1 (K : PySem.W.Frag) (r : V → List V → Hp → VK → Prop) (f : List D → D → Option (List D)) : Prop := ∀ (H G : Hp) (l : Addr) (vs : List V) (xs : List D) (v : V) (d : D) (xs' : List D) (Q : VK), Sub G H → H l = some (.lst vs) → RpL K G vs xs → Rp K G v d →
  f xs d = some xs' → (∀ u vs', RpL K G vs' xs' → Q u (upd H l (.lst vs'))) → r (.ref l) [v] H Q
def appF (xs : List D) (d : D) : Option (List D) := if xs.length < sizeLine then some (xs ++ [d]) else none
theorem mu_append {K : PySem.W.Frag} : Mu1 K rAppend appF := fun H G l vs xs v d xs' Q s h rl r e q => by
  unfold appF at e
  split at e
  · rename_i hl
    cases e
    exact ⟨l, vs, v, rfl, rfl, h, by rw [rl.length]; exact hl, q _ _ (rl.append (.one r))⟩
  · cases e
def extF (xs : List D) (d : D) : Option (List D) := match d with
  | .list ys => if xs.length + ys.length ≤ sizeLine then some (xs ++ ys) else none
  | _ => none
theorem mu_extend {K : PySem.W.Frag} : Mu1 K rExtend extF := fun H G l vs xs v d xs' Q s h rl r e q => by
  cases r with
  | lst h1 h2 =>
    rename_i a ws ds
    unfold extF at e
    dsimp only at e
    split at e
    · rename_i hl
      cases e
      exact ⟨l, a, vs, ws, rfl, rfl, h, s _ _ h1, by rw [rl.length, h2.length]; exact hl, q _ _ (rl.append h2)⟩
    · cases e
  | non => cases e
  | bl b => cases e
  | int i => cases e
  | str x => cases e
  | tup h1 h2 => cases e
  | dct h1 h2 => cases e
theorem St.ownG {K : PySem.W.Frag} {σ : L2.St} {H G : Hp} {J : Addr → Prop} {g : γ} {i : Nat} {c c' : Cell} {p : Addr} {o : HO} (st : C.St K ρ σ H G J g) (hi : ρ[i]? = some (some (.own c))) (hp : σ[i]? = some (some (.ref p))) (hc : HC K G (upd H p o) p c') :
    C.St K (ρ.set i (some (.own c'))) σ (upd H p o) G J g := by
  obtain ⟨p', h1, h2, h3, h4, h5⟩ := st.env.own i c hi
  rw [hp] at h1; cases h1
  obtain ⟨u, hu⟩ := h5.ex
  refine ⟨st.env.mut hi hp hc, ⟨st.aft.gg, fun a o' hj ha => ?_, fun a ha => ?_, st.aft.gn, st.aft.jn, ⟨fun a o' ha => ?_, st.aft.vis.dis, fun a j => ?_⟩⟩, C.S.new st.si (Sub.refl _) fun a o' j ha => ?_⟩
  · rw [upd_ne (fun z => by rw [z, h2] at ha; cases ha)]; exact st.aft.hh a o' hj ha
  · by_cases z : a = p
    · subst z; rw [upd_same]; exact Option.some_ne_none _
    · rw [upd_ne z]; exact st.aft.dm a ha
  · rw [upd_ne (fun z => by rw [z, h3] at ha; cases ha)]; exact st.aft.vis.sub a o' ha
  · rw [upd_ne (fun z => h4 (by rw [← z]; exact j))]; exact st.aft.vis.dom a j
  · rw [upd_ne (fun z => h4 (by rw [← z]; exact j))]; exact ha
theorem ty_lst {K : PySem.W.Frag} {H : Hp} {p : Addr} {vs : List V} (h : H p = some (.lst vs)) : tyV K "list" (.ref p) H := Or.inl ⟨rfl, _, SqL.of h⟩
theorem cs_mut1 {y name : Str} {p1 apos cpos pos : Pos} {e : Expr} {id : String} {r : V → List V → Hp → VK → Prop} {f : List D → D → Option (List D)} {xr : List D → m β} (i : Nat) {xs : List D} (pa : PlainAttrs "list") (slot : Slot "list" name id) (hty : typeOf (.builtin id) = pure (.type "method_descriptor"))
    (hm : MtR X id r) (hf : Mu1 X.K r f) (hi : ρ[i]? = some (some (.own (.lst xs)))) (hr : ∀ xs', CS C X (ρ.set i (some (.own (.lst xs')))) rest out outL rk (xr xs') kn kr kb kc) (he : CE C X ρ e dv x (fun d => bnd (need (f xs d)) xr))
    (hp : PE X (.Name y p1) (tVar i) := by exact pv _) (ha : starEach [e] X.env = (false, eval e X.env) :: starEach [] X.env := by rfl)
    (hpe : ∀ te, PE X e te → PE X (.Call (.Attribute (.Name y p1) name apos) [e] [] cpos) (tBM X.K "list" r (tVar i) (tCons te tNil)) := by intro te he; exact pe_bm (by assumption) (by assumption) (by assumption) (by assumption) (by assumption) (pa_cons he pa_nil))
    (hs : swapsWith (.Call (.Attribute (.Name y p1) name apos) [e] [] cpos) none pos.line X.env = pure false := by rfl) :
    CS C X ρ (.Expr (.Call (.Attribute (.Name y p1) name apos) [e] [] cpos) pos :: rest) out outL rk x kn kr kb kc := fun Qf =>
  PSs.imp (pss_cons (ps_expr (hpe _ (he Qf)) hs) (PSs.ex fun xs' => hr xs' Qf)) fun E σ H ⟨G, J, g, st, w, fi⟩ => by
    obtain ⟨p, h1, h2, h3, h4, vs, hv, rl⟩ := st.env.own i _ hi
    refine ⟨_, h1, ty_lst hv, G, J, g, st, w, fun v d H' G' J' g' af si rr w' => ?_⟩
    obtain ⟨xs', e1, w2⟩ := of_need w'
    have st' := st.go af si
    obtain ⟨p', k1, k2, k3, k4, ws, kv, kl⟩ := st'.env.own i _ hi
    rw [h1] at k1; cases k1
    exact hf H' G' p ws xs v d xs' _ af.vis.sub kv kl rr e1 fun u vs' rl' => ⟨xs', G', J', g', St.ownG st' hi h1 ⟨vs', upd_same, rl'⟩, w2, fi.sub af.gg⟩
/-- found.append(e) -/
theorem cs_append {y : Str} {p1 apos cpos pos : Pos} {e : Expr} {xr : List D → m β} (i : Nat) {xs : List D} (hi : ρ[i]? = some (some (.own (.lst xs)))) (hr : ∀ xs', CS C X (ρ.set i (some (.own (.lst xs')))) rest out outL rk (xr xs') kn kr kb kc)
    (he : CE C X ρ e dv x (fun d => bnd (need (appF xs d)) xr)) (hpe : ∀ te, PE X e te → PE X (.Call (.Attribute (.Name y p1) "append" apos) [e] [] cpos) (tBM X.K "list" rAppend (tVar i) (tCons te tNil)) := by intro te he; exact pe_bm PySem.F.plainAttrs_list PySem.F.slot_list_append PySem.F.type_list_append mt_append (pv _) (pa_cons he pa_nil))
    (hp : PE X (.Name y p1) (tVar i) := by exact pv _) (ha : starEach [e] X.env = (false, eval e X.env) :: starEach [] X.env := by rfl) (hs : swapsWith (.Call (.Attribute (.Name y p1) "append" apos) [e] [] cpos) none pos.line X.env = pure false := by rfl) :
    CS C X ρ (.Expr (.Call (.Attribute (.Name y p1) "append" apos) [e] [] cpos) pos :: rest) out outL rk x kn kr kb kc :=
  cs_mut1 i PySem.F.plainAttrs_list PySem.F.slot_list_append PySem.F.type_list_append mt_append mu_append hi hr he hp ha hpe hs
theorem cs_extend {y : Str} {p1 apos cpos pos : Pos} {e : Expr} {xr : List D → m β} (i : Nat) {xs : List D} (hi : ρ[i]? = some (some (.own (.lst xs)))) (hr : ∀ xs', CS C X (ρ.set i (some (.own (.lst xs')))) rest out outL rk (xr xs') kn kr kb kc)
    (he : CE C X ρ e dv x (fun d => bnd (need (extF xs d)) xr)) (hpe : ∀ te, PE X e te → PE X (.Call (.Attribute (.Name y p1) "extend" apos) [e] [] cpos) (tBM X.K "list" rExtend (tVar i) (tCons te tNil)) := by intro te he; exact pe_bm PySem.F.plainAttrs_list PySem.F.slot_list_extend PySem.F.type_list_extend mt_extend (pv _) (pa_cons he pa_nil))
    (hp : PE X (.Name y p1) (tVar i) := by exact pv _) (ha : starEach [e] X.env = (false, eval e X.env) :: starEach [] X.env := by rfl) (hs : swapsWith (.Call (.Attribute (.Name y p1) "extend" apos) [e] [] cpos) none pos.line X.env = pure false := by rfl) :
    CS C X ρ (.Expr (.Call (.Attribute (.Name y p1) "extend" apos) [e] [] cpos) pos :: rest) out outL rk x kn kr kb kc :=
  cs_mut1 i PySem.F.plainAttrs_list PySem.F.slot_list_extend PySem.F.type_list_extend mt_extend mu_extend hi hr he hp ha hpe hs

/-! ### targets -/
/-- only the slots sl are another -/
def But (sl : List Nat) (σ σ' : L2.St) : Prop := ∀ ws : List Nat, (∀ i ∈ sl, i ∈ ws) → wipe σ' ws = wipe σ ws
theorem wipe_set {i : Nat} {v : Option V} : ∀ {ws : List Nat} {σ : L2.St}, i ∈ ws → wipe (σ.set i v) ws = wipe σ ws
  | [], _, h => by simp at h
  | w :: ws, σ, h => by
    unfold wipe
    by_cases hi : i ∈ ws
    · rw [wipe_set hi]
    · have e : i = w := by
        rcases List.mem_cons.mp h with h | h
        · exact h
        · exact absurd h hi
      subst e
      have push : ∀ {vs : List Nat}, i ∉ vs → wipe (σ.set i v) vs = (wipe σ vs).set i v := fun {vs} => by
        induction vs with
        | nil => intro _; rfl
        | cons u us ih =>
          intro hn
          unfold wipe
          rw [ih (fun z => hn (List.mem_cons_of_mem _ z)), List.set_comm _ _ (fun z => hn (by rw [z]; exact List.mem_cons_self))]
      rw [push hi, List.set_set]
theorem But.trans {sl sl' : List Nat} {σ σ1 σ2 : L2.St} (a : But sl σ σ1) (b : But sl' σ1 σ2) : But (sl ++ sl') σ σ2 := fun ws h => (b ws fun i hi => h i (List.mem_append_right _ hi)).trans (a ws fun i hi => h i (List.mem_append_left _ hi))
def CG {α : Type} (C : Cc γ) (X : Cx) (ρ : En) (tg : Expr) (un : D → Option α) (out : α → En) (sl : List Nat) : Prop :=
  PG X tg (fun v σ H Q => ∃ G J d a, EnvR X.K C.H0 ρ σ H G J ∧ Sub G H ∧ Rp X.K G v d ∧ un d = some a ∧ ∀ σ', EnvR X.K C.H0 (out a) σ' H G J → But sl σ σ' → Q σ' H)
structure CGs {α : Type} (C : Cc γ) (X : Cx) (ρ : En) (ts : List Expr) (un : List D → Option α) (out : α → En) (sl : List Nat) : Prop where
  run : PGs X ts (fun vs σ H Q => ∃ G J ds a, EnvR X.K C.H0 ρ σ H G J ∧ Sub G H ∧ RpL X.K G vs ds ∧ un ds = some a ∧ ∀ σ', EnvR X.K C.H0 (out a) σ' H G J → But sl σ σ' → Q σ' H)
  len : ∀ ds a, un ds = some a → ds.length = ts.length
theorem PGs.imp {X : Cx} {ts : List Expr} {t t' : TGs} (h : PGs X ts t) (i : ∀ v σ H Q, t' v σ H Q → t v σ H Q) : PGs X ts t' := ⟨fun pins s σ H v u Q I r q => h.run pins s σ H v u Q I r (i v σ H Q q)⟩
theorem PG.ex {X : Cx} {e : Expr} {ι : Type} {t : ι → TG} (h : ∀ i, PG X e (t i)) : PG X e (fun v σ H Q => ∃ i, t i v σ H Q) := ⟨fun pins s σ H v u Q I r ⟨i, q⟩ => (h i).run pins s σ H v u Q I r q⟩
theorem PGs.ex {X : Cx} {e : List Expr} {ι : Type} {t : ι → TGs} (h : ∀ i, PGs X e (t i)) : PGs X e (fun v σ H Q => ∃ i, t i v σ H Q) := ⟨fun pins s σ H v u Q I r ⟨i, q⟩ => (h i).run pins s σ H v u Q I r q⟩
theorem cg_name (i : Nat) {y : Str} {pos : Pos} (hp : PG X (.Name y pos) (gName i)) : CG C X ρ (.Name y pos) some (fun d => ρ.set i (some (.val d))) [i] :=
  PG.imp hp fun v σ H Q ⟨G, J, d, a, e, sb, r, u, q⟩ => by
    cases u
    exact q _ (e.setV r) fun ws h => wipe_set (h i (by simp))
def un1 {α : Type} (u : D → Option α) : List D → Option α
  | [d] => u d
  | _ => none
def unC {α β : Type} (u : D → Option α) (us : List D → Option β) : List D → Option (α × β)
  | [] => none
  | d :: ds => match u d, us ds with
    | some a, some b => some (a, b)
    | _, _ => none
def unT {α : Type} (us : List D → Option α) : D → Option α
  | .tuple ds => us ds
  | _ => none
theorem cgs_one {α : Type} {t : Expr} {u : D → Option α} {o : α → En} {sl : List Nat} (h : CG C X ρ t u o sl) (hs : (assignEach [t] X.env).map (·.2) = assign t X.env :: (assignEach [] X.env).map (·.2) := by rfl) : CGs C X ρ [t] (un1 u) o sl where
  run := PGs.imp (pgs_cons h pgs_nil hs) fun vs σ H Q ⟨G, J, ds, a, e, sb, r, q, k⟩ => by
    cases r with
    | nil => cases q
    | cons r1 r2 =>
      cases r2 with
      | nil => exact ⟨_, _, rfl, G, J, _, a, e, sb, r1, q, fun σ' e' bt => ⟨rfl, k σ' e' bt⟩⟩
      | cons _ _ => cases q
  len := fun ds a q => by
    match ds, q with
    | [], q => cases q
    | [_], _ => rfl
    | _ :: _ :: _, q => cases q
theorem cgs_cons {α1 α2 : Type} {t : Expr} {ts : List Expr} {u : D → Option α1} {us : List D → Option α2} {o : α1 → En} {os : α1 → α2 → En} {sl sl' : List Nat} (h : CG C X ρ t u o sl) (hs : ∀ a, CGs C X (o a) ts us (os a) sl')
    (he : (assignEach (t :: ts) X.env).map (·.2) = assign t X.env :: (assignEach ts X.env).map (·.2) := by rfl) : CGs C X ρ (t :: ts) (unC u us) (fun p => os p.1 p.2) (sl ++ sl') where
  run := PGs.imp (pgs_cons h (PGs.ex fun a => (hs a).run) he) fun vs σ H Q ⟨G, J, ds, a, e, sb, r, q, k⟩ => by
    cases r with
    | nil => cases q
    | @cons v vs d ds r1 r2 =>
      unfold unC at q
      cases e1 : u d with
      | none => simp [e1] at q
      | some a1 =>
        cases e2 : us ds with
        | none => simp [e1, e2] at q
        | some a2 =>
          simp [e1, e2] at q
          subst q
          exact ⟨_, _, rfl, G, J, d, a1, e, sb, r1, e1, fun σ' e' bt => ⟨a1, G, J, ds, a2, e', sb, r2, e2, fun σ2 e2 bt2 => k σ2 e2 (bt.trans bt2)⟩⟩
  len := fun ds a q => by
    match ds, q with
    | [], q => cases q
    | d :: ds, q =>
      unfold unC at q
      cases e1 : u d with
      | none => simp [e1] at q
      | some a1 =>
        cases e2 : us ds with
        | none => simp [e1, e2] at q
        | some a2 =>
          have := CGs.len (hs a1) ds a2 e2
          rw [List.length_cons, List.length_cons, this]
theorem cg_tup {α : Type} {ts : List Expr} {k : Nat} {pos : Pos} {us : List D → Option α} {o : α → En} {sl : List Nat} (h : CGs C X ρ ts us o sl) (hc : X.calm = true := by rfl) (hn : (assignEach ts X.env).length = ts.length := by rfl) (hst : (assignEach ts X.env).findIdx? (·.1) = none := by rfl) : CG C X ρ (.Tuple ts k pos) (unT us) o sl :=
  PG.imp (pg_tup hc h.run hn hst) fun v σ H Q ⟨G, J, d, a, e, sb, r, q, kk⟩ => by
    cases r with
    | @tup b vs ds h1 h2 =>
      exact ⟨b, vs, rfl, sb.seq h1, by rw [h2.length]; exact h.len ds a q, G, J, ds, a, e, sb, h2, q, kk⟩
    | non => cases q
    | bl b => cases q
    | int i => cases q
    | str x => cases q
    | lst h1 h2 => cases q
    | dct h1 h2 => cases q
end
end Cl

set_option Elab.async false
set_option linter.all false
set_option maxRecDepth 100000
set_option maxHeartbeats 4000000
/-! the clean layer, part E: walks, loops, comprehensions -/
namespace Cl
open PySem PySem.Spec PyProof.Rows L2
open MO

/-- how a loop's turn ends -/
inductive Lp (δ τ : Type) where
  | nx (t : τ) | bk (t : τ) | rt (r : δ)
inductive Wh (δ τ : Type) where
  | go (t : τ) | out (t : τ) | rt (r : δ)
section
variable {m : Type → Type} [MO m] {β δ τ : Type}
def forL : List D → τ → (D → τ → m (Lp δ τ)) → m (Lp δ τ)
  | [], t, _ => pur (.nx t)
  | d :: ds, t, f => bnd (f d t) fun r => match r with
    | .nx t' => forL ds t' f
    | .bk t' => pur (.bk t')
    | .rt q => pur (.rt q)
def forP : List D → τ → (D → τ → m τ) → m τ
  | [], t, _ => pur t
  | d :: ds, t, f => bnd (f d t) fun t' => forP ds t' f
def whileL : Nat → τ → (τ → m (Wh δ τ)) → m (Lp δ τ)
  | 0, _, _ => lift .no
  | n + 1, t, f => bnd (f t) fun r => match r with
    | .go t' => whileL n t' f
    | .out t' => pur (.nx t')
    | .rt q => pur (.rt q)
def lpK (K : τ → m β) (kr : δ → m β) : Lp δ τ → m β
  | .nx t => K t
  | .bk t => K t
  | .rt r => kr r
def compL : List D → List D → (D → m (Option D)) → m (List D)
  | [], acc, _ => pur acc
  | d :: ds, acc, f => bnd (f d) fun o => match o with
    | some e => bnd (need (appF acc e)) fun acc' => compL ds acc' f
    | none => compL ds acc f
end

/-- what a walk yields: the items ds -/
def Walks (K : PySem.W.Frag) (J : It) (ds : List D) (G : Hp) : Prop := ∀ G2 H2, Sub G G2 → Sub G2 H2 → ∀ i : Nat, (i < ds.length → J.go i H2 ∧ ∀ x H3, J.yld i H2 x H3 → ∃ G3 d, ds[i]? = some d ∧ New G2 H2 G3 H3 ∧ Rp K G3 x d) ∧ (i = ds.length → J.stop i H2)

section
variable {γ : Type} {m : Type → Type} [PM γ m] {α β δ τ : Type}
variable {C : Cc γ} {X : Cx} {ρ : En} {rest : List Stmt} {out : α → En} {outL : τ → En} {rk : δ → R} {x : m β} {kn : α → m β} {kr : δ → m β} {kb kc : τ → m β}
def CI {β : Type} (C : Cc γ) (X : Cx) (ρ : En) (tg e : Expr) (x : m β) (k : List D → m β) : Prop :=
  ∀ Qf : β → γ → Prop, PI X tg e (fun σ H R => ∃ G J g, C.St X.K ρ σ H G J g ∧ PM.wp x g Qf C.EX ∧
    ∀ It ds H' G' J' g', Aft G J H G' J' H' → C.S.si g' G' J' H' → Walks X.K It ds G' → PM.wp (k ds) g' Qf C.EX → R It H')
/-- a list, a tuple -/
def items : D → Option (List D)
  | .list xs => some xs
  | .tuple xs => some xs
  | _ => none
theorem walks_list {K : PySem.W.Frag} {G : Hp} {a : Addr} {vs : List V} {ds : List D} (h : G a = some (.lst vs)) (r : RpL K G vs ds) : Walks K (Itl K a) ds G := fun G2 H2 s1 s2 i => by
  have hH : SqL K H2 a vs := SqL.of (s2 _ _ (s1 _ _ h))
  have r2 := r.sub s1
  refine ⟨fun hi => ?_, fun hi => ⟨vs, hH, by rw [r.length, hi]; exact Nat.le_refl _⟩⟩
  obtain ⟨v, e, _⟩ := r.get (i := i) (d := ds[i]) (List.getElem?_eq_getElem hi)
  refine ⟨⟨vs, v, hH, e⟩, fun x H3 y => ?_⟩
  obtain ⟨rfl, y⟩ := y
  obtain ⟨d, e1, e2⟩ := r2.get' (y vs hH)
  exact ⟨G2, d, e1, New.refl s2, e2⟩
theorem walks_tup {K : PySem.W.Frag} {G : Hp} {a : Addr} {vs : List V} {ds : List D} (h : SqT K G a vs) (r : RpL K G vs ds) : Walks K (Itt K a) ds G := fun G2 H2 s1 s2 i => by
  have hH : SqT K H2 a vs := s2.seq (s1.seq h)
  have r2 := r.sub s1
  refine ⟨fun hi => ?_, fun hi => ⟨vs, hH, by rw [r.length, hi]; exact Nat.le_refl _⟩⟩
  obtain ⟨v, e, _⟩ := r.get (i := i) (d := ds[i]) (List.getElem?_eq_getElem hi)
  refine ⟨⟨vs, v, hH, e⟩, fun x H3 y => ?_⟩
  obtain ⟨rfl, y⟩ := y
  obtain ⟨d, e1, e2⟩ := r2.get' (y vs hH)
  exact ⟨G2, d, e1, New.refl s2, e2⟩
def rangeD (lo : Int) (n : Nat) : List D := (List.range n).map fun i => .int (lo + (i : Nat))
theorem walks_range {K : PySem.W.Frag} {G : Hp} {lo : Int} {n : Nat} : Walks K (Itr lo n) (rangeD lo n) G := fun G2 H2 s1 s2 i => by
  have hl : (rangeD lo n).length = n := by simp [rangeD]
  refine ⟨fun hi => ⟨by rw [hl] at hi; exact hi, fun x H3 y => ?_⟩, fun hi => by rw [hl] at hi; rw [hi]; exact Nat.le_refl _⟩
  rw [hl] at hi
  obtain ⟨rfl, rfl⟩ := y
  exact ⟨G2, .int (lo + i), by simp [rangeD, hi], New.refl s2, .int _⟩
/-- the walk of a list or a tuple, by its reading -/
def iSeq (K : PySem.W.Frag) (tl : TE) : TI := fun σ H R => tl σ H fun x H1 => ∃ a xs, x = .ref a ∧ ((SqL K H1 a xs ∧ R (Itl K a) H1) ∨ (SqT K H1 a xs ∧ R (Itt K a) H1))
theorem pi_seq {tg l : Expr} {tl : TE} (hl : PE X l tl) : PI X tg l (iSeq X.K tl) := by
  refine ⟨fun pins s σ H R I h => ?_⟩
  refine thn (hl.run pins s σ H _ I h) fun v s1 ⟨x, H1, I1, r1, q1⟩ => ?_
  obtain ⟨a, xs, e, q⟩ := q1
  subst e
  cases r1
  rcases q with ⟨hq, q⟩ | ⟨hq, q⟩
  · obtain ⟨its, rv, p, hz⟩ := I1.list hq
    refine wpAny_pyIter_list p.isList ?_
    refine ⟨s1.heap.objs.size, [s1.heap.objs.size], _, _, H1, rfl, I1.kept (t' := s1.toks) fun b o e => Heap.get?_push_of_some _ e, turn_list a _, ⟨_, Heap.get?_push_size _ rfl, rfl, rfl⟩, fun b hb => ?_, q⟩
    have e : b = s1.heap.objs.size := by simpa using hb
    subst e
    exact I1.fpOk (Nat.le_refl _) (I1.hok.fresh (Nat.le_refl _))
  · obtain ⟨its, rv, p, hz⟩ := I1.tuple hq
    refine wpAny_pyIter_tuple (show s1.heap.IsTuple a its.toArray from p) ?_
    refine ⟨s1.heap.objs.size, [s1.heap.objs.size], _, _, H1, rfl, I1.kept (t' := s1.toks) fun b o e => Heap.get?_push_of_some _ e, turn_tuple a _, ⟨_, Heap.get?_push_size _ rfl, rfl, rfl⟩, fun b hb => ?_, q⟩
    have e : b = s1.heap.objs.size := by simpa using hb
    subst e
    exact I1.fpOk (Nat.le_refl _) (I1.hok.fresh (Nat.le_refl _))
theorem ci_seq {tg e : Expr} {k : List D → m β} (he : CE C X ρ e dv x (fun d => bnd (need (items d)) k)) : CI C X ρ tg e x k := fun Qf =>
  PI.imp (pi_seq (he Qf)) fun σ H R ⟨G, J, g, st, w, h⟩ => ⟨G, J, g, st, w, fun v d H' G' J' g' af si rr w' => by
    obtain ⟨ds, e1, w2⟩ := of_need w'
    cases rr with
    | lst h1 h2 =>
      cases e1
      exact ⟨_, _, rfl, .inl ⟨SqL.of (af.vis.sub _ _ h1), h _ _ H' G' J' g' af si (walks_list h1 h2) w2⟩⟩
    | tup h1 h2 =>
      cases e1
      exact ⟨_, _, rfl, .inr ⟨af.vis.sub.seq h1, h _ _ H' G' J' g' af si (walks_tup h1 h2) w2⟩⟩
    | non => cases e1
    | bl b => cases e1
    | int i => cases e1
    | str x => cases e1
    | dct h1 h2 => cases e1⟩
def rng1 : List D → Option (List D)
  | [.int j] => if -(2 ^ 62) ≤ j ∧ j < 2 ^ 62 then some (rangeD 0 j.toNat) else none
  | _ => none
def rng2 : List D → Option (List D)
  | [.int i, .int j] => if -(2 ^ 62) ≤ i ∧ i < 2 ^ 62 ∧ -(2 ^ 62) ≤ j ∧ j < 2 ^ 62 then some (rangeD i (j - i).toNat) else none
  | _ => none
theorem ci_range1 {tg a : Expr} {p pos : Pos} {k : List D → m β} (hm : X.mg "range" = none) (ha : CD C X ρ [a] x (fun ds => bnd (need (rng1 ds)) k)) (hg : Gl X "range" := by rfl) (hs : starEach [a] X.env = [(false, eval a X.env)] := by rfl) :
    CI C X ρ tg (.Call (.Name "range" p) [a] [] pos) x k := fun Qf =>
  PI.imp (pi_range1 hg hm (ha Qf) hs) fun σ H R ⟨G, J, g, st, w, h⟩ => ⟨G, J, g, st, w, fun vs ds H' G' J' g' af si rl hl w' => by
    obtain ⟨xs, e1, w2⟩ := of_need w'
    unfold rng1 at e1
    split at e1
    · rename_i j
      split at e1
      · rename_i hj
        cases e1
        cases rl with
        | cons r1 r2 =>
          cases r1
          cases r2
          exact ⟨j, rfl, hj.1, hj.2, h _ _ H' G' J' g' af si walks_range w2⟩
      · cases e1
    · cases e1⟩
theorem ci_range2 {tg a b : Expr} {p pos : Pos} {k : List D → m β} (hm : X.mg "range" = none) (ha : CD C X ρ [a, b] x (fun ds => bnd (need (rng2 ds)) k)) (hg : Gl X "range" := by rfl)
    (hs : starEach [a, b] X.env = [(false, eval a X.env), (false, eval b X.env)] := by rfl) (hs2 : starEach [b] X.env = [(false, eval b X.env)] := by rfl) :
    CI C X ρ tg (.Call (.Name "range" p) [a, b] [] pos) x k := fun Qf =>
  PI.imp (pi_range2 hg hm (ha Qf) hs hs2) fun σ H R ⟨G, J, g, st, w, h⟩ => ⟨G, J, g, st, w, fun vs ds H' G' J' g' af si rl hl w' => by
    obtain ⟨xs, e1, w2⟩ := of_need w'
    unfold rng2 at e1
    split at e1
    · rename_i i j
      split at e1
      · rename_i hj
        cases e1
        cases rl with
        | cons r1 r2 =>
          cases r1
          cases r2 with
          | cons r3 r4 =>
            cases r3
            cases r4
            exact ⟨i, j, rfl, ⟨hj.1, hj.2.1, hj.2.2.1, hj.2.2.2⟩, h _ _ H' G' J' g' af si walks_range w2⟩
      · cases e1
    · cases e1⟩

/-! ### for -/
theorem cs_for {α1 : Type} {tg it : Expr} {B : List Stmt} {pos : Pos} {outl : τ → En} {un : D → Option α1} {outT : τ → α1 → En} {sl : List Nat} {body : α1 → τ → m (Lp δ τ)} {K : τ → m β} {τ2 : Type} {outL2 : τ2 → En} {kb2 kc2 : τ2 → m β} (t0 : τ)
    (hR : ∀ t, CS C X (outl t) rest out outL2 rk (K t) kn kr kb2 kc2)
    (hB : ∀ a t, CS C X (outT t a) B outl outl rk (body a t) (fun t => pur (.nx t)) (fun r => pur (.rt r)) (fun t => pur (.bk t)) (fun t => pur (.nx t)))
    (hg : ∀ t, CG C X (outl t) tg un (outT t) sl)
    (hI : CI C X ρ tg it x (fun ds => bnd (forL ds t0 (fun d t => bnd (need (un d)) fun a => body a t)) (lpK K kr)))
    (le : LeE (outl t0) ρ) (hp : PassesOwn (model X.prog X.w) X.A X.env X.xe := by exact PassesOwn.never) (hc : X.calm = true := by rfl) (hs : ∀ x, foldedSetIterable it X.env x = pure x := by intro _; rfl) :
    CS C X ρ (.For tg it B [] pos :: rest) out outL2 rk x kn kr kb2 kc2 := fun Qf =>
  PSs.imp (pss_cons (ps_for hp hc (hI Qf) (PG.ex hg) (PSs.ex fun a => PSs.ex fun t => PSs.ex fun q => hB a t q) hs) (PSs.ex fun t => hR t Qf)) fun E σ H ⟨G, J, g, st, w, fi⟩ => ⟨G, J, g, st, w, fun It ds H1 G1 J1 g1 af1 si1 wk w1 => by
    refine ⟨fun i n σ H => n = ds.length - i ∧ i ≤ ds.length ∧ ∃ G J g t, Sub G1 G ∧ C.St X.K (outl t) σ H G J g ∧ PM.wp (forL (ds.drop i) t (fun d t => bnd (need (un d)) fun a => body a t)) g (fun r g' => PM.wp (lpK K kr r) g' Qf C.EX) C.EX,
      ⟨ds.length, rfl, Nat.zero_le _, G1, J1, g1, t0, Sub.refl _, (st.go af1 si1).le le, PM.of_bnd w1⟩, ?_⟩
    rintro i n σ2 H2 ⟨rfl, hi, G2, J2, g2, t, s2, st2, w2⟩
    by_cases hlt : i < ds.length
    · obtain ⟨hgo, hy⟩ := (wk G2 H2 s2 st2.vis.sub i).1 hlt
      rw [List.drop_eq_getElem_cons hlt] at w2
      unfold forL at w2
      obtain ⟨a, ea, w3⟩ := of_need (PM.of_bnd w2)
      refine .inr ⟨hgo, _, fun σ' H' z => z, fun y H3 hyl => ?_⟩
      obtain ⟨G3, d, ed, nw, rp⟩ := hy y H3 hyl
      rw [List.getElem?_eq_getElem hlt] at ed
      cases ed
      have af3 := nw.aft st2.vis
      have si3 := SIx.nw st2.si nw
      refine ⟨t, G3, J2, ds[i], a, st2.env.aft af3, nw.sub, rp, ea, fun σ' e' _ => ?_⟩
      refine ⟨a, t, _, G3, J2, g2, ⟨e', st2.aft.trans af3, si3⟩, w3, ⟨fun t' σ4 H4 G4 J4 g4 s4 st4 w4 => ?_, fun r v H4 G4 J4 g4 af4 si4 r4 w4 => ?_, fun t' σ4 H4 G4 J4 g4 s4 st4 w4 => ?_, fun t' σ4 H4 G4 J4 g4 s4 st4 w4 => ?_⟩⟩
      · exact ⟨ds.length - (i + 1), by omega, rfl, hlt, G4, J4, g4, t', s2.trans (nw.gg.trans s4), st4, (by have z := PM.of_pur w4; exact z)⟩
      · exact fi.rt r v H4 G4 J4 g4 af4 si4 r4 (by have z := PM.of_pur w4; have z2 := PM.of_pur z; exact z2)
      · exact ⟨t', G4, J4, g4, st4, (by have z := PM.of_pur w4; have z2 := PM.of_pur z; exact z2), fi.sub (af1.gg.trans (s2.trans (nw.gg.trans s4)))⟩
      · exact ⟨ds.length - (i + 1), by omega, rfl, hlt, G4, J4, g4, t', s2.trans (nw.gg.trans s4), st4, (by have z := PM.of_pur w4; exact z)⟩
    · have e : i = ds.length := by omega
      subst e
      rw [List.drop_length] at w2
      unfold forL at w2
      exact .inl ⟨(wk G2 H2 s2 st2.vis.sub ds.length).2 rfl, t, G2, J2, g2, st2, (by have z := PM.of_pur w2; exact z), fi.sub (af1.gg.trans s2)⟩⟩
/-- a loop that neither breaks nor returns -/
theorem cs_forP {α1 : Type} {tg it : Expr} {B : List Stmt} {pos : Pos} {outl : τ → En} {un : D → Option α1} {outT : τ → α1 → En} {sl : List Nat} {body : α1 → τ → m τ} {K : τ → m β} {τ2 : Type} {outL2 : τ2 → En} {kb2 kc2 : τ2 → m β} (t0 : τ)
    (hR : ∀ t, CS C X (outl t) rest out outL2 rk (K t) kn kr kb2 kc2)
    (hB : ∀ a t, CS C X (outT t a) B outl outl rk (body a t) (fun t => pur t) (fun r => lift .no) (fun t => lift .no) (fun t => pur t))
    (hg : ∀ t, CG C X (outl t) tg un (outT t) sl)
    (hI : CI C X ρ tg it x (fun ds => bnd (forP ds t0 (fun d t => bnd (need (un d)) fun a => body a t)) K))
    (le : LeE (outl t0) ρ) (hp : PassesOwn (model X.prog X.w) X.A X.env X.xe := by exact PassesOwn.never) (hc : X.calm = true := by rfl) (hs : ∀ x, foldedSetIterable it X.env x = pure x := by intro _; rfl) :
    CS C X ρ (.For tg it B [] pos :: rest) out outL2 rk x kn kr kb2 kc2 := fun Qf =>
  PSs.imp (pss_cons (ps_for hp hc (hI Qf) (PG.ex hg) (PSs.ex fun a => PSs.ex fun t => PSs.ex fun q => hB a t q) hs) (PSs.ex fun t => hR t Qf)) fun E σ H ⟨G, J, g, st, w, fi⟩ => ⟨G, J, g, st, w, fun It ds H1 G1 J1 g1 af1 si1 wk w1 => by
    refine ⟨fun i n σ H => n = ds.length - i ∧ i ≤ ds.length ∧ ∃ G J g t, Sub G1 G ∧ C.St X.K (outl t) σ H G J g ∧ PM.wp (forP (ds.drop i) t (fun d t => bnd (need (un d)) fun a => body a t)) g (fun r g' => PM.wp (K r) g' Qf C.EX) C.EX,
      ⟨ds.length, rfl, Nat.zero_le _, G1, J1, g1, t0, Sub.refl _, (st.go af1 si1).le le, PM.of_bnd w1⟩, ?_⟩
    rintro i n σ2 H2 ⟨rfl, hi, G2, J2, g2, t, s2, st2, w2⟩
    by_cases hlt : i < ds.length
    · obtain ⟨hgo, hy⟩ := (wk G2 H2 s2 st2.vis.sub i).1 hlt
      rw [List.drop_eq_getElem_cons hlt] at w2
      unfold forP at w2
      obtain ⟨a, ea, w3⟩ := of_need (PM.of_bnd w2)
      refine .inr ⟨hgo, _, fun σ' H' z => z, fun y H3 hyl => ?_⟩
      obtain ⟨G3, d, ed, nw, rp⟩ := hy y H3 hyl
      rw [List.getElem?_eq_getElem hlt] at ed
      cases ed
      have af3 := nw.aft st2.vis
      have si3 := SIx.nw st2.si nw
      refine ⟨t, G3, J2, ds[i], a, st2.env.aft af3, nw.sub, rp, ea, fun σ' e' _ => ?_⟩
      refine ⟨a, t, _, G3, J2, g2, ⟨e', st2.aft.trans af3, si3⟩, w3, ⟨fun t' σ4 H4 G4 J4 g4 s4 st4 w4 => ?_, fun r v H4 G4 J4 g4 af4 si4 r4 w4 => ?_, fun t' σ4 H4 G4 J4 g4 s4 st4 w4 => ?_, fun t' σ4 H4 G4 J4 g4 s4 st4 w4 => ?_⟩⟩
      · exact ⟨ds.length - (i + 1), by omega, rfl, hlt, G4, J4, g4, t', s2.trans (nw.gg.trans s4), st4, (by have z := PM.of_pur w4; exact z)⟩
      · exact (PM.of_lift w4).elim
      · exact (PM.of_lift w4).elim
      · exact ⟨ds.length - (i + 1), by omega, rfl, hlt, G4, J4, g4, t', s2.trans (nw.gg.trans s4), st4, (by have z := PM.of_pur w4; exact z)⟩
    · have e : i = ds.length := by omega
      subst e
      rw [List.drop_length] at w2
      unfold forP at w2
      exact .inl ⟨(wk G2 H2 s2 st2.vis.sub ds.length).2 rfl, t, G2, J2, g2, st2, (by have z := PM.of_pur w2; exact z), fi.sub (af1.gg.trans s2)⟩⟩

/-! ### while -/
theorem cs_while {ts : Expr} {B : List Stmt} {pos : Pos} {outl : τ → En} {step body : τ → m (Wh δ τ)} {K : τ → m β} {τ2 : Type} {outL2 : τ2 → En} {kb2 kc2 : τ2 → m β} (n : Nat) (t0 : τ)
    (hR : ∀ t, CS C X (outl t) rest out outL2 rk (K t) kn kr kb2 kc2)
    (hB : ∀ t, CS C X (outl t) B outl outl rk (body t) (fun t => pur (.go t)) (fun r => pur (.rt r)) (fun t => pur (.out t)) (fun t => pur (.go t)))
    (hT : ∀ t, CT C X (outl t) ts (step t) (fun b => if b = true then body t else pur (.out t)))
    (le : LeE (outl t0) ρ) (hp : PassesOwn (model X.prog X.w) X.A X.env X.xe := by exact PassesOwn.never) :
    CS C X ρ (.While ts B [] pos :: rest) out outL2 rk (bnd (whileL n t0 step) (lpK K kr)) kn kr kb2 kc2 := fun Qf =>
  PSs.imp (pss_cons (ps_while hp (PT.ex fun t => PT.ex fun q => hT t q) (PSs.ex fun t => PSs.ex fun q => hB t q)) (PSs.ex fun t => hR t Qf)) fun E σ H ⟨G, J, g, st, w, fi⟩ => by
    refine ⟨fun n σ H => ∃ G1 J g t, Sub G G1 ∧ C.St X.K (outl t) σ H G1 J g ∧ PM.wp (whileL n t step) g (fun r g' => PM.wp (lpK K kr r) g' Qf C.EX) C.EX, ⟨n, G, J, g, t0, Sub.refl _, st.le le, PM.of_bnd w⟩, ?_⟩
    rintro n σ1 H1 ⟨G1, J1, g1, t, s1, st1, w1⟩
    cases n with
    | zero =>
      unfold whileL at w1
      exact (PM.of_lift w1).elim
    | succ n =>
      unfold whileL at w1
      refine ⟨t, _, G1, J1, g1, st1, PM.of_bnd w1, fun b H2 G2 J2 g2 af2 si2 w2 => ?_⟩
      cases b with
      | true =>
        rw [if_pos rfl]
        dsimp only at w2; rw [if_pos rfl] at w2
        refine ⟨_, fun σ' H' z => z, t, _, G2, J2, g2, st1.go af2 si2, w2, ⟨fun t' σ4 H4 G4 J4 g4 s4 st4 w4 => ?_, fun r v H4 G4 J4 g4 af4 si4 r4 w4 => ?_, fun t' σ4 H4 G4 J4 g4 s4 st4 w4 => ?_, fun t' σ4 H4 G4 J4 g4 s4 st4 w4 => ?_⟩⟩
        · exact ⟨n, by omega, G4, J4, g4, t', s1.trans (af2.gg.trans s4), st4, (by have z := PM.of_pur w4; exact z)⟩
        · exact fi.rt r v H4 G4 J4 g4 af4 si4 r4 (by have z := PM.of_pur w4; have z2 := PM.of_pur z; exact z2)
        · exact ⟨t', G4, J4, g4, st4, (by have z := PM.of_pur w4; have z2 := PM.of_pur z; exact z2), fi.sub (s1.trans (af2.gg.trans s4))⟩
        · exact ⟨n, by omega, G4, J4, g4, t', s1.trans (af2.gg.trans s4), st4, (by have z := PM.of_pur w4; exact z)⟩
      | false =>
        rw [if_neg Bool.false_ne_true]
        dsimp only at w2; rw [if_neg Bool.false_ne_true] at w2
        exact ⟨t, G2, J2, g2, st1.go af2 si2, (by have z := PM.of_pur w2; have z2 := PM.of_pur z; exact z2), fi.sub (s1.trans af2.gg)⟩
end
end Cl

set_option Elab.async false
set_option linter.all false
set_option maxRecDepth 100000
set_option maxHeartbeats 4000000
/-! the clean layer, part F: comprehensions -/
namespace Cl
open PySem PySem.Spec PyProof.Rows L2
open MO

def wipeE (ρ : En) : List Nat → En
  | [] => ρ
  | v :: vs => (wipeE ρ vs).set v none
theorem EnvR.unset {K : PySem.W.Frag} {H0 G H : Hp} {ρ : En} {σ : L2.St} {J : Addr → Prop} {i : Nat} (e : EnvR K H0 ρ σ H G J) : EnvR K H0 (ρ.set i none) (σ.set i none) H G J := by
  have f : ∀ {j : Nat} {x : Ent}, (ρ.set i none)[j]? = some (some x) → i ≠ j ∧ ρ[j]? = some (some x) := fun {j x} h => by
    by_cases q : i = j
    · subst q
      rw [List.getElem?_set, if_pos rfl] at h
      split at h <;> cases h
    · rw [List.getElem?_set_ne q] at h
      exact ⟨q, h⟩
  refine ⟨fun j d h => ?_, fun j d h => ?_, fun j d h => ?_, fun j k c c' p hjk h1 h2 => ?_, by rw [List.length_set, List.length_set, e.len], fun j h => e.nb j (f h).2⟩
  · obtain ⟨q, h⟩ := f h
    rw [List.getElem?_set_ne q]; exact e.val j d h
  · obtain ⟨q, h⟩ := f h
    rw [List.getElem?_set_ne q]; exact e.obj j d h
  · obtain ⟨q, h⟩ := f h
    rw [List.getElem?_set_ne q]; exact e.own j d h
  · obtain ⟨q1, h1⟩ := f h1
    obtain ⟨q2, h2⟩ := f h2
    rw [List.getElem?_set_ne q1, List.getElem?_set_ne q2]
    exact e.sep j k c c' p hjk h1 h2
theorem EnvR.wipe {K : PySem.W.Frag} {H0 G H : Hp} {ρ : En} {σ : L2.St} {J : Addr → Prop} (e : EnvR K H0 ρ σ H G J) : ∀ vs : List Nat, EnvR K H0 (wipeE ρ vs) (L2.wipe σ vs) H G J
  | [] => e
  | v :: vs => (EnvR.wipe e vs).unset
theorem wipe_sub (σ : L2.St) (vs : List Nat) : ∀ ws : List Nat, (∀ i ∈ ws, i ∈ vs) → wipe (wipe σ ws) vs = wipe σ vs
  | [], _ => rfl
  | w :: ws, h => by
    show wipe ((wipe σ ws).set w none) vs = wipe σ vs
    rw [wipe_set (h w List.mem_cons_self)]
    exact wipe_sub σ vs ws fun i hi => h i (List.mem_cons_of_mem _ hi)
theorem wipe_wipe (σ : L2.St) (vs : List Nat) : wipe (wipe σ vs) vs = wipe σ vs := wipe_sub σ vs vs fun _ h => h

section
variable {γ : Type}
abbrev Cc.nx (C : Cc γ) : Cc γ := { C with EX := fun _ _ => False }
theorem Aft.own {G H G' H' : Hp} {J J' : Addr → Prop} {p : Addr} {o : HO} (a : Aft G J H G' J' H') (h : H p = none) (hg : G' p = none) (hj : ¬ J' p) : Aft G J H G' J' (upd H' p o) where
  gg := a.gg
  hh := fun c u hc e => by rw [upd_ne (fun z => by rw [z, h] at e; cases e)]; exact a.hh c u hc e
  dm := fun c e => by
    by_cases z : c = p
    · subst z; rw [upd_same]; exact Option.some_ne_none _
    · rw [upd_ne z]; exact a.dm c e
  gn := a.gn
  jn := a.jn
  vis := ⟨fun c u e => by rw [upd_ne (fun z => by rw [z, hg] at e; cases e)]; exact a.vis.sub c u e, a.vis.dis, fun c j => by rw [upd_ne (fun z => hj (by rw [← z]; exact j))]; exact a.vis.dom c j⟩
theorem SIx.own {S : SIx γ} {g : γ} {G H : Hp} {J : Addr → Prop} {p : Addr} {o : HO} (s : S.si g G J H) (hj : ¬ J p) : S.si g G J (upd H p o) :=
  S.new s (Sub.refl _) fun a u j e => by rw [upd_ne (fun z => hj (by rw [← z]; exact j))]; exact e
theorem Aft.keepD {G H G' H' : Hp} {J J' : Addr → Prop} {p : Addr} {o : HO} (a : Aft G J H G' J' H') (hp : H p = some o) (hg : G p = none) (hj : ¬ J p) : H' p = some o ∧ G' p = none ∧ ¬ J' p := by
  refine ⟨a.hh p o hj hp, ?_, fun j => ?_⟩
  · cases q : G' p with
    | none => rfl
    | some u =>
      rcases a.gn p (by rw [q]; exact Option.some_ne_none u) with z | z
      · exact absurd hg z
      · rw [hp] at z; cases z
  · rcases a.jn p j with z | z
    · exact hj z
    · rw [hp] at z; cases z
end

section
variable {γ : Type} {m : Type → Type} [PM γ m] {α β : Type} {C : Cc γ} {X : Cx} {ρ : En}
/-- a clause's tests -/
def CTs {β : Type} (C : Cc γ) (X : Cx) (ρ : En) (es : List Expr) (x : m β) (k : Bool → m β) : Prop :=
  ∀ Qf : β → γ → Prop, PTs X es (fun σ H Q => ∃ G J g, C.St X.K ρ σ H G J g ∧ PM.wp x g Qf C.EX ∧
    ∀ b H' G' J' g', Aft G J H G' J' H' → C.S.si g' G' J' H' → PM.wp (k b) g' Qf C.EX → Q b H')
theorem PTs.imp {X : Cx} {e : List Expr} {t t' : TT} (h : PTs X e t) (i : ∀ σ H Q, t' σ H Q → t σ H Q) : PTs X e t' := ⟨fun pins s σ H Q I q => h.run pins s σ H Q I (i σ H Q q)⟩
theorem PTs.ex {X : Cx} {e : List Expr} {ι : Type} {t : ι → TT} (h : ∀ i, PTs X e (t i)) : PTs X e (fun σ H Q => ∃ i, t i σ H Q) := ⟨fun pins s σ H Q I ⟨i, q⟩ => (h i).run pins s σ H Q I q⟩
theorem cts_nil {k : Bool → m β} : CTs C X ρ [] (k true) k := fun Qf => PTs.imp pts_nil fun σ H Q ⟨G, J, g, st, w, h⟩ => h true H G J g (Aft.refl st.vis) st.si w
theorem cts_one {e : Expr} {x : m β} {k : Bool → m β} (h : CT C X ρ e x k) : CTs C X ρ [e] x k := fun Qf => PTs.imp (pts_one (h Qf)) fun _ _ _ h => h

def rdG {α1 : Type} (C : Cc γ) (K : PySem.W.Frag) (ρ : En) (un : D → Option α1) (outT : α1 → En) (sl : List Nat) : TG :=
  fun v σ H Q => ∃ G J d a, EnvR K C.H0 ρ σ H G J ∧ Sub G H ∧ Rp K G v d ∧ un d = some a ∧ ∀ σ', EnvR K C.H0 (outT a) σ' H G J → But sl σ σ' → Q σ' H
def rdT {α1 : Type} (C : Cc γ) (K : PySem.W.Frag) (outT : α1 → En) (xt ye : α1 → m (Option D)) : TT :=
  fun σ H Q => ∃ (a : α1) (q : Option D → γ → Prop), ∃ G J g, C.nx.St K (outT a) σ H G J g ∧ PM.wp (xt a) g q C.nx.EX ∧ ∀ b H' G' J' g', Aft G J H G' J' H' → C.nx.S.si g' G' J' H' → PM.wp (if b = true then ye a else (pur none : m (Option D))) g' q C.nx.EX → Q b H'
def rdE {α1 : Type} (C : Cc γ) (K : PySem.W.Frag) (outT : α1 → En) (ye : α1 → m (Option D)) : TE :=
  fun σ H Q => ∃ (a : α1) (q : Option D → γ → Prop), ∃ G J g, C.nx.St K (outT a) σ H G J g ∧ PM.wp (ye a) g q C.nx.EX ∧ ∀ v d H' G' J' g', Aft G J H G' J' H' → C.nx.S.si g' G' J' H' → RR K G' J' H' H v (dv d) → PM.wp (pur (some d) : m (Option D)) g' q C.nx.EX → Q v H'
/-- the reading of a comprehension -/
theorem lc_imp {α1 : Type} {wi : TI} {vs : List Nat} {un : D → Option α1} {outT : α1 → En} {sl : List Nat} {xt ye : α1 → m (Option D)} {x : m β} {k : List D → m β} {Qf : β → γ → Prop} {K : PySem.W.Frag}
    (hsl : ∀ i ∈ sl, i ∈ vs) {σ : L2.St} {H : Hp} {Q : VK}
    (hwi : ∀ R : It → Hp → Prop, (∃ G J g, C.St K ρ σ H G J g ∧ PM.wp x g Qf C.EX ∧ ∀ It ds H' G' J' g', Aft G J H G' J' H' → C.S.si g' G' J' H' → Walks K It ds G' → PM.wp (bnd (nox (compL ds [] (fun d => bnd (need (un d)) xt))) k) g' Qf C.EX → R It H') → wi σ H R)
    (h : ∃ G J g, C.St K ρ σ H G J g ∧ PM.wp x g Qf C.EX ∧ ∀ v a H' G' J' g', Aft G J H G' J' H' → C.S.si g' G' J' H' → RR K G' J' H' H v (lv a) → PM.wp (k a) g' Qf C.EX → Q v H') :
    tLc wi (rdG C K (wipeE ρ vs) un outT sl) (rdT C K outT xt ye) (rdE C K outT ye) vs σ H Q := by
  obtain ⟨G, J, g, st, w, hQ⟩ := h
  refine hwi _ ⟨G, J, g, st, w, fun It ds H1 G1 J1 g1 af1 si1 wk w1 D hD => ?_⟩
  have w1' := PM.of_nox (PM.of_bnd w1)
  have g1D : G1 D = none := none_of_sub af1.vis.sub hD
  have j1D : ¬ J1 D := fun j => af1.vis.dom D j hD
  refine ⟨fun i n H => n = ds.length - i ∧ i ≤ ds.length ∧ ∃ G2 J2 g2 acc us, Aft G1 J1 H1 G2 J2 H ∧ C.S.si g2 G2 J2 H ∧ H D = some (.lst us) ∧ RpL K G2 us acc ∧ G2 D = none ∧ ¬ J2 D ∧
      PM.wp (compL (ds.drop i) acc (fun d => bnd (need (un d)) xt)) g2 (fun xs g' => PM.wp (k xs) g' Qf C.EX) (fun _ _ => False),
    ⟨ds.length, rfl, Nat.zero_le _, G1, J1, g1, [], [], (Aft.refl af1.vis).own hD g1D j1D, SIx.own si1 j1D, upd_same, .nil, g1D, j1D, w1'⟩, ?_⟩
  rintro i n H2 ⟨rfl, hi, G2, J2, g2, acc, us, af2, si2, hD2, rl2, g2D, j2D, w2⟩
  by_cases hlt : i < ds.length
  · obtain ⟨hgo, hy⟩ := (wk G2 H2 af2.gg af2.vis.sub i).1 hlt
    rw [List.drop_eq_getElem_cons hlt] at w2
    unfold compL at w2
    obtain ⟨a, ea, w3⟩ := of_need (PM.of_bnd w2)
    refine .inr ⟨hgo, _, fun H' z => z, fun y H3 hyl => ?_⟩
    obtain ⟨G3, d, ed, nw, rp⟩ := hy y H3 hyl
    rw [List.getElem?_eq_getElem hlt] at ed
    cases ed
    have af3 := nw.aft af2.vis
    have si3 := SIx.nw si2 nw
    obtain ⟨hD3, g3D, j3D⟩ := af3.keepD hD2 g2D j2D
    have rl3 := rl2.sub nw.gg
    have st3 : C.St K ρ σ H3 G3 J2 g2 := st.go (af1.trans (af2.trans af3)) si3
    refine ⟨G3, J2, ds[i], a, st3.env.wipe vs, nw.sub, rp, ea, fun σ' e' bt => ⟨by rw [bt vs hsl, wipe_wipe], ?_⟩⟩
    refine ⟨a, _, G3, J2, g2, ⟨e', st3.aft, si3⟩, w3, fun b H4 G4 J4 g4 af4 si4 w4 => ?_⟩
    obtain ⟨hD4, g4D, j4D⟩ := af4.keepD hD3 g3D j3D
    cases b with
    | true =>
      rw [if_pos rfl]
      rw [if_pos rfl] at w4
      refine ⟨a, _, G4, J4, g4, ⟨e'.aft af4, st3.aft.trans af4, si4⟩, w4, fun v d H5 G5 J5 g5 af5 si5 rr w5 => ?_⟩
      obtain ⟨hD5, g5D, j5D⟩ := af5.keepD hD4 g4D j4D
      have w6 := PM.of_pur w5
      dsimp only at w6
      obtain ⟨acc', e6, w7⟩ := of_need w6
      unfold appF at e6
      split at e6
      · rename_i hacc
        cases e6
        have rl5 := (rl3.sub af4.gg).sub af5.gg
        refine ⟨us, hD5, by rw [rl5.length]; exact hacc, ds.length - (i + 1), by omega, rfl, hlt, G5, J5, g5, acc ++ [d], us ++ [v], (af2.trans (af3.trans (af4.trans af5))).own hD g5D j5D, SIx.own si5 j5D, upd_same, rl5.append (.one rr), g5D, j5D, w7⟩
      · cases e6
    | false =>
      rw [if_neg Bool.false_ne_true]
      rw [if_neg Bool.false_ne_true] at w4
      have w6 := PM.of_pur w4
      dsimp only at w6
      exact ⟨ds.length - (i + 1), by omega, rfl, hlt, G4, J4, g4, acc, us, af2.trans (af3.trans af4), si4, hD4, rl3.sub af4.gg, g4D, j4D, w6⟩
  · have e : i = ds.length := by omega
    subst e
    rw [List.drop_length] at w2
    unfold compL at w2
    have w3 := PM.of_pur w2
    exact .inl ⟨(wk G2 H2 af2.gg af2.vis.sub ds.length).2 rfl, hQ _ acc H2 G2 J2 g2 (af1.trans af2) si2 ⟨D, rfl, af1.back D hD, g2D, j2D, us, hD2, rl2⟩ w3⟩
theorem ce_comp {α1 : Type} {elt tg iter : Expr} {ifs : List Expr} {scope : Scope} {own : List (Str × Nat)} {pos : Pos} {un : D → Option α1} {outT : α1 → En} {sl : List Nat} {xt ye : α1 → m (Option D)} {x : m β} {k : List D → m β}
    (he : ∀ (s : Shared) (H : Hp) (Ca : Addr) (cl : List (Str × Addr)) (fp : List Addr) (a : α1), CE C.nx (X.blk s H scope (compEnvC scope cl Ca X.env) fp) (outT a) elt dv (ye a) (fun d => pur (some d)))
    (ht : ∀ (s : Shared) (H : Hp) (Ca : Addr) (cl : List (Str × Addr)) (fp : List Addr) (a : α1), CTs C.nx (X.blk s H scope (compEnvC scope cl Ca X.env) fp) (outT a) ifs (xt a) (fun b => if b = true then ye a else pur none))
    (hg : ∀ (s : Shared) (H : Hp) (Ca : Addr) (cl : List (Str × Addr)) (fp : List Addr), CG C (X.blk s H scope (compEnvC scope cl Ca X.env) fp) (wipeE ρ (own.map fun p : Str × Nat => p.2)) tg un outT sl)
    (hI : CI C X ρ tg iter x (fun ds => bnd (nox (compL ds [] (fun d => bnd (need (un d)) xt))) k)) (hN : X.N.Nodup) (ok : BlkOk X.N X.env.scope scope own) (hsl : ∀ i ∈ sl, i ∈ own.map fun p : Str × Nat => p.2 := by decide) (hc : X.calm = true := by rfl) (hs : ∀ x, foldedSetIterable iter X.env x = pure x := by intro _; rfl) :
    CE C X ρ (.ListComp elt [⟨tg, iter, ifs, 0⟩] scope pos) lv x k := fun Qf =>
  PE.imp (pe_lc (g := rdG C X.K (wipeE ρ (own.map fun p : Str × Nat => p.2)) un outT sl) (tt := rdT C X.K outT xt ye) (te := rdE C X.K outT ye) hc hN (hI Qf) ok hg (fun s H Ca cl fp => PTs.ex fun a => PTs.ex fun q => ht s H Ca cl fp a q) (fun s H Ca cl fp => PE.ex fun a => PE.ex fun q => he s H Ca cl fp a q) hs) fun σ H Q h =>
    lc_imp (Qf := Qf) hsl (fun R h => h) h
/-- y = [..] on one line -/
theorem cs_setC {δ τ α2 : Type} {α1 : Type} {elt tg iter : Expr} {ifs : List Expr} {scope : Scope} {own : List (Str × Nat)} {pos spos py : Pos} {y : Str} {i : Nat} {un : D → Option α1} {outT : α1 → En} {sl : List Nat} {xt ye : α1 → m (Option D)} {x : m β} {xr : List D → m β}
    {rest : List Stmt} {out : α2 → En} {outL : τ → En} {rk : δ → R} {kn : α2 → m β} {kr : δ → m β} {kb kc : τ → m β}
    (hr : ∀ xs, CS C X (ρ.set i (some (.own (.lst xs)))) rest out outL rk (xr xs) kn kr kb kc)
    (he : ∀ (s : Shared) (H : Hp) (Ca : Addr) (cl : List (Str × Addr)) (fp : List Addr) (a : α1), CE C.nx (X.blk s H scope (compEnvC scope cl Ca X.env) fp) (outT a) elt dv (ye a) (fun d => pur (some d)))
    (ht : ∀ (s : Shared) (H : Hp) (Ca : Addr) (cl : List (Str × Addr)) (fp : List Addr) (a : α1), CTs C.nx (X.blk s H scope (compEnvC scope cl Ca X.env) fp) (outT a) ifs (xt a) (fun b => if b = true then ye a else pur none))
    (hg : ∀ (s : Shared) (H : Hp) (Ca : Addr) (cl : List (Str × Addr)) (fp : List Addr), CG C (X.blk s H scope (compEnvC scope cl Ca X.env) fp) (wipeE ρ (own.map fun p : Str × Nat => p.2)) tg un outT sl)
    (hI : CI C X ρ tg iter x (fun ds => bnd (nox (compL ds [] (fun d => bnd (need (un d)) xt))) xr)) (hN : X.N.Nodup) (ok : BlkOk X.N X.env.scope scope own)
    (hsw : swapsWith (.ListComp elt [⟨tg, iter, ifs, 0⟩] scope pos) (some (.Name y py)) spos.line X.env = pure true)
    (hy : X.N[i]? = some y := by rfl) (hyl : X.env.scope.names.lookup y = some .local := by rfl) (hsl : ∀ i ∈ sl, i ∈ own.map fun p : Str × Nat => p.2 := by decide) (hc : X.calm = true := by rfl) (hs : ∀ x, foldedSetIterable iter X.env x = pure x := by intro _; rfl) :
    CS C X ρ (.Assign [.Name y py] (.ListComp elt [⟨tg, iter, ifs, 0⟩] scope pos) spos :: rest) out outL rk x kn kr kb kc := fun Qf =>
  PSs.imp (pss_cons (ps_setLc (g := rdG C X.K (wipeE ρ (own.map fun p : Str × Nat => p.2)) un outT sl) (tt := rdT C X.K outT xt ye) (te := rdE C X.K outT ye) hc hN hy hyl hsw (hI Qf) ok hg (fun s H Ca cl fp => PTs.ex fun a => PTs.ex fun q => ht s H Ca cl fp a q) (fun s H Ca cl fp => PE.ex fun a => PE.ex fun q => he s H Ca cl fp a q) hs) (PSs.ex fun xs => hr xs Qf)) fun E σ H ⟨G, J, g, st, w, fi⟩ =>
    by
      delta tSeq tAsg gName
      dsimp only
      exact lc_imp (Qf := Qf) (K := X.K) (x := x) (k := xr) (un := un) (outT := outT) (sl := sl) (xt := xt) (ye := ye) hsl (fun R h => h) ⟨G, J, g, st, w, fun v xs H' G' J' g' af si rr w' => by
        obtain ⟨p, rfl, hb, hg, hj, hc⟩ := rr
        exact ⟨xs, G', J', g', st.setL af si hb hg hj hc, w', fi.sub af.gg⟩⟩
end
end Cl

set_option Elab.async false
set_option linter.all false
set_option maxRecDepth 100000
set_option maxHeartbeats 4000000
/-! the clean layer, part G: defs and their calls -/
namespace Cl
open PySem PySem.Spec PyProof.Rows L2
open MO

/-- nothing stands in the region -/
def S0 : SIx Unit where
  si := fun _ _ J _ => ∀ a, ¬ J a
  new := fun h _ _ => h
  cut := fun h _ _ _ => h

/-! ### arguments: true for a plain value, false for another object -/
abbrev Sig := List Bool
@[reducible] def El : Bool → Type
  | true => D
  | false => Addr
@[reducible] def Ar : Sig → Type
  | [] => Unit
  | b :: bs => El b × Ar bs
def unpack : (sig : Sig) → List R → Option (Ar sig)
  | [], [] => some ()
  | true :: bs, .v d :: rs => match unpack bs rs with
    | some a => some (d, a)
    | none => none
  | false :: bs, .o x :: rs => match unpack bs rs with
    | some a => some (x, a)
    | none => none
  | _, _ => none
def callM {m : Type → Type} [MO m] {δ : Type} (sig : Sig) (f : Ar sig → m δ) (rs : List R) : m δ := match unpack sig rs with
  | some a => f a
  | none => lift .no
@[reducible] def entA : {sig : Sig} → Ar sig → En
  | [], _ => []
  | true :: _, (d, a) => some (.val d) :: entA a
  | false :: _, (x, a) => some (.obj x) :: entA a
@[reducible] def entE {sig : Sig} (a : Ar sig) (n : Nat) : En := entA a ++ List.replicate (n - sig.length) none
inductive RAs (K : PySem.W.Frag) (G : Hp) : List V → List R → Prop
  | nil : RAs K G [] []
  | v {v : V} {d : D} {vs : List V} {rs : List R} : Rp K G v d → RAs K G vs rs → RAs K G (v :: vs) (.v d :: rs)
  | o {a : Addr} {vs : List V} {rs : List R} : RAs K G vs rs → RAs K G (.ref a :: vs) (.o a :: rs)
  | l {v : V} {c : Cell} {vs : List V} {rs : List R} : RAs K G vs rs → RAs K G (v :: vs) (.l c :: rs)
theorem RRs.ras {K : PySem.W.Frag} {G H Hb : Hp} {J : Addr → Prop} : ∀ {vs : List V} {rs : List R}, RRs K G J H Hb vs rs → RAs K G vs rs
  | _, _, .nil => .nil
  | _, .v d :: _, .cons h t => .v h (RRs.ras t)
  | _, .o a :: _, .cons h t => by cases h; exact .o (RRs.ras t)
  | _, .l c :: _, .cons h t => .l (RRs.ras t)
theorem RAs.length {K : PySem.W.Frag} {G : Hp} : ∀ {vs : List V} {rs : List R}, RAs K G vs rs → vs.length = rs.length
  | _, _, .nil => rfl
  | _, _, .v _ t => by rw [List.length_cons, List.length_cons, RAs.length t]
  | _, _, .o t => by rw [List.length_cons, List.length_cons, RAs.length t]
  | _, _, .l t => by rw [List.length_cons, List.length_cons, RAs.length t]
theorem ent_nth {K : PySem.W.Frag} {G : Hp} : ∀ {sig : Sig} {rs : List R} {vs : List V} {a : Ar sig} {i : Nat} {x : Ent}, RAs K G vs rs → unpack sig rs = some a → (entA a)[i]? = some (some x) →
    (∃ d v, x = .val d ∧ vs[i]? = some v ∧ Rp K G v d) ∨ (∃ c, x = .obj c ∧ vs[i]? = some (.ref c))
  | [], rs, vs, a, i, x, r, e, h => by simp [entA] at h
  | true :: bs, rs, vs, a, i, x, r, e, h => by
    cases r with
    | nil => simp [unpack] at e
    | @v v d vs rs r1 r2 =>
      unfold unpack at e
      cases q : unpack bs rs with
      | none => simp [q] at e
      | some a1 =>
        simp [q] at e
        subst e
        cases i with
        | zero =>
          simp [entA] at h
          subst h
          exact .inl ⟨d, v, rfl, rfl, r1⟩
        | succ i => exact ent_nth (i := i) r2 q (by simpa [entA] using h)
    | o r2 => simp [unpack] at e
    | l r2 => simp [unpack] at e
  | false :: bs, rs, vs, a, i, x, r, e, h => by
    cases r with
    | nil => simp [unpack] at e
    | v r1 r2 => simp [unpack] at e
    | @o c vs rs r2 =>
      unfold unpack at e
      cases q : unpack bs rs with
      | none => simp [q] at e
      | some a1 =>
        simp [q] at e
        subst e
        cases i with
        | zero =>
          simp [entA] at h
          subst h
          exact .inr ⟨c, rfl, rfl⟩
        | succ i => exact ent_nth (i := i) r2 q (by simpa [entA] using h)
    | l r2 => simp [unpack] at e
theorem unpack_len : ∀ {sig : Sig} {rs : List R} {a : Ar sig}, unpack sig rs = some a → rs.length = sig.length ∧ (entA a).length = sig.length
  | [], [], _, _ => ⟨rfl, rfl⟩
  | [], _ :: _, _, h => by simp [unpack] at h
  | true :: bs, [], _, h => by simp [unpack] at h
  | false :: bs, [], _, h => by simp [unpack] at h
  | true :: bs, .o _ :: rs, _, h => by simp [unpack] at h
  | true :: bs, .l _ :: rs, _, h => by simp [unpack] at h
  | false :: bs, .v _ :: rs, _, h => by simp [unpack] at h
  | false :: bs, .l _ :: rs, _, h => by simp [unpack] at h
  | true :: bs, .v d :: rs, a, h => by
    unfold unpack at h
    cases q : unpack bs rs with
    | none => simp [q] at h
    | some a1 =>
      simp [q] at h
      subst h
      obtain ⟨e1, e2⟩ := unpack_len q
      exact ⟨by simp [e1], by simp [entA, e2]⟩
  | false :: bs, .o d :: rs, a, h => by
    unfold unpack at h
    cases q : unpack bs rs with
    | none => simp [q] at h
    | some a1 =>
      simp [q] at h
      subst h
      obtain ⟨e1, e2⟩ := unpack_len q
      exact ⟨by simp [e1], by simp [entA, e2]⟩

section
variable {γ : Type} {m : Type → Type} [PM γ m] {δ : Type}
/-- what a def promises: it does f -/
def spC {γ : Type} {m : Type → Type} [PM γ m] {δ : Type} (K : PySem.W.Frag) (S : SIx γ) (sig : Sig) (f : Ar sig → m δ) (rk : δ → R) : Sp := fun vs H Q E => ∃ G J g rs, Vis G J H ∧ S.si g G J H ∧ RAs K G vs rs ∧ rs.length = sig.length ∧
  PM.wp (callM sig f rs) g (fun d g' => ∀ v H' G' J', Aft G J H G' J' H' → S.si g' G' J' H' → RR K G' J' H' H v (rk d) → Q v H') (fun _ _ => False)
end
/-- a def's promise kept where no repr is under way -/
structure FnG (P : Program) (w : World) (K : PySem.W.Frag) (mg : Str → Option Value) (base : Heap) (k : Nat) (f : Addr) (fd : FuncData) (ps : List Str) (sp : Sp) : Prop where
  num : ∀ vs H Q E, sp vs H Q E → vs.length = ps.length
  does : ∀ (A : Around) (outer : List Env) (s : Shared) (H : Hp) (args : Args) (us : List Value) (vs : List V) (Q : VK) (E : XK), Room k A → A.guards = some [] → Env0 P w K mg base A outer s H → BindsTo s fd args (ps.zip us) → Vals vs us → sp vs H Q E →
    codeAny (model P w) A (.call (.ref f) args) (CR CX0 outer P w H s Q E) s
theorem FnG.lift {P : Program} {w : World} {K : PySem.W.Frag} {mg : Str → Option Value} {base : Heap} {j k : Nat} {f : Addr} {fd : FuncData} {ps : List Str} {sp : Sp} (F : FnG P w K mg base j f fd ps sp) (h : j ≤ k) : FnG P w K mg base k f fd ps sp where
  num := F.num
  does := fun A outer s H args us vs Q E hr => F.does A outer s H args us vs Q E (hr.mono h)
/-- a def that may be called -/
structure Cal (P : Program) (w : World) (K : PySem.W.Frag) (mg : Str → Option Value) (base : Heap) (x : Str) (lvl : Nat) (ps : List Str) (sp : Sp) : Prop where
  ex : ∃ f fd, mg x = some (.ref f) ∧ FnG P w K mg base lvl f fd ps sp ∧ PySem.W.keepIn K (.ref f) = true ∧ (∀ (s : Shared) (args : Args) (us : List Value), us.length = ps.length → bindArgs fd args = pure (ps.zip us) → BindsTo s fd args (ps.zip us)) ∧ (∀ us : List Value, us.length = ps.length → bindArgs fd ⟨us, []⟩ = pure (ps.zip us)) ∧ ∃ oc od sl, K.lookup f = some ⟨oc, od, .func fd, sl⟩
theorem Cal.mono {P : Program} {w : World} {K : PySem.W.Frag} {mg : Str → Option Value} {base : Heap} {x : Str} {j k : Nat} {ps : List Str} {sp : Sp} (c : Cal P w K mg base x j ps sp) (h : j ≤ k) : Cal P w K mg base x k ps sp := by
  obtain ⟨f, fd, a, b, r⟩ := c.ex
  exact ⟨f, fd, a, b.lift h, r⟩
/-- where a def stands behind the top -/
structure Dfd (K : PySem.W.Frag) (mg : Str → Option Value) (x qual : Str) (st : Stmt) (ps : List Str) : Prop where
  ex : ∃ f fd, mg x = some (.ref f) ∧ Fun K x qual st f fd ∧ ∀ us : List Value, us.length = ps.length → bindArgs fd ⟨us, []⟩ = pure (ps.zip us)
/-- a body run where it stands -/
theorem fnG_of {P : Program} {w : World} {K : PySem.W.Frag} {mg : Str → Option Value} {base : Heap} {x qual : Str} {st : Stmt} {f : Addr} {fd : FuncData} {N ps : List Str} {k : Nat} {sp : Sp} (F : Fun K x qual st f fd) (S : FnScope N ps (defScope st)) (num : ∀ vs H Q E, sp vs H Q E → vs.length = ps.length)
    (hb : ∀ (cdv : Value) (A : Around) (outer : List Env) (s : Shared) (H : Hp) (vs : List V) (Q : VK) (E : XK), Room k (A.deeper (envOfC qual (defScope st) s.heap.objs.size f cdv)) → A.guards = some [] → sp vs H Q E →
      ∃ t, PSs (cxOf CX0 P w K mg base N qual (defScope st) f cdv A outer s H E).nox (defBody st) t ∧ t { nx := fun _ H' => Q .non H', rt := Q } (L2.start N vs) H) : FnG P w K mg base (k + 1) f fd ps sp := by
  obtain ⟨oc, od, kV, doc, pm, an, cdv, ct, osl, rfl, lk, hcd⟩ := F.ex
  refine ⟨num, fun A outer s H args us vs Q E hr hgd e0 hbd rv hsp => ?_⟩
  have inK : K.In s.heap := e0.mod.kin.keeps fun b o e => (e0.bs b o e).1
  have nl : s.heap.NoLimit := e0.mod.nolimit.keeps fun b o e => (e0.bs b o e).1
  have kinds : ∀ y ∈ ps.zip us, (defScope st).names.lookup y.1 = some .local ∨ ((defScope st).names.lookup y.1 = some .cell ∧ ((cellsFrom (s.heap.objs.size + 1) (defScope st).names []).lookup y.1).isSome = true) := fun ⟨n, v⟩ hy => (S.par n (List.of_mem_zip hy).1).imp (fun q => q) fun q => ⟨q, PySem.W.cellsFrom_some _ _ _ (.inl q)⟩
  refine codeAny_call_function hr.depth (inK _ _ lk) rfl S.co S.gen rfl (PySem.W.codeRec_of inK hcd) (hbd _ _ _ _ (wpAny_newFunctionEnv_cells S.kind kinds fun env he s1 ic => ?_))
  subst he
  refine ⟨nl.keeps ic.toInCall.keep, codeAny_func ?_⟩
  obtain ⟨t, ht, hq⟩ := hb cdv A outer s H vs Q E (hr.deeper _) hgd hsp
  have I0 := inv_start (CX := CX0) (E := E) S hr.hd e0 (num _ _ _ _ hsp) rv ic
  refine wpAny_mono (ht.nox.run [] s1 _ H _ I0 hq) (fun fl s' hs => ?_) fun e s' hs => hs
  have give : ∀ {σ' : L2.St} {H' : Hp} {v : V} {u : Value}, Inv (cxOf CX0 P w K mg base N qual (defScope st) f cdv A outer s H E) [] σ' H' s' → RelV v u → Q v H' → L2.CE outer P w H s Q u s' := fun {σ' H' v u} i r q => ⟨v, H', i.os, i.bare, i.base, i.hok, r, q⟩
  cases fl with
  | next => obtain ⟨σ', H', i, q⟩ := hs; exact give (v := V.non) (u := Value.none) i rfl q
  | ret u => obtain ⟨v, σ', H', i, r, q⟩ := hs; exact give i r q
  | brk => obtain ⟨_, _, _, q⟩ := hs; exact q.elim
  | cont => obtain ⟨_, _, _, q⟩ := hs; exact q.elim
section
variable {X : Cx} {k : Nat} {f : Addr} {fd : FuncData} {ps : List Str} {sp : Sp}
theorem go_fnG {pins : List (Addr × Obj)} {σ : L2.St} {H : Hp} {s : Shared} {Q : VK} {us : List Value} {vs : List V} {kw : List (Str × Value)} {qs : List Value} (F : FnG X.prog X.w X.K X.mg X.base k f fd ps sp) (hr : Room k X.A) (hgd : X.A.guards = some [])
    (I : Inv X pins σ H s) (hb : BindsTo s fd ⟨qs, kw⟩ (ps.zip us)) (r : Vals vs us) (h : sp vs H Q E0) : wpAny (model X.prog X.w) X.A (call (.ref f) qs kw) (EP X pins σ Q) X.xe s := by
  refine wpAny_call (codeAny_mono (F.does X.A X.stack s H ⟨qs, kw⟩ us vs Q E0 hr hgd I.env0 hb r h) fun res s' hq => ?_)
  match res, hq with
  | .error _, hq => exact hq.elim
  | .ok (.ret u), hq => exact I.after hq
  | .ok .next, hq => exact False.elim hq
  | .ok .brk, hq => exact False.elim hq
  | .ok .cont, hq => exact False.elim hq
variable {x : Str} {p pos : Pos} {e : Expr} {es : List Expr} {t : TA}
def tCl (sp : Sp) (t : TA) : TE := fun σ H Q => t σ H fun vs H1 => sp vs H1 Q E0
theorem pe_callG (c : Cal X.prog X.w X.K X.mg X.base x k ps sp) (hr : Room k X.A) (hgd : X.A.guards = some []) (hg : Gl X x) (ha : PA X (e :: es) t) (hdb : (x == ("__debug__" : Str)) = false) (he : starEach (e :: es) X.env = (false, eval e X.env) :: starEach es X.env)
    (hpl : (backTo pos (starEach es X.env)).any (·.1) = false) : PE X (.Call (.Name x p) (e :: es) [] pos) (tCl sp t) := by
  obtain ⟨f, fd, hm, F, hk, hb, hb2, hlk⟩ := c.ex
  refine ⟨fun pins s σ H Q I h => wpAny_Call_Name_kw (ld_glob I hg hm (PySem.W.callWith_K (h₀ := X.base) I.ok.mod.kin hk (thn (ha.run pos pins s σ H _ I h) fun us s1 ⟨vs, H1, I1, r, q⟩ => ⟨I1.kIn, ?_⟩) he hpl) hdb)⟩
  have hn : us.length = ps.length := by rw [← r.length]; exact F.num _ _ _ _ q
  exact go_fnG F hr hgd I1 (hb s1 _ us hn (hb2 us hn)) r q
theorem pe_callG0 (c : Cal X.prog X.w X.K X.mg X.base x k ps sp) (hr : Room k X.A) (hgd : X.A.guards = some []) (hg : Gl X x) (hdb : (x == ("__debug__" : Str)) = false) : PE X (.Call (.Name x p) [] [] pos) (tCl sp tNil) := by
  obtain ⟨f, fd, hm, F, hk, hb, hb2, hlk⟩ := c.ex
  refine ⟨fun pins s σ H Q I h => wpAny_Call_Name_kw (ld_glob I hg hm (PySem.W.callWith_K0 I.kIn hk ?_) hdb)⟩
  have hn : ([] : List Value).length = ps.length := F.num _ _ _ _ h
  exact go_fnG (us := []) F hr hgd I (hb s _ [] hn (hb2 [] hn)) .nil h
end
section
variable {γ : Type} {m : Type → Type} [PM γ m] {δ : Type}
theorem entE_key {sig : Sig} {a : Ar sig} {n i : Nat} {y : Ent} (h : (entE a n)[i]? = some (some y)) : (entA a)[i]? = some (some y) := by
  unfold entE at h
  by_cases hi : i < (entA a).length
  · rw [List.getElem?_append_left hi] at h; exact h
  · rw [List.getElem?_append_right (by omega), List.getElem?_replicate] at h
    split at h <;> cases h
theorem env_start {K : PySem.W.Frag} {H G : Hp} {J : Addr → Prop} {sig : Sig} {rs : List R} {vs : List V} {a : Ar sig} {N : List Str} (ra : RAs K G vs rs) (e : unpack sig rs = some a) (hN : sig.length ≤ N.length) : EnvR K H (entE a N.length) (L2.start N vs) H G J := by
  have l1 := ra.length
  have l2 := unpack_len e
  have look : ∀ {i : Nat} {v : V}, vs[i]? = some v → (L2.start N vs)[i]? = some (some v) := fun {i v} h2 => by
    unfold L2.start
    rw [List.getElem?_append_left (by rw [List.length_map]; exact (List.getElem?_eq_some_iff.mp h2).1), List.getElem?_map, h2]
    rfl
  refine ⟨fun i d h => ?_, fun i c h => ?_, fun i c h => ?_, fun i j c c' p _ h => ?_, ?_, fun i h => ?_⟩
  · rcases ent_nth ra e (entE_key h) with ⟨d', v, h1, h2, h3⟩ | ⟨c, h1, _⟩
    · cases h1; exact ⟨v, look h2, h3⟩
    · cases h1
  · rcases ent_nth ra e (entE_key h) with ⟨d', v, h1, h2, h3⟩ | ⟨c', h1, h2⟩
    · cases h1
    · cases h1; exact look h2
  · rcases ent_nth ra e (entE_key h) with ⟨d', v, h1, h2, h3⟩ | ⟨c', h1, h2⟩ <;> cases h1
  · rcases ent_nth ra e (entE_key h) with ⟨d', v, h1, h2, h3⟩ | ⟨c', h1, h2⟩ <;> cases h1
  · unfold entE L2.start
    rw [List.length_append, List.length_append, List.length_map, List.length_replicate, List.length_replicate]
    have l3 := l2.1
    have l4 := l2.2
    rw [l4, l1, l3]
  · rcases ent_nth ra e (entE_key h) with ⟨d', v, h1, h2, h3⟩ | ⟨c', h1, h2⟩ <;> cases h1
/-- THE RULE for a def, by its body -/
theorem cal_of {P : Program} {w : World} {K : PySem.W.Frag} {mg : Str → Option Value} {base : Heap} {x qual : Str} {st : Stmt} {N ps : List Str} {k : Nat} {S : SIx γ} {sig : Sig} {f : Ar sig → m δ} {rk : δ → R} (kn : Unit → m δ) (F : Dfd K mg x qual st ps) (sc : FnScope N ps (defScope st)) (hl : ps.length = sig.length)
    (hkn : kn = (fun _ => lift .no) ∨ ∃ d0, kn = (fun _ => pur d0) ∧ rk d0 = .v .none)
    (hbody : ∀ (f' : Addr) (cdv : Value) (A : Around) (outer : List Env) (s : Shared) (H G : Hp) (J : Addr → Prop) (E : XK) (a : Ar sig), Room k (A.deeper (envOfC qual (defScope st) s.heap.objs.size f' cdv)) → A.guards = some [] →
      CS (m := m) (⟨H, G, J, S, fun _ _ => False⟩ : Cc γ) ((cxOf CX0 P w K mg base N qual (defScope st) f' cdv A outer s H E).nox) (entE a N.length) (defBody st) (fun _ : Unit => List.replicate N.length none) (fun _ : Unit => badE) rk (f a) kn (fun r => pur r) (fun _ => lift .no) (fun _ => lift .no)) :
    Cal P w K mg base x (k + 1) ps (spC K S sig f rk) := by
  obtain ⟨fA, fd, hm, FF, hb⟩ := F.ex
  refine ⟨fA, fd, hm, fnG_of FF sc (fun vs H Q E h => ?_) (fun cdv A outer s H vs Q E hr hgd h => ?_), FF.kp, fun s args us _ e => .of_eq e, hb, by obtain ⟨oc, od, kV, doc, pm, an, cdv, ct, osl, rfl, lk, hcd⟩ := FF.ex; exact ⟨oc, od, osl, lk⟩⟩
  · obtain ⟨G, J, g, rs, _, _, ra, hlen, _⟩ := h
    rw [ra.length, hlen, hl]
  · obtain ⟨G, J, g, rs, vis, si, ra, hlen, w1⟩ := h
    unfold callM at w1
    have hN : ps.length ≤ N.length := by
      have := congrArg List.length sc.pre
      rw [List.length_take] at this
      omega
    cases e : unpack sig rs with
    | none =>
      rw [e] at w1
      exact (PM.of_lift w1).elim
    | some a =>
      rw [e] at w1
      refine ⟨_, hbody fA cdv A outer s H G J E a hr hgd _, G, J, g, ⟨env_start ra e (by rw [← hl]; exact hN), Aft.refl vis, si⟩, w1, ⟨fun _ σ' H' G' J' g' _ st w2 => ?_, fun r v H' G' J' g' af si' rr w2 => ?_, fun _ σ' H' G' J' g' _ st w2 => (PM.of_lift w2).elim, fun _ σ' H' G' J' g' _ st w2 => (PM.of_lift w2).elim⟩⟩
      · rcases hkn with q | ⟨d0, q, q2⟩
        · rw [q] at w2
          exact (PM.of_lift w2).elim
        · rw [q] at w2
          have w3 := PM.of_pur w2
          exact w3 .non H' G' J' st.aft st.si (by rw [q2]; exact .non)
      · have w3 := PM.of_pur w2
        exact w3 v H' G' J' af si' rr
end

section
variable {γ : Type} {m : Type → Type} [PM γ m] {α β δ : Type} {C : Cc γ} {X : Cx} {ρ : En}
/-- a call of a plain def -/
theorem ce_callP {x : Str} {lvl : Nat} {ps : List Str} {sig : Sig} {f : Ar sig → P δ} {rk : δ → R} {p pos : Pos} {e : Expr} {es : List Expr} {y : m β} {k : δ → m β} (c : Cal X.prog X.w X.K X.mg X.base x lvl ps (spC X.K S0 sig f rk)) (hr : Room lvl X.A) (hgd : X.A.guards = some [])
    (ha : CA C X ρ (e :: es) y (fun rs => bnd (lift (callM sig f rs)) k)) (hl : (e :: es).length = sig.length := by rfl) (hg : Gl X x := by rfl) (hEX : ∀ x g, C.EX x g → False := by exact fun _ _ h => h) (hdb : (x == ("__debug__" : Str)) = false := by decide)
    (he : starEach (e :: es) X.env = (false, eval e X.env) :: starEach es X.env := by rfl) (hpl : (backTo pos (starEach es X.env)).any (·.1) = false := by rfl) : CE C X ρ (.Call (.Name x p) (e :: es) [] pos) rk y k := fun Qf => by
  refine PE.imp (pe_callG c hr hgd hg (ha Qf) hdb he hpl) fun σ H Q ⟨G, J, g, st, w, h⟩ => ⟨G, J, g, st, w, fun vs rs H1 G1 J1 g1 af1 si1 rrs hn w1 => ?_⟩
  refine ⟨G1, fun _ => False, (), rs, ⟨af1.vis.sub, fun _ h => h.elim, fun _ h => h.elim⟩, fun _ h => h, rrs.ras, by rw [hn, hl], ?_⟩
  have w2 := PM.of_lift (PM.of_bnd w1)
  cases e1 : callM sig f rs with
  | no => rw [e1] at w2; exact w2.elim
  | ex q => rw [e1] at w2; exact (hEX _ _ w2).elim
  | ok d =>
    rw [e1] at w2
    intro v H' G' J' af si rr
    have n : New G1 H1 G' H' := ⟨af.gg, fun a o h => af.hh a o (fun z => z) h, af.gn, af.vis.sub⟩
    refine h v d H' G' J1 g1 (af1.trans (n.aft af1.vis)) (SIx.nw si1 n) ?_ w2
    have rr' : RR X.K G' J1 H' H1 v (rk d) := by
      cases q : rk d with
      | v d => rw [q] at rr; exact rr
      | o x => rw [q] at rr; exact rr
      | l c =>
        rw [q] at rr
        obtain ⟨p, h1, h2, h3, h4, h5⟩ := rr
        exact ⟨p, h1, h2, h3, fun j => af1.vis.dom p j h2, h5⟩
    exact rr'.base af1.back
/-- a call of a def with choices -/
theorem ce_callM {x : Str} {lvl : Nat} {ps : List Str} {sig : Sig} {f : Ar sig → m δ} {rk : δ → R} {p pos : Pos} {e : Expr} {es : List Expr} {y : m β} {k : δ → m β} (c : Cal X.prog X.w X.K X.mg X.base x lvl ps (spC X.K C.S sig f rk)) (hr : Room lvl X.A) (hgd : X.A.guards = some [])
    (ha : CA C X ρ (e :: es) y (fun rs => bnd (nox (callM sig f rs)) k)) (hl : (e :: es).length = sig.length := by rfl) (hg : Gl X x := by rfl) (hdb : (x == ("__debug__" : Str)) = false := by decide)
    (he : starEach (e :: es) X.env = (false, eval e X.env) :: starEach es X.env := by rfl) (hpl : (backTo pos (starEach es X.env)).any (·.1) = false := by rfl) : CE C X ρ (.Call (.Name x p) (e :: es) [] pos) rk y k := fun Qf => by
  refine PE.imp (pe_callG c hr hgd hg (ha Qf) hdb he hpl) fun σ H Q ⟨G, J, g, st, w, h⟩ => ⟨G, J, g, st, w, fun vs rs H1 G1 J1 g1 af1 si1 rrs hn w1 => ?_⟩
  refine ⟨G1, J1, g1, rs, af1.vis, si1, rrs.ras, by rw [hn, hl], ?_⟩
  exact PM.mono (PM.of_nox (PM.of_bnd w1)) fun d g' w2 v H' G' J' af si rr => h v d H' G' J' g' (af1.trans af) si (rr.base af1.back) w2
theorem ce_callP0 {x : Str} {lvl : Nat} {ps : List Str} {f : Ar [] → P δ} {rk : δ → R} {p pos : Pos} {k : δ → m β} (c : Cal X.prog X.w X.K X.mg X.base x lvl ps (spC X.K S0 [] f rk)) (hr : Room lvl X.A) (hgd : X.A.guards = some [])
    (hg : Gl X x := by rfl) (hEX : ∀ x g, C.EX x g → False := by exact fun _ _ h => h) (hdb : (x == ("__debug__" : Str)) = false := by decide) : CE C X ρ (.Call (.Name x p) [] [] pos) rk (bnd (lift (f ())) k) k := fun Qf => by
  refine PE.imp (pe_callG0 c hr hgd hg hdb) fun σ H Q ⟨G, J, g, st, w1, h⟩ => ?_
  refine ⟨G, fun _ => False, (), [], ⟨st.vis.sub, fun _ h => h.elim, fun _ h => h.elim⟩, fun _ h => h, .nil, rfl, ?_⟩
  have w2 := PM.of_lift (PM.of_bnd w1)
  show PM.wp (f ()) () _ _
  cases e1 : f () with
  | no => rw [e1] at w2; exact w2.elim
  | ex q => rw [e1] at w2; exact (hEX _ _ w2).elim
  | ok d =>
    rw [e1] at w2
    intro v H' G' J' af si rr
    have n : New G H G' H' := ⟨af.gg, fun a o h => af.hh a o (fun z => z) h, af.gn, af.vis.sub⟩
    refine h v d H' G' J g (n.aft st.vis) (SIx.nw st.si n) ?_ w2
    cases q : rk d with
    | v d => rw [q] at rr; exact rr
    | o x => rw [q] at rr; exact rr
    | l c =>
      rw [q] at rr
      obtain ⟨p, h1, h2, h3, h4, h5⟩ := rr
      exact ⟨p, h1, h2, h3, fun j => st.vis.dom p j h2, h5⟩
end
end Cl

set_option Elab.async false
set_option linter.all false
set_option maxRecDepth 100000
set_option maxHeartbeats 4000000
/-! the clean layer, part H: operations -/
namespace Cl
open PySem PySem.Spec PyProof.Rows L2
open MO

/-! ### arithmetic and joining -/
def addF : D → D → Option D
  | .int a, .int b => some (.int (a + b))
  | .str a, .str b => if a.length + b.length ≤ sizeLine then some (.str (a ++ b)) else none
  | .tuple a, .tuple b => if a.length + b.length ≤ sizeLine then some (.tuple (a ++ b)) else none
  | .list a, .list b => if a.length + b.length ≤ sizeLine then some (.list (a ++ b)) else none
  | _, _ => none
def addL : D → D → Option (List D)
  | .list a, .list b => if a.length + b.length ≤ sizeLine then some (a ++ b) else none
  | _, _ => none
def rStrA : R2 := fun x y H Q => ∃ i j, x = .str i ∧ y = .str j ∧ i.length + j.length ≤ sizeLine ∧ Q (.str (i ++ j)) H
def rAddA (K : PySem.W.Frag) : R2 := fun x y H Q => (rI0 fun i j => .int (i + j)) x y H Q ∨ (rStrA x y H Q ∨ (rCatA K x y H Q ∨ rCat x y H Q))
section
variable {X : Cx}
theorem op_addA : OpR X (binaryOp .Add) (rAddA X.K) := op_add.or (op_add_str.or (op_catA.or op_cat))
end
theorem p2_add {K : PySem.W.Frag} : P2 K (rAddA K) addF (fun d => d) := fun H G v1 v2 d1 d2 d Q s r1 r2 e q => by
  cases r1 with
  | non => cases r2 <;> cases e
  | bl b => cases r2 <;> cases e
  | int i =>
    cases r2 with
    | int j =>
      cases e
      exact .inl ⟨i, j, rfl, rfl, q _ H G (New.refl s) (.int _)⟩
    | _ => cases e
  | str x =>
    cases r2 with
    | str y =>
      simp only [addF] at e
      split at e
      · rename_i h
        cases e
        exact .inr (.inl ⟨x, y, rfl, rfl, h, q _ H G (New.refl s) (.str _)⟩)
      · cases e
    | _ => cases e
  | @tup a vs ds h1 h2 =>
    cases r2 with
    | @tup b ws es h3 h4 =>
      simp only [addF] at e
      split at e
      · rename_i h
        cases e
        refine .inr (.inr (.inl ⟨a, b, vs, ws, rfl, rfl, s.seq h1, s.seq h3, by rw [h2.length, h4.length]; exact h, fun z => ?_, fun _ z => ?_, fun _ _ p hp => ?_⟩))
        · subst z
          cases h2
          exact q _ H G (New.refl s) (.tup h3 h4)
        · subst z
          cases h4
          refine q _ H G (New.refl s) (.tup h1 ?_)
          rw [List.append_nil]; exact h2
        · exact q _ _ _ (New.laid s hp) (rp_newT s hp (h2.append h4))
      · cases e
    | _ => cases e
  | @lst a vs ds h1 h2 =>
    cases r2 with
    | @lst b ws es h3 h4 =>
      simp only [addF] at e
      split at e
      · rename_i h
        cases e
        refine .inr (.inr (.inr ⟨a, b, vs, ws, rfl, rfl, s _ _ h1, s _ _ h3, by rw [h2.length, h4.length]; exact h, fun p hp => ?_⟩))
        exact q _ _ _ (New.laid s hp) (rp_new s hp (h2.append h4))
      · cases e
    | _ => cases e
  | dct h1 h2 => cases r2 <;> cases e
theorem p2_addL {K : PySem.W.Frag} : P2L K (rAddA K) addL := fun H G v1 v2 d1 d2 ds Q s r1 r2 e q => by
  cases r1 with
  | @lst a vs ds h1 h2 =>
    cases r2 with
    | @lst b ws es h3 h4 =>
      simp only [addL] at e
      split at e
      · rename_i h
        cases e
        refine .inr (.inr (.inr ⟨a, b, vs, ws, rfl, rfl, s _ _ h1, s _ _ h3, by rw [h2.length, h4.length]; exact h, fun p hp => ?_⟩))
        exact q p _ hp (h2.append h4)
      · cases e
    | _ => cases e
  | _ => cases e
def subF : D → D → Option D
  | .int a, .int b => some (.int (a - b))
  | _, _ => none
theorem p2_sub {K : PySem.W.Frag} : P2 K (rI0 fun i j => .int (i - j)) subF (fun d => d) := fun H G v1 v2 d1 d2 d Q s r1 r2 e q => by
  cases r1 with
  | int i =>
    cases r2 with
    | int j => cases e; exact ⟨i, j, rfl, rfl, q _ H G (New.refl s) (.int _)⟩
    | _ => cases e
  | _ => cases e
instance (i j : Int) : Decidable (CMul i j) := by unfold CMul; infer_instance
instance (i j : Int) : Decidable (CDiv i j) := by unfold CDiv; infer_instance
instance (i j : Int) : Decidable (CPow i j) := by unfold CPow; infer_instance
def mulF : D → D → Option D
  | .int a, .int b => if CMul a b then some (.int (a * b)) else none
  | .list a, .int k => if -(2 ^ 63) ≤ k ∧ k < 2 ^ 63 ∧ a.length * k.toNat ≤ sizeLine then some (.list (List.replicate k.toNat a).flatten) else none
  | .tuple a, .int k => if a ≠ [] ∧ 2 ≤ k ∧ k ≤ 1000 ∧ a.length ≤ 1000 then some (.tuple (List.replicate k.toNat a).flatten) else none
  | _, _ => none
def rMulA (K : PySem.W.Frag) : R2 := fun x y H Q => (rI CMul fun i j => .int (i * j)) x y H Q ∨ (rRep x y H Q ∨ rRepT K x y H Q)
theorem op_mulA {X : Cx} : OpR X (binaryOp .Mult) (rMulA X.K) := op_mul.or (op_rep.or op_repT)
theorem p2_mul {K : PySem.W.Frag} : P2 K (rMulA K) mulF (fun d => d) := fun H G v1 v2 d1 d2 d Q s r1 r2 e q => by
  cases r1 with
  | int i =>
    cases r2 with
    | int j =>
      simp only [mulF] at e
      split at e
      · rename_i h
        cases e; exact .inl ⟨i, j, rfl, rfl, h, q _ H G (New.refl s) (.int _)⟩
      · cases e
    | _ => cases e
  | @lst a vs ds h1 h2 =>
    cases r2 with
    | int k =>
      simp only [mulF] at e
      split at e
      · rename_i h
        cases e
        refine .inr (.inl ⟨a, k, vs, rfl, rfl, s _ _ h1, h.1, h.2.1, by rw [h2.length]; exact h.2.2, fun p hp => ?_⟩)
        exact q _ _ _ (New.laid s hp) (rp_new s hp h2.flatten)
      · cases e
    | _ => cases e
  | @tup a vs ds h1 h2 =>
    cases r2 with
    | int k =>
      simp only [mulF] at e
      split at e
      · rename_i h
        cases e
        refine .inr (.inr ⟨a, k, vs, rfl, rfl, s.seq h1, fun z => h.1 ?_, h.2.1, h.2.2.1, by rw [h2.length]; exact h.2.2.2, fun p hp => ?_⟩)
        · subst z; cases h2; rfl
        · exact q _ _ _ (New.laid s hp) (rp_newT s hp h2.flatten)
      · cases e
    | _ => cases e
  | _ => cases e
def fdivF : D → D → Option D
  | .int a, .int b => if CDiv a b then some (.int (a / b)) else none
  | _, _ => none
theorem p2_fdiv {K : PySem.W.Frag} : P2 K (rI CDiv fun i j => .int (i / j)) fdivF (fun d => d) := fun H G v1 v2 d1 d2 d Q s r1 r2 e q => by
  cases r1 with
  | int i =>
    cases r2 with
    | int j =>
      simp only [fdivF] at e
      split at e
      · rename_i h
        cases e; exact ⟨i, j, rfl, rfl, h, q _ H G (New.refl s) (.int _)⟩
      · cases e
    | _ => cases e
  | _ => cases e
def modF : D → D → Option D
  | .int a, .int b => if 0 < b then some (.int (a % b)) else none
  | _, _ => none
theorem p2_mod {K : PySem.W.Frag} : P2 K (rI (fun _ j => 0 < j) fun i j => .int (i % j)) modF (fun d => d) := fun H G v1 v2 d1 d2 d Q s r1 r2 e q => by
  cases r1 with
  | int i =>
    cases r2 with
    | int j =>
      simp only [modF] at e
      split at e
      · rename_i h
        cases e; exact ⟨i, j, rfl, rfl, h, q _ H G (New.refl s) (.int _)⟩
      · cases e
    | _ => cases e
  | _ => cases e
def powF : D → D → Option D
  | .int a, .int b => if CPow a b then some (.int (a ^ b.toNat)) else none
  | _, _ => none
theorem p2_pow {K : PySem.W.Frag} : P2 K (rI CPow fun i j => .int (i ^ j.toNat)) powF (fun d => d) := fun H G v1 v2 d1 d2 d Q s r1 r2 e q => by
  cases r1 with
  | int i =>
    cases r2 with
    | int j =>
      simp only [powF] at e
      split at e
      · rename_i h
        cases e; exact ⟨i, j, rfl, rfl, h, q _ H G (New.refl s) (.int _)⟩
      · cases e
    | _ => cases e
  | _ => cases e
def negF : D → Option D
  | .int a => some (.int (-a))
  | _ => none
theorem p1_neg {K : PySem.W.Frag} : P1 K (rU fun i => .int (-i)) negF (fun d => d) := fun H G v1 d1 d Q s r1 e q => by
  cases r1 with
  | int i => cases e; exact ⟨i, rfl, q _ H G (New.refl s) (.int _)⟩
  | _ => cases e

/-! ### comparisons -/
mutual
theorem Rp.dp {K : PySem.W.Frag} {G H : Hp} (s : Sub G H) : ∀ {d : D} {v : V}, Rp K G v d → d.canLay0 = true → Dp K H v d
  | .none, _, h, _ => by cases h; exact .non
  | .bool _, _, h, _ => by cases h; exact .bl _
  | .int _, _, h, _ => by cases h; exact .int _
  | .str _, _, h, _ => by cases h; exact .str _
  | .list ds, _, h, l => by
    cases h with
    | lst h1 h2 => exact .lst (SqL.of (s _ _ h1)) (RpL.dp s h2 (by simpa [PyData.canLay0] using l))
  | .tuple ds, _, h, l => by
    cases h with
    | tup h1 h2 => exact .tup (s.seq h1) (RpL.dp s h2 (by simpa [PyData.canLay0] using l))
  | .dict ds, _, h, l => by simp [PyData.canLay0] at l
theorem RpL.dp {K : PySem.W.Frag} {G H : Hp} (s : Sub G H) : ∀ {ds : List D} {vs : List V}, RpL K G vs ds → PyData.canLayAll0 ds = true → DpAll K H vs ds
  | [], _, h, _ => by cases h; exact .nil
  | d :: ds, _, h, l => by
    rw [PyData.canLayAll0, Bool.and_eq_true] at l
    cases h with
    | cons h1 h2 => exact .cons (Rp.dp s h1 l.1) (RpL.dp s h2 l.2)
end
def eqF (a b : D) : Option Bool := match a, b with
  | .str x, .str y => some (decide (x = y))
  | a, b => if SeqAt.shaped a = true ∧ SeqAt.shaped b = true then some (PyData.eqv a b) else none
def neF (a b : D) : Option Bool := (eqF a b).map (!·)
def rEqA (K : PySem.W.Frag) : R2 := fun x y H Q => rEq x y H Q ∨ rEqD K x y H Q
def rNeA (K : PySem.W.Frag) : R2 := fun x y H Q => rNe x y H Q ∨ rNeD K x y H Q
section
variable {X : Cx}
theorem op_eqA (hu : X.A.units + 64 < cLine) : OpR X (compareOp .Eq) (rEqA X.K) := op_eq.or (op_eqD hu)
theorem op_neA (hu : X.A.units + 64 < cLine) : OpR X (compareOp .NotEq) (rNeA X.K) := op_ne.or (op_neD hu)
end
theorem eqF_cases {a b : D} {t : Bool} (h : eqF a b = some t) : (∃ x y, a = .str x ∧ b = .str y ∧ t = decide (x = y)) ∨ (SeqAt.shaped a = true ∧ SeqAt.shaped b = true ∧ t = PyData.eqv a b) := by
  unfold eqF at h
  split at h
  · cases h; exact .inl ⟨_, _, rfl, rfl, rfl⟩
  · split at h
    · rename_i q
      cases h; exact .inr ⟨q.1, q.2, rfl⟩
    · cases h
theorem p2_eq {K : PySem.W.Frag} : P2 K (rEqA K) eqF PyData.bool := fun H G v1 v2 d1 d2 d Q s r1 r2 e q => by
  rcases eqF_cases e with ⟨x, y, rfl, rfl, rfl⟩ | ⟨h1, h2, rfl⟩
  · cases r1; cases r2
    refine .inl ⟨rfl, ?_⟩
    have : decide (V.str x = V.str y) = decide (x = y) := by simp
    rw [this]
    exact q _ H G (New.refl s) (.bl _)
  · exact .inr ⟨d1, d2, r1.dp s (SeqAt.canLay_of_shaped h1), r2.dp s (SeqAt.canLay_of_shaped h2), h1, h2, q _ H G (New.refl s) (.bl _)⟩
theorem p2_ne {K : PySem.W.Frag} : P2 K (rNeA K) neF PyData.bool := fun H G v1 v2 d1 d2 d Q s r1 r2 e q => by
  unfold neF at e
  cases e1 : eqF d1 d2 with
  | none => rw [e1] at e; cases e
  | some t =>
    rw [e1] at e
    cases e
    rcases eqF_cases e1 with ⟨x, y, rfl, rfl, rfl⟩ | ⟨h1, h2, rfl⟩
    · cases r1; cases r2
      refine .inl ⟨rfl, ?_⟩
      have : decide (V.str x = V.str y) = decide (x = y) := by simp
      rw [this]
      exact q _ H G (New.refl s) (.bl _)
    · exact .inr ⟨d1, d2, r1.dp s (SeqAt.canLay_of_shaped h1), r2.dp s (SeqAt.canLay_of_shaped h2), h1, h2, q _ H G (New.refl s) (.bl _)⟩
def cmpI (p : Int → Int → Bool) : D → D → Option Bool
  | .int a, .int b => some (p a b)
  | _, _ => none
theorem p2_cmpI {K : PySem.W.Frag} (p : Int → Int → Bool) : P2 K (rI0 fun i j => .bl (p i j)) (cmpI p) PyData.bool := fun H G v1 v2 d1 d2 d Q s r1 r2 e q => by
  cases r1 with
  | int i =>
    cases r2 with
    | int j => cases e; exact ⟨i, j, rfl, rfl, q _ H G (New.refl s) (.bl _)⟩
    | _ => cases e
  | _ => cases e
abbrev ltF := cmpI fun i j => decide (i < j)
abbrev leF := cmpI fun i j => decide (i ≤ j)
abbrev gtF := cmpI fun i j => decide (j < i)
abbrev geF := cmpI fun i j => decide (j ≤ i)
/-- x in a list or tuple -/
def sc : D → Bool
  | .none | .bool _ | .int _ | .str _ => true
  | _ => false
/-- == of simple data -/
def eqS : D → D → Bool
  | .none, .none => true
  | .bool a, .bool b => a == b
  | .bool a, .int j => (if a then 1 else 0) == j
  | .int i, .bool b => i == (if b then 1 else 0)
  | .int i, .int j => i == j
  | .str x, .str y => x == y
  | _, _ => false
def inF (x : D) : D → Option Bool
  | .list ds => if sc x && ds.all sc then some (ds.any fun y => eqS y x) else if SeqAt.shaped x = true ∧ SeqAt.shaped (.list ds) = true then some (ds.any fun z => PyData.eqv z x) else none
  | .tuple ds => if sc x && ds.all sc then some (ds.any fun y => eqS y x) else none
  | _ => none
def ninF (x y : D) : Option Bool := (inF x y).map (!·)
theorem sc_flat {K : PySem.W.Frag} {G : Hp} {v : V} {d : D} (r : Rp K G v d) (h : sc d = true) : flatV v = true := by
  cases r <;> first | rfl | cases h
theorem sc_eq {K : PySem.W.Frag} {G : Hp} {v u : V} {d e : D} (r : Rp K G v d) (r' : Rp K G u e) (h : sc d = true) (h' : sc e = true) : eqV v u = eqS d e := by
  cases r <;> cases r' <;> first | rfl | (exact absurd h (by simp [sc])) | (exact absurd h' (by simp [sc]))
theorem sc_all {K : PySem.W.Frag} {G : Hp} : ∀ {vs : List V} {ds : List D}, RpL K G vs ds → ds.all sc = true → vs.all flatV = true
  | _, _, .nil, _ => rfl
  | _, _, .cons r t, h => by
    rw [List.all_cons, Bool.and_eq_true] at h ⊢
    exact ⟨sc_flat r h.1, sc_all t h.2⟩
theorem sc_any {K : PySem.W.Frag} {G : Hp} {v : V} {d : D} (r : Rp K G v d) (h : sc d = true) : ∀ {vs : List V} {ds : List D}, RpL K G vs ds → ds.all sc = true → inV v vs = ds.any fun y => eqS y d
  | _, _, .nil, _ => rfl
  | _, _, .cons r' t, h' => by
    rw [List.all_cons, Bool.and_eq_true] at h'
    have ih := sc_any r h t h'.2
    unfold inV at ih ⊢
    rw [List.any_cons, List.any_cons, sc_eq r' r h'.1 h, ih]
def rInA (K : PySem.W.Frag) : R2 := fun x y H Q => rIn K false x y H Q ∨ rInD K x y H Q
def rNinA (K : PySem.W.Frag) : R2 := fun x y H Q => rIn K true x y H Q ∨ rNotInD K x y H Q
section
variable {X : Cx}
theorem op_inA (hu : X.A.units + 65 < cLine) : OpR X (compareOp .In) (rInA X.K) := op_in_seq.or (op_inD hu)
theorem op_ninA (hu : X.A.units + 65 < cLine) : OpR X (compareOp .NotIn) (rNinA X.K) := op_notIn_seq.or (op_notInD hu)
end
theorem p2_in_aux {K : PySem.W.Frag} {neg : Bool} {H G : Hp} {v1 v2 : V} {d1 d2 : D} {b : Bool} {Q : VK} (s : Sub G H) (r1 : Rp K G v1 d1) (r2 : Rp K G v2 d2) (e : inF d1 d2 = some b) (q : Q (.bl (if neg then !b else b)) H) :
    rIn K neg v1 v2 H Q ∨ (∃ d ds, Dp K H v1 d ∧ Dp K H v2 (.list ds) ∧ SeqAt.shaped d = true ∧ SeqAt.shaped (.list ds) = true ∧ Q (.bl (if neg then !(ds.any fun z => PyData.eqv z d) else (ds.any fun z => PyData.eqv z d))) H) := by
  cases r2 with
  | @lst a vs ds h1 h2 =>
    simp only [inF] at e
    split at e
    · rename_i h
      rw [Bool.and_eq_true] at h
      cases e
      refine .inl ⟨a, vs, rfl, .inl (SqL.of (s _ _ h1)), sc_flat r1 h.1, sc_all h2 h.2, ?_⟩
      rw [sc_any r1 h.1 h2 h.2]; exact q
    · split at e
      · rename_i h
        cases e
        exact .inr ⟨d1, ds, r1.dp s (SeqAt.canLay_of_shaped h.1), Rp.dp s (.lst h1 h2) (SeqAt.canLay_of_shaped h.2), h.1, h.2, q⟩
      · cases e
  | @tup a vs ds h1 h2 =>
    simp only [inF] at e
    split at e
    · rename_i h
      rw [Bool.and_eq_true] at h
      cases e
      refine .inl ⟨a, vs, rfl, .inr (s.seq h1), sc_flat r1 h.1, sc_all h2 h.2, ?_⟩
      rw [sc_any r1 h.1 h2 h.2]; exact q
    · cases e
  | _ => cases e
theorem p2_in {K : PySem.W.Frag} : P2 K (rInA K) inF PyData.bool := fun H G v1 v2 d1 d2 d Q s r1 r2 e q => by
  rcases p2_in_aux (neg := false) (Q := Q) s r1 r2 e (q _ H G (New.refl s) (.bl _)) with h | ⟨d, ds, a1, a2, a3, a4, a5⟩
  · exact .inl h
  · exact .inr ⟨d, ds, a1, a2, a3, a4, a5⟩
theorem p2_nin {K : PySem.W.Frag} : P2 K (rNinA K) ninF PyData.bool := fun H G v1 v2 d1 d2 d Q s r1 r2 e q => by
  unfold ninF at e
  cases e1 : inF d1 d2 with
  | none => rw [e1] at e; cases e
  | some t =>
    rw [e1] at e
    cases e
    rcases p2_in_aux (neg := true) (Q := Q) s r1 r2 e1 (q _ H G (New.refl s) (.bl _)) with h | ⟨d, ds, a1, a2, a3, a4, a5⟩
    · exact .inl h
    · exact .inr ⟨d, ds, a1, a2, a3, a4, a5⟩
/-- is None -/
def isN : D → Bool
  | .none => true
  | _ => false
theorem rp_isN {K : PySem.W.Frag} {G : Hp} {v : V} {d : D} (r : Rp K G v d) : decide (v = .non) = isN d := by
  cases r <;> rfl
def isNF : D → D → Option Bool
  | d, .none => some (isN d)
  | _, _ => none
def notNF : D → D → Option Bool
  | d, .none => some (!isN d)
  | _, _ => none
theorem p2_isN {K : PySem.W.Frag} : P2 K (fun x y H Q => y = .non ∧ Q (.bl (decide (x = .non))) H) isNF PyData.bool := fun H G v1 v2 d1 d2 d Q s r1 r2 e q => by
  cases r2 with
  | non =>
    cases e
    exact ⟨rfl, by rw [rp_isN r1]; exact q _ H G (New.refl s) (.bl _)⟩
  | _ => cases e
theorem p2_notN {K : PySem.W.Frag} : P2 K (fun x y H Q => y = .non ∧ Q (.bl (!decide (x = .non))) H) notNF PyData.bool := fun H G v1 v2 d1 d2 d Q s r1 r2 e q => by
  cases r2 with
  | non =>
    cases e
    exact ⟨rfl, by rw [rp_isN r1]; exact q _ H G (New.refl s) (.bl _)⟩
  | _ => cases e
end Cl

set_option Elab.async false
set_option linter.all false
set_option maxRecDepth 100000
set_option maxHeartbeats 4000000
/-! the clean layer, part I: items, slices, built-in calls, methods -/
namespace Cl
open PySem PySem.Spec PyProof.Rows L2
open MO

/-! ### items -/
def eqK : D → D → Bool
  | .int a, .int b => decide (a = b)
  | .str a, .str b => decide (a = b)
  | _, _ => false
def keyOf : D → Option Key
  | .int a => some (.inl a)
  | .str a => some (.inr a)
  | _ => none
def getD : List (D × D) → D → Option D
  | [], _ => none
  | (k, v) :: r, y => if eqK k y = true then some v else getD r y
theorem kD_eq (k k' : Key) : eqK (kD k) (kD k') = decide (k = k') := by
  cases k <;> cases k' <;> simp [kD, eqK]
theorem rpk_get {K : PySem.W.Frag} {G : Hp} {k : Key} : ∀ {kvs : List (Key × V)} {ds : List (D × D)}, RpK K G kvs ds → (∀ d, getD ds (kD k) = some d → ∃ v, valV kvs k = some v ∧ Rp K G v d) ∧ (getD ds (kD k) = none → valV kvs k = none)
  | _, _, .nil => ⟨fun d h => (by cases h), fun _ => rfl⟩
  | _, _, .cons (k := k') r t => by
    obtain ⟨h1, h2⟩ := rpk_get (k := k) t
    unfold getD valV
    rw [kD_eq, List.find?_cons]
    by_cases e : k' = k
    · subst e
      rw [decide_eq_true rfl]
      simp only [if_true, decide_true]
      exact ⟨fun d h => (by cases h; exact ⟨_, rfl, r⟩), fun h => (by cases h)⟩
    · rw [decide_eq_false e]
      simp only [Bool.false_eq_true, if_false, decide_eq_false e]
      exact ⟨h1, h2⟩
theorem key_rp {K : PySem.W.Frag} {G : Hp} {v : V} {d : D} {k : Key} (r : Rp K G v d) (h : keyOf d = some k) : v = kV k ∧ d = kD k := by
  cases r <;> first | (have h' := Option.some.inj h; subst h'; exact ⟨rfl, rfl⟩) | (exact absurd h (by simp [keyOf]))
def ixF : D → D → Option D
  | .list xs, .int i => atI xs i
  | .tuple xs, .int i => atI xs i
  | .str z, .int i => if z.length ≤ sizeLine then (atI z.cps.toList i).map fun c => .str ⟨#[c]⟩ else none
  | .dict kvs, y => match keyOf y with
    | some _ => getD kvs y
    | none => none
  | _, _ => none
def rIxD : R2 := fun x y H Q => ∃ a v, x = .ref a ∧ DGet H a y (some v) ∧ Q v H
theorem ix_dict {X : Cx} (hu : X.A.units + 1 < cLine) : IxR X rIxD := by
  intro value slice pins s σ H x y v u Q I rx ry h hs
  obtain ⟨a, z, rfl, g, q⟩ := h
  cases rx
  exact tail_any (dict_typeIs I g) PySem.F.slot_dict_getitem.lookup (d_getItem hu I g ry fun w' s' I' r' => ⟨z, H, I', r', q⟩) hs
def rIxA (K : PySem.W.Frag) : R2 := fun x y H Q => rIx K x y H Q ∨ rIxD x y H Q
theorem ix_all {X : Cx} (hu : X.A.units + 1 < cLine) : IxR X (rIxA X.K) := ix_seq.or (ix_dict hu)
theorem atI_rp {K : PySem.W.Frag} {G : Hp} {vs : List V} {ds : List D} {i : Int} {d : D} (r : RpL K G vs ds) (h : atI ds i = some d) : ∃ v, atI vs i = some v ∧ Rp K G v d := by
  unfold atI at h ⊢
  rw [r.length]
  cases e : ixN ds.length i with
  | none => rw [e] at h; cases h
  | some j =>
    rw [e] at h
    exact r.get h
theorem p2_ix {K : PySem.W.Frag} : P2 K (rIxA K) ixF (fun d => d) := fun H G v1 v2 d1 d2 d Q s r1 r2 e q => by
  cases r1 with
  | @lst a vs ds h1 h2 =>
    cases r2 with
    | int i =>
      obtain ⟨v, e1, e2⟩ := atI_rp h2 (show atI ds i = some d from e)
      exact .inl (.inl ⟨a, vs, i, v, rfl, rfl, SqL.of (s _ _ h1), e1, q v H G (New.refl s) e2⟩)
    | _ => cases e
  | @tup a vs ds h1 h2 =>
    cases r2 with
    | int i =>
      obtain ⟨v, e1, e2⟩ := atI_rp h2 (show atI ds i = some d from e)
      exact .inl (.inr (.inl ⟨a, vs, i, v, rfl, rfl, s.seq h1, e1, q v H G (New.refl s) e2⟩))
    | _ => cases e
  | str z =>
    cases r2 with
    | int i =>
      simp only [ixF] at e
      split at e
      · rename_i hz
        obtain ⟨c, e1, rfl⟩ := Option.map_eq_some_iff.mp e
        exact .inl (.inr (.inr ⟨z, i, c, rfl, rfl, hz, e1, q _ H G (New.refl s) (.str _)⟩))
      · cases e
    | _ => cases e
  | @dct a kvs ds h1 h2 =>
    have e' : (match keyOf d2 with | some _ => getD ds d2 | none => none) = some d := e
    cases hk : keyOf d2 with
    | none => rw [hk] at e'; cases e'
    | some k =>
      rw [hk] at e'
      obtain ⟨rfl, rfl⟩ := key_rp r2 hk
      obtain ⟨v, h3, h4⟩ := (rpk_get (k := k) h2).1 d e'
      refine .inr ⟨a, v, rfl, ?_, q v H G (New.refl s) h4⟩
      rw [← h3]
      exact DGet.k (s _ _ h1)
  | _ => cases e
section
variable {γ : Type} {m : Type → Type} [PM γ m] {C : Cc γ} {X : Cx} {ρ : En} {α β : Type}
theorem ce_ix {a b : Expr} {pos : Pos} {x : m β} {x2 : D → m β} {k : D → m β} (hu : X.A.units + 1 < cLine) (hb : ∀ d1, CE C X ρ b dv (x2 d1) (fun d2 => bnd (need (ixF d1 d2)) k)) (ha : CE C X ρ a dv x x2) (hs : PlainIx b := by intro _ _; rfl) :
    CE C X ρ (.Subscript a b pos) dv x k := fun Qf =>
  PE.imp (pe_ix (ix_all hu) (ha Qf) (PE.ex fun d1 => hb d1 Qf) hs) fun σ H Q ⟨G, J, g, st, w, h⟩ => by
    refine ⟨G, J, g, st, w, fun v1 d1 H1 G1 J1 g1 af1 si1 r1 w1 => ⟨d1, G1, J1, g1, st.go af1 si1, w1, fun v2 d2 H2 G2 J2 g2 af2 si2 r2 w2 => ?_⟩⟩
    obtain ⟨d, e, w3⟩ := of_need w2
    exact p2_ix H2 G2 v1 v2 d1 d2 d Q af2.vis.sub (Rp.sub af2.gg r1) r2 e fun v H' G' n rr => h v d H' G' J2 g2 ((af1.trans af2).trans (n.aft af2.vis)) (SIx.nw si2 n) rr w3

/-! ### slices -/
def asI : D → Option Int
  | .int i => some i
  | _ => none
def CO {β : Type} (C : Cc γ) (X : Cx) (ρ : En) (e : Option Expr) (x : m β) (k : Option Int → m β) : Prop :=
  ∀ Qf : β → γ → Prop, PO X e (fun σ H Q => ∃ G J g, C.St X.K ρ σ H G J g ∧ PM.wp x g Qf C.EX ∧
    ∀ i H' G' J' g', Aft G J H G' J' H' → C.S.si g' G' J' H' → PM.wp (k i) g' Qf C.EX → Q i H')
theorem PO.imp {X : Cx} {e : Option Expr} {t t' : TO} (h : PO X e t) (i : ∀ σ H Q, t' σ H Q → t σ H Q) : PO X e t' := ⟨fun pins s σ H Q I q => h.run pins s σ H Q I (i σ H Q q)⟩
theorem PO.ex {X : Cx} {e : Option Expr} {ι : Type} {t : ι → TO} (h : ∀ i, PO X e (t i)) : PO X e (fun σ H Q => ∃ i, t i σ H Q) := ⟨fun pins s σ H Q I ⟨i, q⟩ => (h i).run pins s σ H Q I q⟩
theorem co_none {k : Option Int → m β} : CO C X ρ none (k none) k := fun Qf => PO.imp po_none fun σ H Q ⟨G, J, g, st, w, h⟩ => h none H G J g (Aft.refl st.vis) st.si w
theorem co_some {e : Expr} {x : m β} {k : Option Int → m β} (he : CE C X ρ e dv x (fun d => bnd (need (asI d)) fun i => k (some i))) : CO C X ρ (some e) x k := fun Qf =>
  PO.imp (po_some (he Qf)) fun σ H Q ⟨G, J, g, st, w, h⟩ => ⟨G, J, g, st, w, fun v d H' G' J' g' af si rr w' => by
    obtain ⟨i, e, w2⟩ := of_need w'
    cases rr with
    | int _ => cases e; exact ⟨_, rfl, h _ H' G' J' g' af si w2⟩
    | _ => cases e⟩
def cutD (xs : List D) (lo hi : Option Int) : List D := (xs.drop (HT.sIx xs.length 0 lo)).take (HT.sIx xs.length xs.length hi - HT.sIx xs.length 0 lo)
def slF (d : D) (lo hi : Option Int) : Option D := match d with
  | .list xs => some (.list (cutD xs lo hi))
  | .tuple xs => some (.tuple (cutD xs lo hi))
  | .str z => if z.length ≤ sizeLine then some (.str (cutS z lo hi)) else none
  | _ => none
def rSlAll (K : PySem.W.Frag) : V → Option Int → Option Int → Hp → VK → Prop := fun x lo hi H Q => rSlL K x lo hi H Q ∨ (rSlA K x lo hi H Q ∨ rSlS x lo hi H Q)
theorem sl_all : SlR X (rSlAll X.K) := sl_list.or (sl_tupA.or sl_str)
theorem cut_rp {K : PySem.W.Frag} {G : Hp} {vs : List V} {ds : List D} {lo hi : Option Int} (r : RpL K G vs ds) : RpL K G (cutV vs lo hi) (cutD ds lo hi) := by
  unfold cutV cutD
  rw [r.length]
  exact (r.drop _).take _
theorem cut_whole {xs : List D} {lo hi : Option Int} (h : HT.sIx xs.length 0 lo = 0 ∧ HT.sIx xs.length xs.length hi = xs.length) : cutD xs lo hi = xs := by
  unfold cutD
  rw [h.1, h.2, Nat.sub_zero, List.drop_zero, List.take_length]
theorem sl_rp {K : PySem.W.Frag} {H G : Hp} {v : V} {d d' : D} {lo hi : Option Int} {Q : VK} (s : Sub G H) (r : Rp K G v d) (e : slF d lo hi = some d') (q : ∀ v H' G', New G H G' H' → Rp K G' v d' → Q v H') : rSlAll K v lo hi H Q := by
  cases r with
  | @lst a vs ds h1 h2 =>
    cases e
    exact .inl ⟨a, vs, rfl, SqL.of (s _ _ h1), fun p hp => q _ _ _ (New.laid s hp) (rp_new s hp (cut_rp h2))⟩
  | @tup a vs ds h1 h2 =>
    cases e
    refine .inr (.inl ⟨a, vs, rfl, s.seq h1, fun z => ?_, fun _ p hp => q _ _ _ (New.laid s hp) (rp_newT s hp (cut_rp h2))⟩)
    rw [h2.length] at z
    refine q _ H G (New.refl s) ?_
    rw [cut_whole z]
    exact .tup h1 h2
  | str z =>
    simp only [slF] at e
    split at e
    · rename_i hz
      cases e
      exact .inr (.inr ⟨z, rfl, hz, q _ H G (New.refl s) (.str _)⟩)
    · cases e
  | _ => cases e
theorem ce_slice {e : Expr} {lo hi : Option Expr} {p2 pos : Pos} {x : m β} {x1 : D → m β} {x2 : D → Option Int → m β} {k : D → m β} (hh : ∀ d l, CO C X ρ hi (x2 d l) (fun u => bnd (need (slF d l u)) k)) (hl : ∀ d, CO C X ρ lo (x1 d) (x2 d)) (he : CE C X ρ e dv x x1) :
    CE C X ρ (.Subscript e (.Slice lo hi none p2) pos) dv x k := fun Qf =>
  PE.imp (pe_slice sl_all (he Qf) (PO.ex fun d => hl d Qf) (PO.ex fun d => PO.ex fun l => hh d l Qf)) fun σ H Q ⟨G, J, g, st, w, h⟩ => ⟨G, J, g, st, w, fun v d H1 G1 J1 g1 af1 si1 rr w1 =>
    ⟨d, G1, J1, g1, st.go af1 si1, w1, fun l H2 G2 J2 g2 af2 si2 w2 => ⟨d, l, G2, J2, g2, (st.go af1 si1).go af2 si2, w2, fun u H3 G3 J3 g3 af3 si3 w3 => by
      obtain ⟨d', e1, w4⟩ := of_need w3
      have af := (af1.trans af2).trans af3
      exact sl_rp af3.vis.sub (Rp.sub (af2.trans af3).gg rr) e1 fun v' H' G' n r' => h v' d' H' G' J3 g3 (af.trans (n.aft af3.vis)) (SIx.nw si3 n) r' w4⟩⟩⟩

/-! ### built-in calls -/
def PC (K : PySem.W.Frag) (r : List V → Hp → VK → Prop) (p : List D → Option α) (rk : α → D) : Prop := ∀ (H G : Hp) (vs : List V) (ds : List D) (d : α) (Q : VK), Sub G H → RpL K G vs ds → p ds = some d →
  (∀ v H' G', New G H G' H' → Rp K G' v (rk d) → Q v H') → r vs H Q
def PCL (K : PySem.W.Frag) (r : List V → Hp → VK → Prop) (p : List D → Option (List D)) : Prop := ∀ (H G : Hp) (vs : List V) (ds xs : List D) (Q : VK), Sub G H → RpL K G vs ds → p ds = some xs →
  (∀ q us, H q = none → RpL K G us xs → Q (.ref q) (upd H q (.lst us))) → r vs H Q
theorem PCL.to {K : PySem.W.Frag} {r : List V → Hp → VK → Prop} {p : List D → Option (List D)} (h : PCL K r p) : PC K r p PyData.list := fun H G vs ds d Q s rl e hq =>
  h H G vs ds d Q s rl e fun q vs hn rl => hq _ _ _ (New.laid s hn) (rp_new s hn rl)
theorem ce_blt {id : String} {r : List V → Hp → VK → Prop} {p : List D → Option α} {rk : α → D} {f : Str} {p1 pos : Pos} {e : Expr} {es : List Expr} {x : m β} {k : α → m β} (hc : CallR X (.builtin id) r) (hp : PC X.K r p rk) (hm : X.mg f = none) (hv : bootBuiltins f = some (.builtin id))
    (ha : CD C X ρ (e :: es) x (fun ds => bnd (need (p ds)) k)) (hg : Gl X f := by rfl) (hn : f ≠ "__name__" := by decide) (hdb : (f == ("__debug__" : Str)) = false := by decide)
    (he : starEach (e :: es) X.env = (false, eval e X.env) :: starEach es X.env := by rfl) (hpl : (backTo pos (starEach es X.env)).any (·.1) = false := by rfl) : CE C X ρ (.Call (.Name f p1) (e :: es) [] pos) (fun a => .v (rk a)) x k := fun Qf =>
  PE.imp (pe_callB hc hg hm hv (ha Qf) hn hdb he hpl) fun σ H Q ⟨G, J, g, st, w, h⟩ => ⟨G, J, g, st, w, fun vs ds H1 G1 J1 g1 af1 si1 rl hl w1 => by
    obtain ⟨d, e1, w2⟩ := of_need w1
    exact hp H1 G1 vs ds d Q af1.vis.sub rl e1 fun v H' G' n rr => h v d H' G' J1 g1 (af1.trans (n.aft af1.vis)) (SIx.nw si1 n) rr w2⟩
theorem ce_bltL {id : String} {r : List V → Hp → VK → Prop} {p : List D → Option (List D)} {f : Str} {p1 pos : Pos} {e : Expr} {es : List Expr} {x : m β} {k : List D → m β} (hc : CallR X (.builtin id) r) (hp : PCL X.K r p) (hm : X.mg f = none) (hv : bootBuiltins f = some (.builtin id))
    (ha : CD C X ρ (e :: es) x (fun ds => bnd (need (p ds)) k)) (hg : Gl X f := by rfl) (hn : f ≠ "__name__" := by decide) (hdb : (f == ("__debug__" : Str)) = false := by decide)
    (he : starEach (e :: es) X.env = (false, eval e X.env) :: starEach es X.env := by rfl) (hpl : (backTo pos (starEach es X.env)).any (·.1) = false := by rfl) : CE C X ρ (.Call (.Name f p1) (e :: es) [] pos) lv x k := fun Qf =>
  PE.imp (pe_callB hc hg hm hv (ha Qf) hn hdb he hpl) fun σ H Q ⟨G, J, g, st, w, h⟩ => ⟨G, J, g, st, w, fun vs ds H1 G1 J1 g1 af1 si1 rl hl w1 => by
    obtain ⟨d, e1, w2⟩ := of_need w1
    refine hp H1 G1 vs ds d Q af1.vis.sub rl e1 fun q us hq rl' => ?_
    have n : New G1 H1 G1 (upd H1 q (.lst us)) := New.own af1.vis.sub hq
    exact h _ d _ G1 J1 g1 (af1.trans (n.aft af1.vis)) (SIx.nw si1 n) ⟨q, rfl, af1.back q hq, none_of_sub af1.vis.sub hq, fun j => af1.vis.dom q j hq, us, upd_same, rl'⟩ w2⟩
theorem ce_ty {T : String} {r : List V → Hp → VK → Prop} {p : List D → Option α} {rk : α → D} {f : Str} {p1 pos : Pos} {e : Expr} {es : List Expr} {x : m β} {k : α → m β} (hc : CallR X (.type T) r) (hp : PC X.K r p rk) (hm : X.mg f = none) (hv : bootBuiltins f = some (.type T))
    (ha : CD C X ρ (e :: es) x (fun ds => bnd (need (p ds)) k)) (hg : Gl X f := by rfl) (hn : f ≠ "__name__" := by decide) (hdb : (f == ("__debug__" : Str)) = false := by decide)
    (he : starEach (e :: es) X.env = (false, eval e X.env) :: starEach es X.env := by rfl) (hpl : (backTo pos (starEach es X.env)).any (·.1) = false := by rfl) : CE C X ρ (.Call (.Name f p1) (e :: es) [] pos) (fun a => .v (rk a)) x k := fun Qf =>
  PE.imp (pe_callTy hc hg hm hv (ha Qf) hn hdb he hpl) fun σ H Q ⟨G, J, g, st, w, h⟩ => ⟨G, J, g, st, w, fun vs ds H1 G1 J1 g1 af1 si1 rl hl w1 => by
    obtain ⟨d, e1, w2⟩ := of_need w1
    exact hp H1 G1 vs ds d Q af1.vis.sub rl e1 fun v H' G' n rr => h v d H' G' J1 g1 (af1.trans (n.aft af1.vis)) (SIx.nw si1 n) rr w2⟩
theorem ce_tyL {T : String} {r : List V → Hp → VK → Prop} {p : List D → Option (List D)} {f : Str} {p1 pos : Pos} {e : Expr} {es : List Expr} {x : m β} {k : List D → m β} (hc : CallR X (.type T) r) (hp : PCL X.K r p) (hm : X.mg f = none) (hv : bootBuiltins f = some (.type T))
    (ha : CD C X ρ (e :: es) x (fun ds => bnd (need (p ds)) k)) (hg : Gl X f := by rfl) (hn : f ≠ "__name__" := by decide) (hdb : (f == ("__debug__" : Str)) = false := by decide)
    (he : starEach (e :: es) X.env = (false, eval e X.env) :: starEach es X.env := by rfl) (hpl : (backTo pos (starEach es X.env)).any (·.1) = false := by rfl) : CE C X ρ (.Call (.Name f p1) (e :: es) [] pos) lv x k := fun Qf =>
  PE.imp (pe_callTy hc hg hm hv (ha Qf) hn hdb he hpl) fun σ H Q ⟨G, J, g, st, w, h⟩ => ⟨G, J, g, st, w, fun vs ds H1 G1 J1 g1 af1 si1 rl hl w1 => by
    obtain ⟨d, e1, w2⟩ := of_need w1
    refine hp H1 G1 vs ds d Q af1.vis.sub rl e1 fun q us hq rl' => ?_
    have n : New G1 H1 G1 (upd H1 q (.lst us)) := New.own af1.vis.sub hq
    exact h _ d _ G1 J1 g1 (af1.trans (n.aft af1.vis)) (SIx.nw si1 n) ⟨q, rfl, af1.back q hq, none_of_sub af1.vis.sub hq, fun j => af1.vis.dom q j hq, us, upd_same, rl'⟩ w2⟩
end
def lenF : List D → Option Int
  | [.str s] => if s.length ≤ sizeLine then some (s.length : Nat) else none
  | [.list xs] => some (xs.length : Nat)
  | [.tuple xs] => some (xs.length : Nat)
  | _ => none
theorem pc_len {K : PySem.W.Frag} : PC K (fun xs H Q => ∃ x n, xs = [x] ∧ LenV K x H n ∧ Q (.int n) H) lenF PyData.int := fun H G vs ds d Q s rl e q => by
  cases rl with
  | nil => cases e
  | @cons v vs d1 ds r1 r2 =>
    cases r2 with
    | cons _ _ => cases d1 <;> cases e
    | nil =>
      cases r1 with
      | str z =>
        simp only [lenF] at e
        split at e
        · rename_i hz
          cases e
          exact ⟨_, z.length, rfl, ⟨hz, rfl⟩, q _ H G (New.refl s) (.int _)⟩
        · cases e
      | @lst a us xs h1 h2 =>
        cases e
        exact ⟨_, us.length, rfl, .inl ⟨us, SqL.of (s _ _ h1), rfl⟩, by rw [h2.length]; exact q _ H G (New.refl s) (.int _)⟩
      | @tup a us xs h1 h2 =>
        cases e
        exact ⟨_, us.length, rfl, .inr ⟨us, s.seq h1, rfl⟩, by rw [h2.length]; exact q _ H G (New.refl s) (.int _)⟩
      | _ => cases e
def itemsF : List D → Option (List D)
  | [.list xs] => some xs
  | [.tuple xs] => some xs
  | _ => none
theorem pcl_list {K : PySem.W.Frag} : PCL K (fun xs H Q => ∃ p ys, xs = [.ref p] ∧ (SqL K H p ys ∨ SqT K H p ys) ∧ ∀ l, H l = none → Q (.ref l) (upd H l (.lst ys))) itemsF := fun H G vs ds xs Q s rl e q => by
  cases rl with
  | nil => cases e
  | @cons v vs d1 ds r1 r2 =>
    cases r2 with
    | cons _ _ => cases d1 <;> cases e
    | nil =>
      cases r1 with
      | @lst a us ys h1 h2 => cases e; exact ⟨a, us, rfl, .inl (SqL.of (s _ _ h1)), fun l hl => q l us hl h2⟩
      | @tup a us ys h1 h2 => cases e; exact ⟨a, us, rfl, .inr (s.seq h1), fun l hl => q l us hl h2⟩
      | _ => cases e
theorem pc_tuple {K : PySem.W.Frag} : PC K (fun xs H Q => ∃ p ys, xs = [.ref p] ∧ ((SqL K H p ys ∧ ∀ l, H l = none → Q (.ref l) (upd H l (.tup ys))) ∨ (SqT K H p ys ∧ Q (.ref p) H))) itemsF PyData.tuple := fun H G vs ds xs Q s rl e q => by
  cases rl with
  | nil => cases e
  | @cons v vs d1 ds r1 r2 =>
    cases r2 with
    | cons _ _ => cases d1 <;> cases e
    | nil =>
      cases r1 with
      | @lst a us ys h1 h2 => cases e; exact ⟨a, us, rfl, .inl ⟨SqL.of (s _ _ h1), fun l hl => q _ _ _ (New.laid s hl) (rp_newT s hl h2)⟩⟩
      | @tup a us ys h1 h2 => cases e; exact ⟨a, us, rfl, .inr ⟨s.seq h1, q _ H G (New.refl s) (.tup h1 h2)⟩⟩
      | _ => cases e
def min2F : List D → Option Int
  | [.int i, .int j] => some (if j < i then j else i)
  | _ => none
theorem pc_min2 {K : PySem.W.Frag} : PC K (fun xs H Q => ∃ i j, xs = [.int i, .int j] ∧ Q (.int (if j < i then j else i)) H) min2F PyData.int := fun H G vs ds d Q s rl e q => by
  match ds, e with
  | [.int i, .int j], e =>
    cases e
    cases rl with
    | cons r1 r2 =>
      cases r2 with
      | cons r3 r4 =>
        cases r1; cases r3; cases r4
        exact ⟨i, j, rfl, q _ H G (New.refl s) (.int _)⟩
def absF : List D → Option Int
  | [.int i] => some (if i < 0 then -i else i)
  | _ => none
theorem pc_abs {K : PySem.W.Frag} : PC K (fun xs H Q => ∃ i, xs = [.int i] ∧ Q (.int (if i < 0 then -i else i)) H) absF PyData.int := fun H G vs ds d Q s rl e q => by
  match ds, e with
  | [.int i], e =>
    cases e
    cases rl with
    | cons r1 r2 =>
      cases r1; cases r2
      exact ⟨_, rfl, q _ H G (New.refl s) (.int _)⟩
def intF : List D → Option Int
  | [.int i] => some i
  | [.bool k] => some (if k then 1 else 0)
  | _ => none
theorem pc_int {K : PySem.W.Frag} : PC K (fun xs H Q => (∃ i, xs = [.int i] ∧ Q (.int i) H) ∨ ∃ k, xs = [.bl k] ∧ Q (.int (if k then 1 else 0)) H) intF PyData.int := fun H G vs ds d Q s rl e q => by
  match ds, e with
  | [.int i], e =>
    cases e
    cases rl with
    | cons r1 r2 =>
      cases r1; cases r2
      exact .inl ⟨_, rfl, q _ H G (New.refl s) (.int _)⟩
  | [.bool b], e =>
    cases e
    cases rl with
    | cons r1 r2 =>
      cases r1; cases r2
      exact .inr ⟨_, rfl, q _ H G (New.refl s) (.int _)⟩
def strF : List D → Option Str
  | [.int i] => if i.natAbs.log2 < 1920 then some (toString i) else none
  | [.str x] => some x
  | _ => none
def rStrF : List V → Hp → VK → Prop := fun xs H Q => (∃ i, xs = [.int i] ∧ i.natAbs.log2 < 1920 ∧ Q (.str (toString i)) H) ∨ (∃ a, xs = [.str a] ∧ Q (.str a) H)
theorem call_strF {X : Cx} : CallR X (.type "str") rStrF := call_str_int.or SkE.call_str_str
theorem pc_str {K : PySem.W.Frag} : PC K rStrF strF PyData.str := fun H G vs ds d Q s rl e q => by
  match ds, e with
  | [.int i], e =>
    simp only [strF] at e
    split at e
    · rename_i hz
      cases e
      cases rl with
      | cons r1 r2 =>
        cases r1; cases r2
        exact .inl ⟨_, rfl, hz, q _ H G (New.refl s) (.str _)⟩
    · cases e
  | [.str x], e =>
    cases e
    cases rl with
    | cons r1 r2 =>
      cases r1; cases r2
      exact .inr ⟨_, rfl, q _ H G (New.refl s) (.str _)⟩
def asInts : List D → Option (List Int)
  | [] => some []
  | .int i :: ds => (asInts ds).map (i :: ·)
  | _ => none
theorem rp_ints {K : PySem.W.Frag} {G : Hp} : ∀ {vs : List V} {ds : List D} {ns : List Int}, RpL K G vs ds → asInts ds = some ns → vs = ns.map V.int
  | _, _, _, .nil, e => by cases e; rfl
  | _, _, _, .cons (d := d) r t, e => by
    cases r with
    | int i =>
      obtain ⟨ms, e1, rfl⟩ := Option.map_eq_some_iff.mp (show (asInts _).map (i :: ·) = some _ from e)
      rw [rp_ints t e1]; rfl
    | _ => cases e
theorem rp_of_ints {K : PySem.W.Frag} {G : Hp} : ∀ (ns : List Int), RpL K G (ns.map V.int) (ns.map PyData.int)
  | [] => .nil
  | n :: ns => .cons (.int n) (rp_of_ints ns)
def sumF : List D → Option Int
  | [.list xs] => (asInts xs).map List.sum
  | _ => none
theorem pc_sum {K : PySem.W.Frag} : PC K (rSum K) sumF PyData.int := fun H G vs ds d Q s rl e q => by
  match ds, e with
  | [.list xs], e =>
    obtain ⟨ns, e1, rfl⟩ := Option.map_eq_some_iff.mp (show (asInts xs).map List.sum = some d from e)
    cases rl with
    | cons r1 r2 =>
      cases r2
      cases r1 with
      | @lst a us _ h1 h2 =>
        have := rp_ints h2 e1
        subst this
        exact ⟨a, ns, rfl, SqL.of (s _ _ h1), q _ H G (New.refl s) (.int _)⟩
def minL : List Int → Int
  | [] => 0
  | [a] => a
  | a :: r => if minL r < a then minL r else a
theorem minL_uniq : ∀ {ns : List Int} {k : Int}, k ∈ ns → (∀ y ∈ ns, k ≤ y) → minL ns = k
  | [], _, h, _ => by simp at h
  | [a], k, h, _ => by
    rw [List.mem_singleton] at h; rw [h]; rfl
  | a :: b :: r, k, h, hl => by
    unfold minL
    have hm : ∀ {l : List Int}, l ≠ [] → minL l ∈ l ∧ ∀ y ∈ l, minL l ≤ y := by
      intro l
      induction l with
      | nil => intro h; exact absurd rfl h
      | cons c t ih =>
        intro _
        cases t with
        | nil => exact ⟨by simp [minL], fun y hy => by rw [List.mem_singleton] at hy; rw [hy]; exact Int.le_refl _⟩
        | cons d u =>
          obtain ⟨i1, i2⟩ := ih (List.cons_ne_nil _ _)
          unfold minL
          split
          · rename_i hlt
            exact ⟨List.mem_cons_of_mem _ i1, fun y hy => by
              rcases List.mem_cons.mp hy with z | z
              · rw [z]; exact Int.le_of_lt hlt
              · exact i2 y z⟩
          · rename_i hlt
            exact ⟨List.mem_cons_self, fun y hy => by
              rcases List.mem_cons.mp hy with z | z
              · rw [z]; exact Int.le_refl _
              · exact Int.le_trans (Int.not_lt.mp hlt) (i2 y z)⟩
    obtain ⟨i1, i2⟩ := hm (List.cons_ne_nil b r)
    have hx := hl a List.mem_cons_self
    have hy := hl _ (List.mem_cons_of_mem _ i1)
    split
    · rename_i hlt
      rcases List.mem_cons.mp h with z | z
      · omega
      · have := i2 k z; omega
    · rename_i hlt
      rcases List.mem_cons.mp h with z | z
      · exact z.symm
      · have := i2 k z; omega
def minF : List D → Option Int
  | [.list xs] => match asInts xs with
    | some ns => if ns = [] then none else some (minL ns)
    | none => none
  | _ => none
theorem pc_min {K : PySem.W.Frag} : PC K (rMin K) minF PyData.int := fun H G vs ds d Q s rl e q => by
  match ds, e with
  | [.list xs], e =>
    simp only [minF] at e
    cases e1 : asInts xs with
    | none => rw [e1] at e; cases e
    | some ns =>
      rw [e1] at e
      dsimp only at e
      split at e
      · cases e
      · rename_i hne
        cases e
        cases rl with
        | cons r1 r2 =>
          cases r2
          cases r1 with
          | @lst a us _ h1 h2 =>
            have := rp_ints h2 e1
            subst this
            refine ⟨a, ns, rfl, SqL.of (s _ _ h1), List.length_pos_iff.mpr hne, fun k h1 h2 => ?_⟩
            rw [← minL_uniq h1 h2]
            exact q _ H G (New.refl s) (.int _)
def asBools : List D → Option (List Bool)
  | [] => some []
  | .bool i :: ds => (asBools ds).map (i :: ·)
  | _ => none
theorem rp_bools {K : PySem.W.Frag} {G : Hp} : ∀ {vs : List V} {ds : List D} {ns : List Bool}, RpL K G vs ds → asBools ds = some ns → vs = ns.map V.bl
  | _, _, _, .nil, e => by cases e; rfl
  | _, _, _, .cons (d := d) r t, e => by
    cases r with
    | bl i =>
      obtain ⟨ms, e1, rfl⟩ := Option.map_eq_some_iff.mp (show (asBools _).map (i :: ·) = some _ from e)
      rw [rp_bools t e1]; rfl
    | _ => cases e
def allF : List D → Option Bool
  | [.list xs] => (asBools xs).map (·.all id)
  | _ => none
def anyF : List D → Option Bool
  | [.list xs] => (asBools xs).map (·.any id)
  | _ => none
theorem pc_all {K : PySem.W.Frag} : PC K (rAll K) allF PyData.bool := fun H G vs ds d Q s rl e q => by
  match ds, e with
  | [.list xs], e =>
    obtain ⟨ns, e1, rfl⟩ := Option.map_eq_some_iff.mp (show (asBools xs).map (·.all id) = some d from e)
    cases rl with
    | cons r1 r2 =>
      cases r2
      cases r1 with
      | @lst a us _ h1 h2 =>
        have := rp_bools h2 e1
        subst this
        exact ⟨a, ns, rfl, SqL.of (s _ _ h1), q _ H G (New.refl s) (.bl _)⟩
theorem pc_any {K : PySem.W.Frag} : PC K (rAny K) anyF PyData.bool := fun H G vs ds d Q s rl e q => by
  match ds, e with
  | [.list xs], e =>
    obtain ⟨ns, e1, rfl⟩ := Option.map_eq_some_iff.mp (show (asBools xs).map (·.any id) = some d from e)
    cases rl with
    | cons r1 r2 =>
      cases r2
      cases r1 with
      | @lst a us _ h1 h2 =>
        have := rp_bools h2 e1
        subst this
        exact ⟨a, ns, rfl, SqL.of (s _ _ h1), q _ H G (New.refl s) (.bl _)⟩
end Cl

set_option Elab.async false
set_option linter.all false
set_option maxRecDepth 100000
set_option maxHeartbeats 4000000
/-! the clean layer, part J: binds, globals, isinstance, repr, texts, calls with keywords -/
namespace Cl
open PySem PySem.Spec PyProof.Rows L2
open MO

section
variable {γ : Type} {m : Type → Type} [PM γ m] {α β δ τ : Type} {C : Cc γ} {X : Cx} {ρ : En}
/-! ### what is worked out apart -/
theorem ce_bnd {e : Expr} {rk : α → R} {x : m α} {k : α → m β} (h : CE C X ρ e rk x pur) : CE C X ρ e rk (bnd x k) k := fun Qf =>
  PE.imp (h fun a g' => PM.wp (k a) g' Qf C.EX) fun σ H Q ⟨G, J, g, st, w, q⟩ => ⟨G, J, g, st, PM.of_bnd w, fun v a H' G' J' g' af si rr w' => q v a H' G' J' g' af si rr (by have z := PM.of_pur w'; exact z)⟩
theorem ct_bnd {e : Expr} {x : m Bool} {k : Bool → m β} (h : CT C X ρ e x pur) : CT C X ρ e (bnd x k) k := fun Qf =>
  PT.imp (h fun a g' => PM.wp (k a) g' Qf C.EX) fun σ H Q ⟨G, J, g, st, w, q⟩ => ⟨G, J, g, st, PM.of_bnd w, fun b H' G' J' g' af si w' => q b H' G' J' g' af si (by have z := PM.of_pur w'; exact z)⟩
/-! ### a name of the module -/
def Glo (K : PySem.W.Frag) (mg : Str → Option Value) (x : Str) (d : D) : Prop := ∃ u v, mg x = some u ∧ RelV v u ∧ ∀ G, Rp K G v d
theorem ce_glob {x : Str} {pos : Pos} {d : D} {k : D → m β} (h : Glo X.K X.mg x d) (hg : Gl X x := by rfl) (hd : (x == ("__debug__" : Str)) = false := by decide) : CE C X ρ (.Name x pos) dv (k d) k := by
  obtain ⟨u, v, hm, r, hr⟩ := h
  exact ce_c (pe_glob hg hm r hd) hr
end
def asStrs : List D → Option (List Str)
  | [] => some []
  | .str x :: r => (asStrs r).map (x :: ·)
  | _ => none
theorem rp_strs {K : PySem.W.Frag} {G : Hp} : ∀ {vs : List V} {ds : List D} {ns : List Str}, RpL K G vs ds → asStrs ds = some ns → vs = ns.map V.str
  | _, _, _, .nil, e => by cases e; rfl
  | _, d :: ds, ns, .cons r t, e => by
    cases r with
    | str x =>
      unfold asStrs at e
      cases q : asStrs ds with
      | none => simp [q] at e
      | some z =>
        simp [q] at e
        subst e
        rw [rp_strs t q]
        rfl
    | _ => cases e
theorem rp_of_strs {K : PySem.W.Frag} {G : Hp} : ∀ (ns : List Str), RpL K G (ns.map V.str) (ns.map PyData.str)
  | [] => .nil
  | x :: r => .cons (.str x) (rp_of_strs r)

/-! ### isinstance(x, T), T the name of a built-in type -/
def isT : String → D → Bool
  | "str", .str _ => true
  | "int", .int _ => true
  | "int", .bool _ => true
  | "bool", .bool _ => true
  | "list", .list _ => true
  | "tuple", .tuple _ => true
  | "dict", .dict _ => true
  | _, _ => false
def tyN : D → String
  | .none => "NoneType"
  | .bool _ => "bool"
  | .int _ => "int"
  | .str _ => "str"
  | .list _ => "list"
  | .tuple _ => "tuple"
  | .dict _ => "dict"
def KitOk (T : String) : Prop := kitB "NoneType" T = some (isT T .none) ∧ kitB "bool" T = some (isT T (.bool true)) ∧ kitB "int" T = some (isT T (.int 0)) ∧ kitB "str" T = some (isT T (.str Str.empty)) ∧ kitB "list" T = some (isT T (.list [])) ∧ kitB "tuple" T = some (isT T (.tuple [])) ∧ kitB "dict" T = some (isT T (.dict []))
theorem kit_str : KitOk "str" := by unfold KitOk; decide +kernel
theorem kit_int : KitOk "int" := by unfold KitOk; decide +kernel
theorem kit_bool : KitOk "bool" := by unfold KitOk; decide +kernel
theorem kit_list : KitOk "list" := by unfold KitOk; decide +kernel
theorem kit_tuple : KitOk "tuple" := by unfold KitOk; decide +kernel
theorem kit_dict : KitOk "dict" := by unfold KitOk; decide +kernel
theorem KitOk.at {T : String} (k : KitOk T) (hT : T ∈ ["str", "int", "bool", "list", "tuple", "dict"]) (d : D) : kitB (tyN d) T = some (isT T d) := by
  obtain ⟨a, b, c, d', e, f, g⟩ := k
  simp only [List.mem_cons, List.not_mem_nil, or_false] at hT
  rcases hT with rfl | rfl | rfl | rfl | rfl | rfl <;> cases d <;> assumption
theorem rp_tyX {K : PySem.W.Frag} {G H : Hp} {v : V} {d : D} (s : Sub G H) (r : Rp K G v d) : TyX K H v (.type (tyN d)) := by
  cases r with
  | non => exact .base .non
  | bl b => exact .base (.bl b)
  | int i => exact .base (.int i)
  | str x => exact .base (.str x)
  | lst h1 h2 => exact .base (.lst (s _ _ h1))
  | tup h1 h2 =>
    rcases s.seq h1 with (h | ⟨o, h⟩) | ⟨o, its, n, h, hc, _⟩
    · exact .base (.tup h)
    · exact .fTuple h
    · exact .kTuple h hc
  | dct h1 h2 => exact .base (.dK (s _ _ h1))
section
variable {γ : Type} {m : Type → Type} [PM γ m] {α β δ τ : Type} {C : Cc γ} {X : Cx} {ρ : En}
theorem ce_isi {T : String} {t : Str} {p1 p2 pos : Pos} {e : Expr} {x : m β} {k : Bool → m β} (kt : KitOk T) (hm : X.mg "isinstance" = none) (hmt : X.mg t = none) (hv : bootBuiltins t = some (.type T)) (ha : CE C X ρ e dv x (fun d => k (isT T d)))
    (hT : T ∈ ["str", "int", "bool", "list", "tuple", "dict"] := by decide) (hg : Gl X "isinstance" := by rfl) (hgt : Gl X t := by rfl) (hnt : t ≠ "__name__" := by decide) (hdbt : (t == ("__debug__" : Str)) = false := by decide)
    (he : starEach [e, .Name t p2] X.env = (false, eval e X.env) :: starEach [.Name t p2] X.env := by rfl) (he2 : starEach [.Name t p2] X.env = (false, eval (.Name t p2) X.env) :: starEach [] X.env := by rfl) (hpl : (backTo pos (starEach [.Name t p2] X.env)).any (·.1) = false := by rfl) :
    CE C X ρ (.Call (.Name "isinstance" p1) [e, .Name t p2] [] pos) bv x k := fun Qf =>
  PE.imp (pe_callB call_isi hg hm PyProof.Rows.boot_isinstance (pa_cons (ha Qf) (pa_cons (pe_bltn (v := .ty T) hgt hmt hv rfl hnt hdbt) pa_nil he2) he) (by decide) (by decide) he hpl) fun σ H Q ⟨G, J, g, st, w, h⟩ => ⟨G, J, g, st, w, fun v d H1 G1 J1 g1 af1 si1 rr w1 => by
    exact ⟨v, .ty T, _, _, _, rfl, .ty T, rp_tyX af1.vis.sub rr, kit_ty (kt.at hT d), h _ _ H1 G1 J1 g1 af1 si1 (.bl _) w1⟩⟩
end

/-! ### repr -/
def reprOk (d : D) : Bool := d.showable && d.canLay0 && decide (d.depth ≤ 64) && decide (d.shown.length ≤ sizeLine)
def reprF : List D → Option Str
  | [d] => if reprOk d = true then some d.shown else none
  | _ => none
def rRepr (K : PySem.W.Frag) : List V → Hp → VK → Prop := fun xs H Q => ∃ v d, xs = [v] ∧ Dp K H v d ∧ reprOk d = true ∧ Q (.str d.shown) H
theorem call_repr {X : Cx} (hgd : X.A.guards = some []) (hu : X.A.units + 65 < cLine) : CallR X (.builtin "repr") (rRepr X.K) := by
  intro pins s σ H xs us Q I r h
  obtain ⟨v, d, rfl, dp, ok, q⟩ := h
  cases r with
  | cons r1 r2 =>
    cases r2
    unfold reprOk at ok
    rw [Bool.and_eq_true, Bool.and_eq_true, Bool.and_eq_true] at ok
    obtain ⟨⟨⟨h1, h2⟩, h3⟩, h4⟩ := ok
    have h3 := of_decide_eq_true h3
    have h4 := of_decide_eq_true h4
    have fin : ∀ (h' : Heap) u tk, (∀ b o, s.heap.get? b = some o → h'.get? b = some o) → EP X pins σ Q (.str d.shown u) { s with heap := h', toks := tk } := fun h' u tk hk => ⟨.str d.shown, H, I.kept (t' := tk) hk, ⟨u, rfl⟩, q⟩
    obtain ⟨as, rd⟩ := Dp.reads I d v _ dp r1
    cases dp with
    | non => cases r1; exact PySem.P.repr_of_none (fin s.heap _ _ fun _ _ e => e)
    | bl b => cases r1; exact PySem.P.repr_of_bool (fin s.heap _ _ fun _ _ e => e)
    | int i => obtain ⟨t, rfl⟩ := r1; exact PySem.P.repr_of_int (by simpa [PyData.showable] using h1) (fin s.heap _ _ fun _ _ e => e)
    | str x => obtain ⟨t, rfl⟩ := r1; exact PySem.P.repr_of_str (fin s.heap _ _ fun _ _ e => e) h4
    | lst a b => cases r1; exact PySem.repr_of_reads' rd h1 (PyData.noDict_hsm (PyData.hasDict_of_canLay _ h2)) hgd (by omega) (fun _ _ e => e) fin h4
    | tup a b => cases r1; exact PySem.repr_of_reads' rd h1 (PyData.noDict_hsm (PyData.hasDict_of_canLay _ h2)) hgd (by omega) (fun _ _ e => e) fin h4
theorem pc_repr {K : PySem.W.Frag} : PC K (rRepr K) reprF PyData.str := fun H G vs ds d Q s rl e q => by
  cases rl with
  | nil => cases e
  | @cons v vs d1 ds r1 r2 =>
    cases r2 with
    | cons _ _ => cases e
    | nil =>
      unfold reprF at e
      dsimp only at e
      split at e
      · rename_i hk
        cases e
        have h2 : d1.canLay0 = true := by
          unfold reprOk at hk
          rw [Bool.and_eq_true, Bool.and_eq_true, Bool.and_eq_true] at hk
          exact hk.1.1.2
        exact ⟨v, d1, rfl, r1.dp s h2, hk, q _ H G (New.refl s) (.str _)⟩
      · cases e

/-! ### texts -/
def joinF (s d : D) : Option D := match s, d with
  | .str a, .list ds => match asStrs ds with
    | some ys => if (ys.map (·.length)).sum + ys.length * a.length ≤ 16777216 then some (.str (Txt.join a ys)) else none
    | none => none
  | .str a, .tuple ds => match asStrs ds with
    | some ys => if (ys.map (·.length)).sum + ys.length * a.length ≤ 16777216 then some (.str (Txt.join a ys)) else none
    | none => none
  | _, _ => none
def splitF (s d : D) : Option (List D) := match s, d with
  | .str a, .str b => if (b.length == 0) = false ∧ a.length + 2 ≤ sizeLine then some ((Txt.split a b).map PyData.str) else none
  | _, _ => none
def isS : D → Bool
  | .str _ => true
  | _ => false
def asS (d : D) : Option Unit := if isS d = true then some () else none
section
variable {γ : Type} {m : Type → Type} [PM γ m] {α β δ τ : Type} {C : Cc γ} {X : Cx} {ρ : En}
theorem ce_join {o e : Expr} {apos pos : Pos} {x : m β} {x2 : D → m β} {k : D → m β} (he : ∀ d1, CE C X ρ e dv (x2 d1) (fun d2 => bnd (need (joinF d1 d2)) k)) (ho : CE C X ρ o dv x (fun d => bnd (need (asS d)) fun _ => x2 d))
    (hs : starEach [e] X.env = [(false, eval e X.env)] := by rfl) (hbase : attributeBase o "join" X.env (eval o X.env) = eval o X.env := by rfl) (hline : (apos.endLine == pos.line) = true := by rfl) :
    CE C X ρ (.Call (.Attribute o "join" apos) [e] [] pos) dv x k := fun Qf =>
  PE.imp (pe_join (ho Qf) (PE.ex fun d1 => he d1 Qf) hs hbase hline) fun σ H Q ⟨G, J, g, st, w, h⟩ => ⟨G, J, g, st, w, fun v1 d1 H1 G1 J1 g1 af1 si1 r1 w1 => by
    obtain ⟨_, e0, w1⟩ := of_need w1
    have hS : ∃ a, v1 = .str a := by
      cases r1 with
      | str a => exact ⟨a, rfl⟩
      | _ => cases e0
    refine ⟨hS, d1, G1, J1, g1, st.go af1 si1, w1, fun v2 d2 H2 G2 J2 g2 af2 si2 r2 w2 => ?_⟩
    obtain ⟨d, e1, w3⟩ := of_need w2
    cases r1 with
    | str a =>
      cases r2 with
      | @lst p us ds h1 h2 =>
        unfold joinF at e1
        dsimp only at e1
        cases q : asStrs ds with
        | none => simp [q] at e1
        | some ys =>
          simp only [q] at e1
          split at e1
          · rename_i hz
            cases e1
            refine ⟨a, p, ys, rfl, rfl, .inl ?_, hz, h _ _ H2 G2 J2 g2 (af1.trans af2) si2 (.str _) w3⟩
            rw [← rp_strs h2 q]
            exact SqL.of (af2.vis.sub _ _ h1)
          · cases e1
      | @tup p us ds h1 h2 =>
        unfold joinF at e1
        dsimp only at e1
        cases q : asStrs ds with
        | none => simp [q] at e1
        | some ys =>
          simp only [q] at e1
          split at e1
          · rename_i hz
            cases e1
            refine ⟨a, p, ys, rfl, rfl, .inr ?_, hz, h _ _ H2 G2 J2 g2 (af1.trans af2) si2 (.str _) w3⟩
            rw [← rp_strs h2 q]
            exact af2.vis.sub.seq h1
          · cases e1
      | _ => cases e1
    | _ => cases e0⟩
theorem ce_split {o e : Expr} {apos pos : Pos} {x : m β} {x2 : D → m β} {k : List D → m β} (he : ∀ d1, CE C X ρ e dv (x2 d1) (fun d2 => bnd (need (splitF d1 d2)) k)) (ho : CE C X ρ o dv x (fun d => bnd (need (asS d)) fun _ => x2 d))
    (hs : starEach [e] X.env = [(false, eval e X.env)] := by rfl) (hbase : attributeBase o "split" X.env (eval o X.env) = eval o X.env := by rfl) (hline : (apos.endLine == pos.line) = true := by rfl) :
    CE C X ρ (.Call (.Attribute o "split" apos) [e] [] pos) lv x k := fun Qf =>
  PE.imp (pe_split (ho Qf) (PE.ex fun d1 => he d1 Qf) hs hbase hline) fun σ H Q ⟨G, J, g, st, w, h⟩ => ⟨G, J, g, st, w, fun v1 d1 H1 G1 J1 g1 af1 si1 r1 w1 => by
    obtain ⟨_, e0, w1⟩ := of_need w1
    have hS : ∃ a, v1 = .str a := by
      cases r1 with
      | str a => exact ⟨a, rfl⟩
      | _ => cases e0
    refine ⟨hS, d1, G1, J1, g1, st.go af1 si1, w1, fun v2 d2 H2 G2 J2 g2 af2 si2 r2 w2 => ?_⟩
    obtain ⟨d, e1, w3⟩ := of_need w2
    cases r1 with
    | str a =>
      cases r2 with
      | str b =>
        unfold splitF at e1
        dsimp only at e1
        split at e1
        · rename_i hz
          cases e1
          refine ⟨a, b, rfl, rfl, hz.1, hz.2, fun q hq => ?_⟩
          have n : New G2 H2 G2 (upd H2 q (.lst ((Txt.split a b).map V.str))) := New.own af2.vis.sub hq
          exact h _ _ _ G2 J2 g2 ((af1.trans af2).trans (n.aft af2.vis)) (SIx.nw si2 n) ⟨q, rfl, (af1.trans af2).back q hq, none_of_sub af2.vis.sub hq, fun j => af2.vis.dom q j hq, _, upd_same, rp_of_strs _⟩ w3
        · cases e1
      | _ => cases e1
    | _ => cases e0⟩
end
end Cl

set_option Elab.async false
set_option linter.all false
set_option maxRecDepth 100000
set_option maxHeartbeats 4000000
/-! the clean layer, part K: enumerate and zip over lists and tuples -/
namespace Cl
open PySem PySem.Spec PyProof.Rows L2
open MO

/-! ### a list (false) or a tuple (true) -/
def SqK (κ : Bool) (K : PySem.W.Frag) (H : Hp) (a : Addr) (xs : List V) : Prop := match κ with
  | false => SqL K H a xs
  | true => SqT K H a xs
def IsK (κ : Bool) (h : Heap) (a : Addr) (its : Array Value) : Prop := match κ with
  | false => h.IsList a its
  | true => h.IsTuple a its
def IsI (κ : Bool) (h : Heap) (it a : Addr) (i : Nat) : Prop := match κ with
  | false => h.IsListIter it a i
  | true => h.IsTupleIter it a i
def itO (κ : Bool) (a : Addr) : Obj := match κ with
  | false => { cls := .type "list_iterator", data := .fields #[.ref a, .int 0 0] }
  | true => { cls := .type "tuple_iterator", data := .fields #[.ref a, .int 0 0] }
theorem IsI.get {κ : Bool} {h : Heap} {it a : Addr} {i : Nat} (x : IsI κ h it a i) : ∃ o, h.get? it = some o ∧ (∀ v, o.data ≠ .cell v) ∧ o.cls = .type (if κ then "tuple_iterator" else "list_iterator") := by
  cases κ <;> (obtain ⟨o, h1, h2, h3⟩ := x; exact ⟨o, h1, (fun v q => by rw [h3] at q; cases q), h2⟩)
theorem IsI.keep {κ : Bool} {h h' : Heap} {it a : Addr} {i : Nat} (x : IsI κ h it a i) (k : ∀ o, h.get? it = some o → h'.get? it = some o) : IsI κ h' it a i := by
  cases κ <;> (obtain ⟨o, h1, h2, h3⟩ := x; exact ⟨o, k o h1, h2, h3⟩)
theorem IsI.zero {κ : Bool} {h : Heap} {it a : Addr} (e : h.get? it = some (itO κ a)) : IsI κ h it a 0 := by
  cases κ <;> exact ⟨_, e, rfl, rfl⟩
theorem IsK.get {κ : Bool} {h : Heap} {a : Addr} {its : Array Value} (x : IsK κ h a its) : ∃ o, h.get? a = some o ∧ o.cls = .type (if κ then "tuple" else "list") := by
  cases κ <;> (obtain ⟨o, h1, h2, _⟩ := x; exact ⟨o, h1, h2⟩)
theorem drawsK {κ : Bool} {prog : Program} {w : World} {A : Around} (hh : A.handled = none) (it a : Addr) (hne : a ≠ it) (items : Array Value) :
    Draws prog w A it [it, a] items.size (fun i v => items[i]? = some v) (fun i h => IsI κ h it a i ∧ IsK κ h a items) := by
  cases κ with
  | false => exact Draws.list hh it a hne items
  | true => exact Draws.tuple hh it a hne items
theorem beginsK {κ : Bool} (a : Addr) (items : Array Value) : Begins (.ref a) (itO κ a) (fun h => IsK κ h a items) := by
  cases κ with
  | false => exact begins_list a items
  | true => exact begins_tuple a items
section
variable {X : Cx} {pins : List (Addr × Obj)} {σ : L2.St} {H : Hp} {s : Shared} {κ : Bool} {a : Addr} {xs ys : List V}
theorem sqk_is (I : Inv X pins σ H s) (h : SqK κ X.K H a xs) : ∃ its : List Value, Vals xs its ∧ IsK κ s.heap a its.toArray := by
  cases κ with
  | false => obtain ⟨its, r, p, _⟩ := I.list h; exact ⟨its, r, p.isList⟩
  | true => obtain ⟨its, r, p, _⟩ := I.tuple h; exact ⟨its, r, p⟩
theorem sqk_inj (I : Inv X pins σ H s) (h : SqK κ X.K H a xs) (h' : SqK κ X.K H a ys) : xs = ys := by
  cases κ with
  | false => exact I.list_inj h h'
  | true => exact I.tuple_inj h h'
end
theorem ne_of_cls {h : Heap} {a b : Addr} {o o' : Obj} {n n' : String} (ha : h.get? a = some o) (hb : h.get? b = some o') (hc : o.cls = .type n) (hc' : o'.cls = .type n') (hn : n ≠ n') : a ≠ b := fun e => by
  subst e
  rw [ha] at hb
  cases hb
  rw [hc] at hc'
  exact hn (Value.type.inj hc')

set_option maxHeartbeats 4000000 in
theorem meets_enumerate_new1 {v : Value} {o : Obj} {H : Heap → Prop} (B : Begins v o H) :
    Meets (Builtin.«enumerate.__new__» ⟨[.type "enumerate", v], []⟩) (fun _ R s => H s.heap ∧
      R (.ok (.ret (.ref (s.heap.push o).objs.size))) { s with heap := (s.heap.push o).push { cls := .type "enumerate", data := .fields #[.none, .bool false, .ref s.heap.objs.size, rawInt 0, .none, .none] } }) :=
  .of_wp fun prog w A R s h => by
    obtain ⟨hp, g, d, tk, os⟩ := s; obtain ⟨h1, h⟩ := h
    have hsub := sub_enumerate
    have q1 : ∀ {A' : Around} {E : Value → Shared → Prop} {Q : Value → Shared → Prop}, Q (.ref hp.objs.size) ⟨hp.push o, g, d, tk, os⟩ → wpAny (model prog w) A' (pyIter v) Q E ⟨hp, g, d, tk, os⟩ :=
      fun q => B.iter prog w _ _ ⟨hp, g, d, tk, os⟩ _ h1 q
    wp_walk using q1
    refine wpAny_stack_any fun st => wpAny_pure ?_
    split
    · rename_i c _ _ _ _ _
      cases (c == Value.type "enumerate")
      · wp_walk using q1
        exact ⟨_, rfl, h⟩
      · wp_walk using q1
        exact ⟨_, rfl, h⟩
    · wp_walk using q1
      exact ⟨_, rfl, h⟩
section
variable {prog : Program} {w : World} {A : Around} {E : Value → Shared → Prop} {s : Shared}
theorem enum_begins1 {v : Value} {o : Obj} {H : Heap → Prop} {Q : Value → Shared → Prop} (B : Begins v o H) (h1 : H s.heap)
    (h : ∀ h', IsEnum h' (s.heap.objs.size + 1) s.heap.objs.size 0 .none → h'.get? s.heap.objs.size = some o → h'.objs.size = s.heap.objs.size + 2 →
      (∀ b o, s.heap.get? b = some o → h'.get? b = some o) → Q (.ref (s.heap.objs.size + 1)) { s with heap := h' }) :
    wpAny (model prog w) A (call (.type "enumerate") [v]) Q E s := by
  refine callType_new PySem.F.called_enumerate (by decide) (PySem.F.typeCall_enumerate_1 _) (PySem.F.newCall_enumerate_1 _) (fun obj => PySem.F.args_object_init_2 obj _) PySem.F.entry_enumerate_new
    (meets_enumerate_new1 B) ⟨h1, ?_⟩
  have hz : (s.heap.push o).objs.size = s.heap.objs.size + 1 := Heap.size_push ..
  show _ ∧ _
  rw [hz]
  have he : IsEnum ((s.heap.push o).push { cls := .type "enumerate", data := .fields #[.none, .bool false, .ref s.heap.objs.size, rawInt 0, .none, .none] }) (s.heap.objs.size + 1) s.heap.objs.size 0 .none := by
    have := Heap.get?_push_size (s.heap.push o) (o := { cls := .type "enumerate", data := .fields #[.none, .bool false, .ref s.heap.objs.size, rawInt 0, .none, .none] }) rfl
    rw [hz] at this; exact this
  refine ⟨⟨_, he, rfl⟩, h _ he (Heap.get?_push_of_some _ (Heap.get?_push_size _ B.free)) (by rw [Heap.size_push, hz]) fun b o x => Heap.get?_push_of_some _ (Heap.get?_push_of_some _ x)⟩
end

/-! ### enumerate -/
def IteK (κ : Bool) (K : PySem.W.Frag) (a : Addr) : It :=
  ⟨fun i H => ∃ (xs : List V) (x : V), SqK κ K H a xs ∧ xs[i]? = some x, fun i H v H' => ∃ T x, v = .ref T ∧ H T = none ∧ H' = upd H T (.tup [.int (i : Nat), x]) ∧ ∀ xs, SqK κ K H a xs → xs[i]? = some x, fun i H => ∃ xs : List V, SqK κ K H a xs ∧ i = xs.length⟩
theorem turn_enumK {κ : Bool} {P : Program} {w : World} {K : PySem.W.Frag} {elts : List Expr} {kk : Nat} {tpos : Pos} (a e it : Addr) :
    Turn P w K (.Tuple elts kk tpos) (IteK κ K a) [e, it] e (fun i h => (∃ old, IsEnum h e it ((i : Nat) : Int) old) ∧ IsI κ h it a i ∧ e ≠ it) where
  mem := by simp
  obj := fun i h st b hb => by
    obtain ⟨⟨old, he⟩, hi, _⟩ := st
    obtain ⟨o, ho, hd, _⟩ := hi.get
    have e' : b = e ∨ b = it := by simpa using hb
    rcases e' with z | z
    · rw [z]; exact ⟨_, he, fun v q => nomatch q⟩
    · rw [z]; exact ⟨o, ho, hd⟩
  keep := fun i h h' st k => let ⟨⟨old, he⟩, hi, hne⟩ := st; ⟨⟨old, k e (by simp) _ he⟩, hi.keep fun o q => k it (by simp) o q, hne⟩
  item := by
    intro X hP hw hK hc i pins s σ H E I hf st hg
    subst hP hw hK
    obtain ⟨⟨old, he⟩, hit, hne⟩ := st
    obtain ⟨xs, x, hq, hx⟩ := hg
    obtain ⟨its, rv, p⟩ := sqk_is I hq
    obtain ⟨u, hu, ru⟩ := rv.get hx
    obtain ⟨oa, hoa, hca⟩ := p.get
    obtain ⟨oi, hoi, _, hci⟩ := hit.get
    have nae : a ≠ e := ne_of_cls hoa he hca rfl (by cases κ <;> decide)
    have nai : a ≠ it := ne_of_cls hoa hoi hca hci (by cases κ <;> decide)
    have hel : e < s.heap.objs.size := Heap.lt_size he
    have hil : it < s.heap.objs.size := Heap.lt_size hoi
    have hlt : i < its.length := by rw [← rv.length]; exact (List.getElem?_eq_some_iff.mp hx).1
    refine wpAny_pyNext_enum_itemC (drawsK (A := X.A.in1) (I.ok.hd hc) it a nai its.toArray) he ⟨hit, p⟩ (by simpa using hlt) hne (by simp [hne, Ne.symm nae]) fun u' h' tk hP ho hst hT hsz hk => ?_
    have eu : u' = u := by
      have : its.toArray[i]? = some u' := hP
      rw [List.getElem?_toArray, hu] at this
      exact (Option.some.inj this).symm
    subst eu
    refine ⟨_, rfl, wpAny_letOwnedTupleGo_enum (s := { s with heap := h', toks := tk + 1 }) ho fun h'' he' sb => ?_⟩
    have hT2 : h''.get? s.heap.objs.size = some { cls := .type "tuple", data := .seq #[.int i tk, u'] } := (sb.2 _ (Nat.ne_of_gt hel)).trans hT
    have new : ObjOk X.prog X.w (upd H s.heap.objs.size (.tup [.int (i : Nat), x])) h'' s.heap.objs.size (.tup [.int (i : Nat), x]) :=
      ⟨by show 2 ≤ sizeLine; decide, [.int i tk, u'], .cons ⟨_, rfl⟩ (.cons ru .nil), ⟨_, hT2, rfl, _, rfl⟩⟩
    have I1 : Inv X pins σ (upd H s.heap.objs.size (.tup [.int (i : Nat), x])) { s with heap := h'', toks := tk + 1 } :=
      I.turnedNew (ch := [e, it]) (fun b ob hb q => (sb.2 b (fun z => hb (by simp [z]))).trans (hk b ob (fun z => hb (by simp [z])) (fun z => hb (by simp [z])) q)) hf (Nat.le_refl _) new
    refine ⟨.ref s.heap.objs.size, _, I1, rfl, ⟨_, x, rfl, I.hok.fresh (Nat.le_refl _), rfl, fun ys hy => by rw [sqk_inj I hy hq]; exact hx⟩, ⟨⟨u', ?_⟩, hst.1.keep fun o q => (sb.2 it (Ne.symm hne)).trans q, hne⟩, fun b hb => ?_⟩
    · have e1 : ((i + 1 : Nat) : Int) = (i : Int) + 1 := by omega
      rw [e1]; exact he'
    · have hb' : b < s.heap.objs.size := by
        have e' : b = e ∨ b = it := by simpa using hb
        rcases e' with z | z
        · rw [z]; exact hel
        · rw [z]; exact hil
      rw [upd_ne (Nat.ne_of_lt hb')]
      exact (hf b hb).1
  done := by
    intro X hP hw hK hc i pins s σ H E I hf st hg
    subst hP hw hK
    obtain ⟨⟨old, he⟩, hit, hne⟩ := st
    obtain ⟨xs, hq, hx⟩ := hg
    obtain ⟨its, rv, p⟩ := sqk_is I hq
    obtain ⟨f0, f1, f2, f3, f4, f5⟩ := hf it (by simp)
    obtain ⟨oa, hoa, hca⟩ := p.get
    obtain ⟨oi, hoi, _, hci⟩ := hit.get
    have nai : a ≠ it := ne_of_cls hoa hoi hca hci (by cases κ <;> decide)
    have hn : i = its.toArray.size := by rw [hx, rv.length]; simp
    refine wpAny_pyNext_enum_endD (drawsK (A := X.A.in1) (I.ok.hd hc) it a nai its.toArray) he ⟨hn ▸ hit, p⟩ fun h' eb => ⟨rfl, I.turned (t' := s.toks) (fun b o hb q => eb b o hb q) f0 f1 f3 f4 f5⟩
  self := fun A i s Q E st h => let ⟨⟨_, he⟩, _⟩ := st; wpAny_pyIter_enum he h
def iEnumK (K : PySem.W.Frag) (ta : TA) : TI := fun σ H R => ta σ H fun vs H1 => ∃ κ a xs, vs = [.ref a] ∧ SqK κ K H1 a xs ∧ R (IteK κ K a) H1
theorem one_call {f : Value} {x : Value} {M : Model} {A : Around} {Q : Value → Shared → Prop} {E : Value → Shared → Prop} {s : Shared} (h : wpAny M A (call f [x]) Q E s) : wpAny M A (call f [x]) Q E s := h
theorem pi_enumK {X : Cx} {e : Expr} {ta : TA} {p pos tpos : Pos} {elts : List Expr} {kk : Nat} (hg : Gl X "enumerate") (hm : X.mg "enumerate" = none) (ha : PA X [e] ta) (hs : starEach [e] X.env = [(false, eval e X.env)] := by rfl) :
    PI X (.Tuple elts kk tpos) (.Call (.Name "enumerate" p) [e] [] pos) (iEnumK X.K ta) := by
  refine ⟨fun pins s σ H R I h => ?_⟩
  refine Call_ (ld_blt I hg hm boot_enumerate (PyProof.Rows.callWith_type1 (thn (ha.run pos pins s σ H _ I h) fun us s1 ⟨vs, H1, I1, r1, q1⟩ => ?_) hs rfl))
  obtain ⟨κ, a, xs, ex, hq, q⟩ := q1
  subst ex
  cases r1 with
  | cons r rr =>
    cases rr
    cases r
    obtain ⟨its, rv, p'⟩ := sqk_is I1 hq
    have fin : ∀ h' : Heap, IsEnum h' (s1.heap.objs.size + 1) s1.heap.objs.size ((0 : Nat) : Int) .none → IsI κ h' s1.heap.objs.size a 0 → (∀ b o, s1.heap.get? b = some o → h'.get? b = some o) → PIE X pins σ (.Tuple elts kk tpos) R (.ref (s1.heap.objs.size + 1)) { s1 with heap := h' } := fun h' he hit hk => by
      have I2 : Inv X pins σ H1 { s1 with heap := h' } := I1.kept (t' := s1.toks) hk
      refine ⟨s1.heap.objs.size + 1, [s1.heap.objs.size + 1, s1.heap.objs.size], _, _, H1, rfl, I2, turn_enumK (κ := κ) a (s1.heap.objs.size + 1) s1.heap.objs.size, ⟨⟨.none, he⟩, hit, Nat.succ_ne_self _⟩, fun b hb => ?_, q⟩
      have e' : b = s1.heap.objs.size + 1 ∨ b = s1.heap.objs.size := by simpa using hb
      have hle : s1.heap.objs.size ≤ b := by
        rcases e' with z | z
        · rw [z]; exact Nat.le_add_right _ _
        · rw [z]; exact Nat.le_refl _
      exact I1.fpOk hle (I1.hok.fresh hle)
    exact enum_begins1 (beginsK a its.toArray) p' fun h' he hg hsz hk => wpAny_pyIter_enum he (fin h' he (.zero hg) hk)
/-! ### zip -/
def ItzK (κ κ2 : Bool) (K : PySem.W.Frag) (a b : Addr) : It :=
  ⟨fun i H => ∃ (xs ys : List V) (x y : V), SqK κ K H a xs ∧ SqK κ2 K H b ys ∧ xs[i]? = some x ∧ ys[i]? = some y,
    fun i H v H' => ∃ T x y, v = .ref T ∧ H T = none ∧ H' = upd H T (.tup [x, y]) ∧ (∀ xs, SqK κ K H a xs → xs[i]? = some x) ∧ ∀ ys, SqK κ2 K H b ys → ys[i]? = some y,
    fun i H => ∃ xs ys : List V, SqK κ K H a xs ∧ SqK κ2 K H b ys ∧ i ≤ xs.length ∧ i ≤ ys.length ∧ (i = xs.length ∨ i = ys.length)⟩
theorem turn_zipK {κ κ2 : Bool} {P : Program} {w : World} {K : PySem.W.Frag} {elts : List Expr} {kk : Nat} {tpos : Pos} {a b z TI TO i1 i2 : Addr} (S : ZipSep2 z TI TO i1 i2 [i1, a] [i2, b]) :
    Turn P w K (.Tuple elts kk tpos) (ItzK κ κ2 K a b) [z, TI, TO, i1, i2] z (fun i h => IsZip h z TI TO .none ∧ IsTupOf2 h TI (.ref i1) (.ref i2) ∧ (∃ x y, IsTupOf2 h TO x y) ∧ IsI κ h i1 a i ∧ IsI κ2 h i2 b i) where
  mem := by simp
  obj := fun i h st c hc => by
    obtain ⟨hz, hTI, ⟨x, y, hTO⟩, h1, h2⟩ := st
    obtain ⟨o1, e1, d1, _⟩ := h1.get
    obtain ⟨o2, e2, d2, _⟩ := h2.get
    have e' : c = z ∨ c = TI ∨ c = TO ∨ c = i1 ∨ c = i2 := by simpa using hc
    rcases e' with q | q | q | q | q
    · rw [q]; exact ⟨_, hz, fun v q => nomatch q⟩
    · rw [q]; exact ⟨_, hTI, fun v q => nomatch q⟩
    · rw [q]; exact ⟨_, hTO, fun v q => nomatch q⟩
    · rw [q]; exact ⟨o1, e1, d1⟩
    · rw [q]; exact ⟨o2, e2, d2⟩
  keep := fun i h h' st k => by
    obtain ⟨hz, hTI, ⟨x, y, hTO⟩, h1, h2⟩ := st
    exact ⟨k z (by simp) _ hz, k TI (by simp) _ hTI, ⟨x, y, k TO (by simp) _ hTO⟩, h1.keep fun o q => k i1 (by simp) o q, h2.keep fun o q => k i2 (by simp) o q⟩
  item := by
    intro X hP hw hK hc i pins s σ H E I hf st hg
    subst hP hw hK
    obtain ⟨hz, hTI, ⟨x0, y0, hTO⟩, h1, h2⟩ := st
    obtain ⟨xs, ys, x, y, hqx, hqy, hx, hy⟩ := hg
    obtain ⟨its, rv, p⟩ := sqk_is I hqx
    obtain ⟨its2, rv2, p2⟩ := sqk_is I hqy
    obtain ⟨u, hu, ru⟩ := rv.get hx
    obtain ⟨u2, hu2, ru2⟩ := rv2.get hy
    have hzl : z < s.heap.objs.size := Heap.lt_size hz
    obtain ⟨oa, hoa, hca⟩ := p.get
    obtain ⟨ob, hob, hcb⟩ := p2.get
    obtain ⟨o1, ho1, _, hc1⟩ := h1.get
    obtain ⟨o2, ho2, _, hc2⟩ := h2.get
    have n1 : a ≠ i1 := ne_of_cls hoa ho1 hca hc1 (by cases κ <;> decide)
    have n2 : b ≠ i2 := ne_of_cls hob ho2 hcb hc2 (by cases κ2 <;> decide)
    have l1 : i < its.length := by rw [← rv.length]; exact (List.getElem?_eq_some_iff.mp hx).1
    have l2 : i < its2.length := by rw [← rv2.length]; exact (List.getElem?_eq_some_iff.mp hy).1
    refine wpAny_pyNext_zipD2_item S (drawsK (A := X.A.in1) (I.ok.hd hc) i1 a n1 its.toArray) (drawsK (A := X.A.in1) (I.ok.hd hc) i2 b n2 its2.toArray) hz hTI hTO ⟨h1, p⟩ ⟨h2, p2⟩ (by simpa using l1) (by simpa using l2) fun u' u2' h' tk hP1 hP2 z' TO' st1 st2 hT hsz hk => ?_
    have eu : u' = u := by
      have : its.toArray[i]? = some u' := hP1
      rw [List.getElem?_toArray, hu] at this
      exact (Option.some.inj this).symm
    have eu2 : u2' = u2 := by
      have : its2.toArray[i]? = some u2' := hP2
      rw [List.getElem?_toArray, hu2] at this
      exact (Option.some.inj this).symm
    subst eu eu2
    refine ⟨_, rfl, wpAny_letOwnedTupleGo_zip (s := { s with heap := h', toks := tk }) z' fun h'' z'' sb => ?_⟩
    have hT2 : h''.get? s.heap.objs.size = some { cls := .type "tuple", data := .seq #[u', u2'] } := (sb.2 _ (Nat.ne_of_gt hzl)).trans hT
    have new : ObjOk X.prog X.w (upd H s.heap.objs.size (.tup [x, y])) h'' s.heap.objs.size (.tup [x, y]) :=
      ⟨by show 2 ≤ sizeLine; decide, [u', u2'], .cons ru (.cons ru2 .nil), ⟨_, hT2, rfl, _, rfl⟩⟩
    have I1 : Inv X pins σ (upd H s.heap.objs.size (.tup [x, y])) { s with heap := h'', toks := tk } :=
      I.turnedNew (ch := [z, TI, TO, i1, i2]) (fun c o hb q => (sb.2 c (fun q' => hb (by simp [q']))).trans (hk c o (fun q' => hb (by simp [q'])) (fun q' => hb (by simp [q'])) (fun q' => hb (by simp [q'])) (fun q' => hb (by simp [q'])) q)) hf (Nat.le_refl _) new
    refine ⟨.ref s.heap.objs.size, _, I1, rfl, ⟨_, x, y, rfl, I.hok.fresh (Nat.le_refl _), rfl, fun l hl => by rw [sqk_inj I hl hqx]; exact hx, fun l hl => by rw [sqk_inj I hl hqy]; exact hy⟩, ⟨z'', ?_, ⟨u', u2', ?_⟩, ?_, ?_⟩, fun c hcm => ?_⟩
    · exact (sb.2 _ S.TIz).trans (hk _ _ S.TIz S.TITO S.TIi1 S.TIi2 hTI)
    · exact (sb.2 _ S.TOz).trans TO'
    · exact st1.1.keep fun o q => (sb.2 _ (Ne.symm S.zi1)).trans q
    · exact st2.1.keep fun o q => (sb.2 _ (Ne.symm S.zi2)).trans q
    · have hlt : c < s.heap.objs.size := by
        have e' : c = z ∨ c = TI ∨ c = TO ∨ c = i1 ∨ c = i2 := by simpa using hcm
        rcases e' with q | q | q | q | q
        · rw [q]; exact hzl
        · rw [q]; exact Heap.lt_size hTI
        · rw [q]; exact Heap.lt_size hTO
        · rw [q]; exact Heap.lt_size ho1
        · rw [q]; exact Heap.lt_size ho2
      rw [upd_ne (Nat.ne_of_lt hlt)]
      exact (hf c hcm).1
  done := by
    intro X hP hw hK hc i pins s σ H E I hf st hg
    subst hP hw hK
    obtain ⟨hz, hTI, ⟨x0, y0, hTO⟩, h1, h2⟩ := st
    obtain ⟨xs, ys, hqx, hqy, hl1, hl2, hend⟩ := hg
    obtain ⟨its, rv, p⟩ := sqk_is I hqx
    obtain ⟨its2, rv2, p2⟩ := sqk_is I hqy
    obtain ⟨oa, hoa, hca⟩ := p.get
    obtain ⟨ob, hob, hcb⟩ := p2.get
    obtain ⟨o1, ho1, _, hc1⟩ := h1.get
    obtain ⟨o2, ho2, _, hc2⟩ := h2.get
    have n1 : a ≠ i1 := ne_of_cls hoa ho1 hca hc1 (by cases κ <;> decide)
    have n2 : b ≠ i2 := ne_of_cls hob ho2 hcb hc2 (by cases κ2 <;> decide)
    have e1 : its.toArray.size = xs.length := by rw [rv.length]; simp
    have e2 : its2.toArray.size = ys.length := by rw [rv2.length]; simp
    exact wpAny_pyNext_zipD2_end S (drawsK (A := X.A.in1) (I.ok.hd hc) i1 a n1 its.toArray) (drawsK (A := X.A.in1) (I.ok.hd hc) i2 b n2 its2.toArray) hz hTI hTO ⟨h1, p⟩ ⟨h2, p2⟩ (by rw [e1]; exact hl1) (by rw [e2]; exact hl2) (by rw [e1, e2]; exact hend)
      fun h' tk hk => ⟨rfl, I.turnedL (t' := tk) (ch := [z, TI, TO, i1, i2]) (fun c o hb q =>
        hk c o (fun q' => hb (by simp [q'])) (fun q' => hb (by simp [q'])) (fun q' => hb (by simp [q'])) (fun q' => hb (by simp [q'])) q) hf⟩
  self := fun A i s Q E st h => wpAny_pyIter_zip st.1 h
def iZipK (K : PySem.W.Frag) (ta : TA) : TI := fun σ H R => ta σ H fun vs H1 => ∃ κ κ2 a b xs ys, vs = [.ref a, .ref b] ∧ SqK κ K H1 a xs ∧ SqK κ2 K H1 b ys ∧ R (ItzK κ κ2 K a b) H1
theorem pi_zipK {X : Cx} {e e2 : Expr} {ta : TA} {p pos tpos : Pos} {elts : List Expr} {kk : Nat} (hg : Gl X "zip") (hm : X.mg "zip" = none) (ha : PA X [e, e2] ta)
    (hs : starEach [e, e2] X.env = (false, eval e X.env) :: starEach [e2] X.env := by rfl) (hpl : (backTo pos (starEach [e2] X.env)).any (·.1) = false := by rfl) :
    PI X (.Tuple elts kk tpos) (.Call (.Name "zip" p) [e, e2] [] pos) (iZipK X.K ta) := by
  refine ⟨fun pins s σ H R I h => ?_⟩
  refine Call_ (ld_blt I hg hm PyProof.Rows.boot_zip (PyProof.Rows.callWith_type1 (thn (ha.run pos pins s σ H _ I h) fun us s1 ⟨vs, H1, I1, r1, q1⟩ => ?_) hs hpl))
  obtain ⟨κ, κ2, a, b, xs, ys, ex, hqx, hqy, q⟩ := q1
  subst ex
  cases r1 with
  | cons r rr =>
    cases rr with
    | cons r' rr =>
      cases rr
      cases r
      cases r'
      have fresh5 : ∀ c, c ∈ [s1.heap.objs.size + 4, s1.heap.objs.size + 2, s1.heap.objs.size + 3, s1.heap.objs.size, s1.heap.objs.size + 1] → FpOk X pins H1 c := fun c hcm => by
        have e' : c = s1.heap.objs.size + 4 ∨ c = s1.heap.objs.size + 2 ∨ c = s1.heap.objs.size + 3 ∨ c = s1.heap.objs.size ∨ c = s1.heap.objs.size + 1 := by simpa using hcm
        have hle : s1.heap.objs.size ≤ c := by
          rcases e' with z | z | z | z | z
          · rw [z]; exact Nat.le_add_right _ _
          · rw [z]; exact Nat.le_add_right _ _
          · rw [z]; exact Nat.le_add_right _ _
          · rw [z]; exact Nat.le_refl _
          · rw [z]; exact Nat.le_add_right _ _
        exact I1.fpOk hle (I1.hok.fresh hle)
      obtain ⟨its, rv, p1⟩ := sqk_is I1 hqx
      obtain ⟨its2, rv2, p2⟩ := sqk_is I1 hqy
      obtain ⟨oa, hoa, _⟩ := p1.get
      obtain ⟨ob, hob, _⟩ := p2.get
      have la : a < s1.heap.objs.size := Heap.lt_size hoa
      have lb : b < s1.heap.objs.size := Heap.lt_size hob
      refine zip_begins2 (beginsK a its.toArray) (beginsK b its2.toArray) p1 p2 fun h' hz hTI hTO g1 g2 hsz hk => wpAny_pyIter_zip hz ?_
      have I2 : Inv X pins σ H1 { s1 with heap := h' } := I1.kept (t' := s1.toks) hk
      exact ⟨s1.heap.objs.size + 4, [s1.heap.objs.size + 4, s1.heap.objs.size + 2, s1.heap.objs.size + 3, s1.heap.objs.size, s1.heap.objs.size + 1], _, _, H1, rfl, I2,
        turn_zipK (zip_sep2 (fp1 := [a]) (fp2 := [b]) (fun c hc => by rw [List.mem_singleton.mp hc]; exact la) (fun c hc => by rw [List.mem_singleton.mp hc]; exact lb)), ⟨hz, hTI, ⟨_, _, hTO⟩, .zero g1, .zero g2⟩, fresh5, q⟩

/-! ### their walks over plain data -/
theorem rp_sqk {K : PySem.W.Frag} {G : Hp} {v : V} {d : D} {ds : List D} (r : Rp K G v d) (e : items d = some ds) : ∃ κ a vs, v = .ref a ∧ RpL K G vs ds ∧ (κ = false → G a = some (.lst vs)) ∧ (κ = true → SqT K G a vs) := by
  cases r with
  | lst h1 h2 => cases e; exact ⟨false, _, _, rfl, h2, (fun _ => h1), fun z => by cases z⟩
  | tup h1 h2 => cases e; exact ⟨true, _, _, rfl, h2, (fun z => by cases z), fun _ => h1⟩
  | _ => cases e
theorem sqk_of {κ : Bool} {K : PySem.W.Frag} {G H : Hp} {a : Addr} {vs : List V} (h1 : κ = false → G a = some (.lst vs)) (h2 : κ = true → SqT K G a vs) (s : Sub G H) : SqK κ K H a vs := by
  cases κ with
  | false => exact SqL.of (s _ _ (h1 rfl))
  | true => exact s.seq (h2 rfl)
def enumD (ds : List D) : List D := ds.zipIdx.map fun p => .tuple [.int (p.2 : Nat), p.1]
def zipD (xs ys : List D) : List D := List.zipWith (fun a b => .tuple [a, b]) xs ys
theorem pair_new {K : PySem.W.Frag} {G H : Hp} {T : Addr} {x y : V} {d e : D} (s : Sub G H) (h : H T = none) (r1 : Rp K G x d) (r2 : Rp K G y e) : New G H (upd G T (.tup [x, y])) (upd H T (.tup [x, y])) ∧ Rp K (upd G T (.tup [x, y])) (.ref T) (.tuple [d, e]) :=
  ⟨New.laid s h, rp_newT s h (.cons r1 (.cons r2 .nil))⟩
theorem walks_enum {κ : Bool} {K : PySem.W.Frag} {G : Hp} {a : Addr} {vs : List V} {ds : List D} (h1 : κ = false → G a = some (.lst vs)) (h2 : κ = true → SqT K G a vs) (r : RpL K G vs ds) : Walks K (IteK κ K a) (enumD ds) G := fun G2 H2 s1 s2 i => by
  have hl : (enumD ds).length = ds.length := by simp [enumD]
  have hH : SqK κ K H2 a vs := sqk_of h1 h2 (s1.trans s2)
  have r2 := r.sub s1
  rw [hl]
  refine ⟨fun hi => ?_, fun hi => ⟨vs, hH, by rw [r.length]; exact hi⟩⟩
  obtain ⟨v, e, _⟩ := r.get (i := i) (d := ds[i]) (List.getElem?_eq_getElem hi)
  refine ⟨⟨vs, v, hH, e⟩, fun x H3 y => ?_⟩
  obtain ⟨T, x', rfl, nT, rfl, f⟩ := y
  obtain ⟨d, e1, e2⟩ := r2.get' (f vs hH)
  obtain ⟨n, rp⟩ := pair_new s2 nT (.int (i : Nat)) e2
  refine ⟨_, .tuple [.int (i : Nat), d], ?_, n, rp⟩
  unfold enumD
  rw [List.getElem?_map, List.getElem?_zipIdx, e1]
  simp
theorem walks_zip {κ κ2 : Bool} {K : PySem.W.Frag} {G : Hp} {a b : Addr} {vs us : List V} {ds es : List D} (h1 : κ = false → G a = some (.lst vs)) (h2 : κ = true → SqT K G a vs) (r : RpL K G vs ds)
    (k1 : κ2 = false → G b = some (.lst us)) (k2 : κ2 = true → SqT K G b us) (r' : RpL K G us es) : Walks K (ItzK κ κ2 K a b) (zipD ds es) G := fun G2 H2 s1 s2 i => by
  have hl : (zipD ds es).length = min ds.length es.length := by simp [zipD]
  have hH : SqK κ K H2 a vs := sqk_of h1 h2 (s1.trans s2)
  have kH : SqK κ2 K H2 b us := sqk_of k1 k2 (s1.trans s2)
  have r2 := r.sub s1
  have r2' := r'.sub s1
  have l1 := r.length
  have l2 := r'.length
  rw [hl]
  refine ⟨fun hi => ?_, fun hi => ⟨vs, us, hH, kH, by omega, by omega, by omega⟩⟩
  obtain ⟨v, e, _⟩ := r.get (i := i) (d := ds[i]) (List.getElem?_eq_getElem (by omega))
  obtain ⟨v', e', _⟩ := r'.get (i := i) (d := es[i]) (List.getElem?_eq_getElem (by omega))
  refine ⟨⟨vs, us, v, v', hH, kH, e, e'⟩, fun x H3 y => ?_⟩
  obtain ⟨T, x', y', rfl, nT, rfl, f, f'⟩ := y
  obtain ⟨d, e1, e2⟩ := r2.get' (f vs hH)
  obtain ⟨d', e1', e2'⟩ := r2'.get' (f' us kH)
  obtain ⟨n, rp⟩ := pair_new s2 nT e2 e2'
  refine ⟨_, .tuple [d, d'], ?_, n, rp⟩
  unfold zipD
  rw [List.getElem?_zipWith, e1, e1']
def enumF : List D → Option (List D)
  | [d] => (items d).map enumD
  | _ => none
def zipF : List D → Option (List D)
  | [a, b] => match items a, items b with
    | some xs, some ys => some (zipD xs ys)
    | _, _ => none
  | _ => none
section
variable {γ : Type} {m : Type → Type} [PM γ m] {β : Type} {C : Cc γ} {X : Cx} {ρ : En} {x : m β}
theorem ci_enum {elts : List Expr} {kk : Nat} {tpos : Pos} {a : Expr} {p pos : Pos} {k : List D → m β} (hm : X.mg "enumerate" = none) (ha : CD C X ρ [a] x (fun ds => bnd (need (enumF ds)) k)) (hg : Gl X "enumerate" := by rfl) (hs : starEach [a] X.env = [(false, eval a X.env)] := by rfl) :
    CI C X ρ (.Tuple elts kk tpos) (.Call (.Name "enumerate" p) [a] [] pos) x k := fun Qf =>
  PI.imp (pi_enumK hg hm (ha Qf) hs) fun σ H R ⟨G, J, g, st, w, h⟩ => ⟨G, J, g, st, w, fun vs ds H' G' J' g' af si rl hl w' => by
    obtain ⟨xs, e1, w2⟩ := of_need w'
    match ds, rl, e1 with
    | [d], .cons r1 .nil, e1 =>
      unfold enumF at e1
      cases q : items d with
      | none => simp [q] at e1
      | some ys =>
        simp [q] at e1
        subst e1
        obtain ⟨κ, a, vs, rfl, r2, h1, h2⟩ := rp_sqk r1 q
        exact ⟨κ, a, vs, rfl, sqk_of h1 h2 af.vis.sub, h _ _ H' G' J' g' af si (walks_enum h1 h2 r2) w2⟩
    | [], _, e1 => cases e1
    | _ :: _ :: _, _, e1 => cases e1⟩
theorem ci_zip {elts : List Expr} {kk : Nat} {tpos : Pos} {a b : Expr} {p pos : Pos} {k : List D → m β} (hm : X.mg "zip" = none) (ha : CD C X ρ [a, b] x (fun ds => bnd (need (zipF ds)) k)) (hg : Gl X "zip" := by rfl)
    (hs : starEach [a, b] X.env = (false, eval a X.env) :: starEach [b] X.env := by rfl) (hpl : (backTo pos (starEach [b] X.env)).any (·.1) = false := by rfl) :
    CI C X ρ (.Tuple elts kk tpos) (.Call (.Name "zip" p) [a, b] [] pos) x k := fun Qf =>
  PI.imp (pi_zipK hg hm (ha Qf) hs hpl) fun σ H R ⟨G, J, g, st, w, h⟩ => ⟨G, J, g, st, w, fun vs ds H' G' J' g' af si rl hl w' => by
    obtain ⟨xs, e1, w2⟩ := of_need w'
    match ds, rl, e1 with
    | [d, e], .cons r1 (.cons rB .nil), e1 =>
      unfold zipF at e1
      cases q : items d with
      | none => simp [q] at e1
      | some ys =>
        cases q' : items e with
        | none => simp [q, q'] at e1
        | some zs =>
          simp [q, q'] at e1
          subst e1
          obtain ⟨κ, a, vs, rfl, r2, h1, h2⟩ := rp_sqk r1 q
          obtain ⟨κ2, b, us, rfl, r2', k1, k2⟩ := rp_sqk rB q'
          exact ⟨κ, κ2, a, b, vs, us, rfl, sqk_of h1 h2 af.vis.sub, sqk_of k1 k2 af.vis.sub, h _ _ H' G' J' g' af si (walks_zip h1 h2 r2 k1 k2 r2') w2⟩
    | [], _, e1 => cases e1
    | [_], _, e1 => cases e1
    | _ :: _ :: _ :: _, _, e1 => cases e1⟩
end
end Cl

set_option Elab.async false
set_option linter.all false
set_option maxRecDepth 100000
set_option maxHeartbeats 4000000
/-! the clean layer, part L: calls with keywords, stores of several names, one's own list's items -/
namespace Cl
open PySem PySem.Spec PyProof.Rows L2
open MO

section
variable {γ : Type} {m : Type → Type} [PM γ m] {α β δ τ : Type} {C : Cc γ} {X : Cx} {ρ : En}
/-! ### keywords -/
def CK {β : Type} (C : Cc γ) (X : Cx) (ρ : En) (es : List Keyword) (x : m β) (k : List R → m β) : Prop :=
  ∀ Qf : β → γ → Prop, PK X es (fun σ H Q => ∃ G J g, C.St X.K ρ σ H G J g ∧ PM.wp x g Qf C.EX ∧
    ∀ vs rs H' G' J' g', Aft G J H G' J' H' → C.S.si g' G' J' H' → RRs X.K G' J' H' H vs rs → rs.length = es.length → PM.wp (k rs) g' Qf C.EX → Q vs H')
theorem PK.imp {X : Cx} {e : List Keyword} {t t' : TA} (h : PK X e t) (i : ∀ σ H Q, t' σ H Q → t σ H Q) : PK X e t' := ⟨fun pos pins s σ H Q I q => h.run pos pins s σ H Q I (i σ H Q q)⟩
theorem PK.ex {X : Cx} {e : List Keyword} {ι : Type} {t : ι → TA} (h : ∀ i, PK X e (t i)) : PK X e (fun σ H Q => ∃ i, t i σ H Q) := ⟨fun pos pins s σ H Q I ⟨i, q⟩ => (h i).run pos pins s σ H Q I q⟩
theorem ck_nil {k : List R → m β} : CK C X ρ [] (k []) k := fun Qf => PK.imp pk_nil fun σ H Q ⟨G, J, g, st, w, h⟩ => h [] [] H G J g (Aft.refl st.vis) st.si .nil rfl w
theorem ck_cons {nm : Option Str} {kpos : Pos} {e : Expr} {es : List Keyword} {rk : α → R} {x : m β} {y : α → m β} {k : List R → m β} (hr : ∀ a, CK C X ρ es (y a) (fun rs => k (rk a :: rs))) (he : CE C X ρ e rk x y) : CK C X ρ (⟨nm, e, kpos⟩ :: es) x k := fun Qf =>
  PK.imp (pk_cons (he Qf) (PK.ex fun a => hr a Qf)) fun σ H Q ⟨G, J, g, st, w, h⟩ => ⟨G, J, g, st, w, fun v a H1 G1 J1 g1 af1 si1 rr w1 => ⟨a, G1, J1, g1, st.go af1 si1, w1, fun vs rs H' G' J' g' af si rrs hl w' =>
    h (v :: vs) (rk a :: rs) H' G' J' g' (af1.trans af) si (.cons (rr.aft af) (rrs.base fun c h => Classical.byContradiction fun z => af1.dm c z h)) (by rw [List.length_cons, List.length_cons, hl]) w'⟩⟩
end
/-- how a def's parameters are filled: n values by place, the keywords ks, each parameter's source -/
def pick {α : Type} (d : α) (perm : List Nat) (xs : List α) : List α := perm.map fun i => xs.getD i d
structure KwB (K : PySem.W.Frag) (mg : Str → Option Value) (x : Str) (ps : List Str) (n : Nat) (ks : List Str) (perm : List Nat) : Prop where
  b : ∀ f fd oc od sl, mg x = some (.ref f) → K.lookup f = some ⟨oc, od, .func fd, sl⟩ → ∀ us ws : List Value, us.length = n → ws.length = ks.length → bindArgs fd ⟨us, ks.zip ws⟩ = pure (ps.zip (pick Value.none perm (us ++ ws)))
theorem kwb_of {K : PySem.W.Frag} {mg : Str → Option Value} {x qual : Str} {st : Stmt} {ps : List Str} {n : Nat} {ks : List Str} {perm : List Nat} (F : Dfd K mg x qual st ps)
    (h : ∀ (kV doc pm : Value) (an : Option Addr) (cdv ct : Value) (us ws : List Value), us.length = n → ws.length = ks.length → bindArgs (PySem.W.fnOf x qual (defArgs st) (defBody st) (defScope st) .none kV doc pm an cdv ct) ⟨us, ks.zip ws⟩ = pure (ps.zip (pick Value.none perm (us ++ ws)))) : KwB K mg x ps n ks perm := by
  obtain ⟨f, fd, hm, FF, hb⟩ := F.ex
  obtain ⟨oc, od, kV, doc, pm, an, cdv, ct, osl, rfl, lk, hcd⟩ := FF.ex
  refine ⟨fun f' fd' oc' od' sl' hm' lk' us ws h1 h2 => ?_⟩
  rw [hm] at hm'
  cases hm'
  rw [lk] at lk'
  cases lk'
  exact h kV doc pm an cdv ct us ws h1 h2
theorem pick_vals {perm : List Nat} {vs : List V} {us : List Value} (r : Vals vs us) : Vals (pick V.non perm vs) (pick Value.none perm us) := by
  induction perm with
  | nil => exact .nil
  | cons i is ih =>
    refine .cons ?_ ih
    cases q : vs[i]? with
    | none =>
      have q2 : us[i]? = none := by
        rw [List.getElem?_eq_none_iff] at q ⊢
        rw [← r.length]; exact q
      dsimp only
      rw [List.getD_eq_getElem?_getD, List.getD_eq_getElem?_getD, q, q2]
      rfl
    | some v =>
      obtain ⟨u, hu, ru⟩ := r.get q
      dsimp only
      rw [List.getD_eq_getElem?_getD, List.getD_eq_getElem?_getD, q, hu]
      exact ru
theorem RAs.get {K : PySem.W.Frag} {G : Hp} : ∀ {vs : List V} {rs : List R} (i : Nat), RAs K G vs rs → ∀ {vs' : List V} {rs' : List R}, RAs K G vs' rs' → RAs K G (vs.getD i V.non :: vs') (rs.getD i (R.v .none) :: rs')
  | _, _, _, .nil, _, _, t => by simp; exact .v .non t
  | _, _, 0, .v h _, _, _, t => .v h t
  | _, _, 0, .o _, _, _, t => .o t
  | _, _, 0, .l _, _, _, t => .l t
  | _, _, i + 1, .v _ s, _, _, t => by simpa using RAs.get i s t
  | _, _, i + 1, .o s, _, _, t => by simpa using RAs.get i s t
  | _, _, i + 1, .l s, _, _, t => by simpa using RAs.get i s t
theorem pick_ras {K : PySem.W.Frag} {G : Hp} {perm : List Nat} {vs : List V} {rs : List R} (r : RAs K G vs rs) : RAs K G (pick V.non perm vs) (pick (R.v .none) perm rs) := by
  induction perm with
  | nil => exact .nil
  | cons i is ih => exact RAs.get i r ih
theorem RAs.append {K : PySem.W.Frag} {G : Hp} : ∀ {vs us : List V} {rs qs : List R}, RAs K G vs rs → RAs K G us qs → RAs K G (vs ++ us) (rs ++ qs)
  | _, _, _, _, .nil, t => t
  | _, _, _, _, .v h s, t => .v h (RAs.append s t)
  | _, _, _, _, .o s, t => .o (RAs.append s t)
  | _, _, _, _, .l s, t => .l (RAs.append s t)
section
variable {X : Cx} {k : Nat} {ps ks : List Str} {perm : List Nat} {sp : Sp} {x : Str} {p pos : Pos} {e : Expr} {es : List Expr} {kws : List Keyword} {t tk : TA}
theorem vals_app : ∀ {vs vs' : List V} {us us' : List Value}, Vals vs us → Vals vs' us' → Vals (vs ++ vs') (us ++ us')
  | _, _, _, _, .nil, t => t
  | _, _, _, _, .cons r s, t => .cons r (vals_app s t)
theorem pe_callGK0 (c : Cal X.prog X.w X.K X.mg X.base x k ps sp) (b : KwB X.K X.mg x ps 0 ks perm) (hr : Room k X.A) (hgd : X.A.guards = some []) (hg : Gl X x) (ha : PK X kws tk) (hpm : perm.length = ps.length) (hkl : kws.length = ks.length) (hdb : (x == ("__debug__" : Str)) = false)
    (hln : ∀ σ H Q, tk σ H Q → tk σ H fun zs H' => zs.length = kws.length ∧ Q zs H')
    (hall : (backToKw pos (keywordEach kws X.env)).all (·.1.isSome) = true) (hks : (backToKw pos (keywordEach kws X.env)).filterMap (·.1) = ks)
    (hpl : ((backTo pos (starEach [] X.env)).any (·.1) || (backToKw pos (keywordEach kws X.env)).any (·.1.isNone)) = false) : PE X (.Call (.Name x p) [] kws pos) (fun σ H Q => tk σ H fun zs H1 => sp (pick V.non perm zs) H1 Q E0) := by
  obtain ⟨f, fd, hm, F, hk, hb, hb2, oc, od, sl, hlk⟩ := c.ex
  refine ⟨fun pins s σ H Q I h => wpAny_Call_Name_kw (ld_glob I hg hm (PySem.W.callWith_KW0 (h₀ := X.base) I.ok.mod.kin hk hall (thn (ha.run pos pins s σ H _ I (hln σ H _ h)) fun ws s1 ⟨zs, H1, I1, rz, hl, q⟩ => ⟨I1.kIn, ?_⟩) hpl) hdb)⟩
  rw [hks]
  have hw : ws.length = ks.length := by rw [← rz.length, hl, hkl]
  have e1 := b.b f fd oc od sl hm hlk [] ws rfl hw
  have r2 := pick_vals (perm := perm) rz
  exact go_fnG (us := pick Value.none perm ws) F hr hgd I1 (hb s1 ⟨[], ks.zip ws⟩ _ (by unfold pick; rw [List.length_map, hpm]) (by rw [List.nil_append] at e1; exact e1)) r2 q
theorem pe_callGK (c : Cal X.prog X.w X.K X.mg X.base x k ps sp) (b : KwB X.K X.mg x ps (es.length + 1) ks perm) (hr : Room k X.A) (hgd : X.A.guards = some []) (hg : Gl X x) (ha : PA X (e :: es) t) (hkw : PK X kws tk) (hpm : perm.length = ps.length) (hkl : kws.length = ks.length) (hdb : (x == ("__debug__" : Str)) = false)
    (hla : ∀ σ H Q, t σ H Q → t σ H fun zs H' => zs.length = es.length + 1 ∧ Q zs H') (hln : ∀ σ H Q, tk σ H Q → tk σ H fun zs H' => zs.length = kws.length ∧ Q zs H') (hmono : ∀ σ H (Q Q' : List V → Hp → Prop), t σ H Q → (∀ vs H1, Q vs H1 → Q' vs H1) → t σ H Q')
    (hall : (backToKw pos (keywordEach kws X.env)).all (·.1.isSome) = true) (hks : (backToKw pos (keywordEach kws X.env)).filterMap (·.1) = ks) (he : starEach (e :: es) X.env = (false, eval e X.env) :: starEach es X.env)
    (hpl : ((backTo pos (starEach (e :: es) X.env)).any (·.1) || (backToKw pos (keywordEach kws X.env)).any (·.1.isNone)) = false) : PE X (.Call (.Name x p) (e :: es) kws pos) (fun σ H Q => t σ H fun vs H0 => tk σ H0 fun zs H1 => sp (pick V.non perm (vs ++ zs)) H1 Q E0) := by
  obtain ⟨f, fd, hm, F, hk, hb, hb2, oc, od, sl, hlk⟩ := c.ex
  refine ⟨fun pins s σ H Q I h => wpAny_Call_Name_kw (ld_glob I hg hm (PySem.W.callWith_KW (h₀ := X.base) I.ok.mod.kin hk hall (thn (ha.run pos pins s σ H _ I (hla σ H _ h)) fun us s0 ⟨vs, H0, I0, ru, hlu, q0⟩ => (thn (hkw.run pos pins s0 σ H0 _ I0 (hln σ H0 _ q0)) fun ws s1 ⟨zs, H1, I1, rz, hl, q⟩ => ⟨I1.kIn, ?_⟩)) hpl he) hdb)⟩
  rw [hks]
  have hw : ws.length = ks.length := by rw [← rz.length, hl, hkl]
  have hu : us.length = es.length + 1 := by rw [← ru.length, hlu]
  have e1 := b.b f fd oc od sl hm hlk us ws hu hw
  have r2 := pick_vals (perm := perm) (vals_app ru rz)
  exact go_fnG (us := pick Value.none perm (us ++ ws)) F hr hgd I1 (hb s1 ⟨us, ks.zip ws⟩ _ (by unfold pick; rw [List.length_map, hpm]) e1) r2 q
end
section
variable {γ : Type} {m : Type → Type} [PM γ m] {α β δ τ : Type} {C : Cc γ} {X : Cx} {ρ : En}
theorem fin_callP {sig : Sig} {f : Ar sig → P δ} {rk : δ → R} {rs : List R} {vs : List V} {k : δ → m β} {Qf : β → γ → Prop} {Q : VK} {H H1 G G1 : Hp} {J J1 : Addr → Prop} {g1 : γ} (hEX : ∀ x g, C.EX x g → False) (af1 : Aft G J H G1 J1 H1) (si1 : C.S.si g1 G1 J1 H1) (ra : RAs X.K G1 vs rs) (hn : rs.length = sig.length)
    (w1 : PM.wp (bnd (lift (callM sig f rs) : m δ) k) g1 Qf C.EX)
    (h : ∀ v a H' G' J' g', Aft G J H G' J' H' → C.S.si g' G' J' H' → RR X.K G' J' H' H v (rk a) → PM.wp (k a) g' Qf C.EX → Q v H') : spC X.K S0 sig f rk vs H1 Q E0 := by
  refine ⟨G1, fun _ => False, (), rs, ⟨af1.vis.sub, fun _ h => h.elim, fun _ h => h.elim⟩, fun _ h => h, ra, hn, ?_⟩
  have w2 := PM.of_lift (PM.of_bnd w1)
  cases e1 : callM sig f rs with
  | no => rw [e1] at w2; exact w2.elim
  | ex q => rw [e1] at w2; exact (hEX _ _ w2).elim
  | ok d =>
    rw [e1] at w2
    intro v H' G' J' af si rr
    have n : New G1 H1 G' H' := ⟨af.gg, fun a o h => af.hh a o (fun z => z) h, af.gn, af.vis.sub⟩
    refine h v d H' G' J1 g1 (af1.trans (n.aft af1.vis)) (SIx.nw si1 n) ?_ w2
    have rr' : RR X.K G' J1 H' H1 v (rk d) := by
      cases q : rk d with
      | v d => rw [q] at rr; exact rr
      | o x => rw [q] at rr; exact rr
      | l c =>
        rw [q] at rr
        obtain ⟨p, h1, h2, h3, h4, h5⟩ := rr
        exact ⟨p, h1, h2, h3, fun j => af1.vis.dom p j h2, h5⟩
    exact rr'.base af1.back
theorem RRs.length {K : PySem.W.Frag} {G H Hb : Hp} {J : Addr → Prop} : ∀ {vs : List V} {rs : List R}, RRs K G J H Hb vs rs → vs.length = rs.length
  | _, _, .nil => rfl
  | _, _, .cons _ t => by rw [List.length_cons, List.length_cons, RRs.length t]
/-- f(k = e, ..): only keywords, a plain def -/
theorem ce_callPK0 {x : Str} {lvl : Nat} {ps ks : List Str} {perm : List Nat} {sig : Sig} {f : Ar sig → P δ} {rk : δ → R} {p pos : Pos} {kws : List Keyword} {y : m β} {k : δ → m β} (c : Cal X.prog X.w X.K X.mg X.base x lvl ps (spC X.K S0 sig f rk)) (b : KwB X.K X.mg x ps 0 ks perm) (hr : Room lvl X.A) (hgd : X.A.guards = some [])
    (ha : CK C X ρ kws y (fun rs => bnd (lift (callM sig f (pick (R.v .none) perm rs))) k)) (hpm : perm.length = ps.length := by rfl) (hl : perm.length = sig.length := by rfl) (hkl : kws.length = ks.length := by rfl) (hg : Gl X x := by rfl) (hEX : ∀ x g, C.EX x g → False := by exact fun _ _ h => h) (hdb : (x == ("__debug__" : Str)) = false := by decide)
    (hall : (backToKw pos (keywordEach kws X.env)).all (·.1.isSome) = true := by rfl) (hks : (backToKw pos (keywordEach kws X.env)).filterMap (·.1) = ks := by rfl)
    (hpl : ((backTo pos (starEach [] X.env)).any (·.1) || (backToKw pos (keywordEach kws X.env)).any (·.1.isNone)) = false := by rfl) : CE C X ρ (.Call (.Name x p) [] kws pos) rk y k := fun Qf => by
  refine PE.imp (pe_callGK0 c b hr hgd hg (ha Qf) hpm hkl hdb (fun σ H Q ⟨G, J, g, st, w, h⟩ => ⟨G, J, g, st, w, fun vs rs H' G' J' g' af si rrs hn w' => ⟨by rw [rrs.length, hn], h vs rs H' G' J' g' af si rrs hn w'⟩⟩) hall hks hpl)
    fun σ H Q ⟨G, J, g, st, w, h⟩ => ⟨G, J, g, st, w, fun vs rs H1 G1 J1 g1 af1 si1 rrs hn w1 => ?_⟩
  exact fin_callP hEX af1 si1 (pick_ras rrs.ras) (by unfold pick; rw [List.length_map, hl]) w1 h
/-- f(e, .., k = e, ..) -/
theorem ce_callPK {x : Str} {lvl : Nat} {ps ks : List Str} {perm : List Nat} {sig : Sig} {f : Ar sig → P δ} {rk : δ → R} {p pos : Pos} {e : Expr} {es : List Expr} {kws : List Keyword} {y : m β} {y2 : List R → m β} {k : δ → m β} (c : Cal X.prog X.w X.K X.mg X.base x lvl ps (spC X.K S0 sig f rk)) (b : KwB X.K X.mg x ps (es.length + 1) ks perm) (hr : Room lvl X.A) (hgd : X.A.guards = some [])
    (hk : ∀ rs, CK C X ρ kws (y2 rs) (fun qs => bnd (lift (callM sig f (pick (R.v .none) perm (rs ++ qs)))) k)) (ha : CA C X ρ (e :: es) y y2) (hpm : perm.length = ps.length := by rfl) (hl : perm.length = sig.length := by rfl) (hkl : kws.length = ks.length := by rfl) (hg : Gl X x := by rfl) (hEX : ∀ x g, C.EX x g → False := by exact fun _ _ h => h) (hdb : (x == ("__debug__" : Str)) = false := by decide)
    (hall : (backToKw pos (keywordEach kws X.env)).all (·.1.isSome) = true := by rfl) (hks : (backToKw pos (keywordEach kws X.env)).filterMap (·.1) = ks := by rfl) (he : starEach (e :: es) X.env = (false, eval e X.env) :: starEach es X.env := by rfl)
    (hpl : ((backTo pos (starEach (e :: es) X.env)).any (·.1) || (backToKw pos (keywordEach kws X.env)).any (·.1.isNone)) = false := by rfl) : CE C X ρ (.Call (.Name x p) (e :: es) kws pos) rk y k := fun Qf => by
  refine PE.imp (pe_callGK c b hr hgd hg (ha Qf) (PK.ex fun rs => hk rs Qf) hpm hkl hdb (fun σ H Q ⟨G, J, g, st, w, h⟩ => ⟨G, J, g, st, w, fun vs rs H' G' J' g' af si rrs hn w' => ⟨by rw [rrs.length, hn]; rfl, h vs rs H' G' J' g' af si rrs hn w'⟩⟩)
    (fun σ H Q ⟨rs, G, J, g, st, w, h⟩ => ⟨rs, G, J, g, st, w, fun vs rs H' G' J' g' af si rrs hn w' => ⟨by rw [rrs.length, hn], h vs rs H' G' J' g' af si rrs hn w'⟩⟩)
    (fun σ H Q Q' ⟨G, J, g, st, w, h⟩ hm => ⟨G, J, g, st, w, fun vs rs H' G' J' g' af si rrs hn w' => hm _ _ (h vs rs H' G' J' g' af si rrs hn w')⟩) hall hks he hpl)
    fun σ H Q ⟨G, J, g, st, w, h⟩ => ⟨G, J, g, st, w, fun vs rs H1 G1 J1 g1 af1 si1 rrs hn w1 => ⟨rs, G1, J1, g1, st.go af1 si1, w1, fun zs qs H2 G2 J2 g2 af2 si2 rrs2 hn2 w2 => ?_⟩⟩
  exact fin_callP hEX (af1.trans af2) si2 (pick_ras ((rrs.aft af2).ras.append rrs2.ras)) (by unfold pick; rw [List.length_map, hl]) w2 h
end

/-! ### stores of several names -/
def entR : R → Ent
  | .v d => .val d
  | .l c => .own c
  | .o a => .obj a
section
variable {γ : Type} {m : Type → Type} [PM γ m] {α α2 α3 β δ τ ω : Type} {C : Cc γ} {X : Cx} {ρ : En} {rest : List Stmt} {out : ω → En} {outL : τ → En} {rk : δ → R} {x : m β} {kn : ω → m β} {kr : δ → m β} {kb kc : τ → m β}
theorem Cc.St.setR {K : PySem.W.Frag} {σ : L2.St} {H G H' G' : Hp} {J J' : Addr → Prop} {g g' : γ} {v : V} {r : R} {i : Nat} (st : C.St K ρ σ H G J g) (af : Aft G J H G' J' H') (si : C.S.si g' G' J' H') (rr : RR K G' J' H' H v r) :
    C.St K (ρ.set i (some (entR r))) (σ.set i (some v)) H' G' J' g' := by
  cases r with
  | v d => exact ⟨(st.env.aft af).setV rr, st.aft.trans af, si⟩
  | o a => cases rr; exact ⟨(st.env.aft af).setO, st.aft.trans af, si⟩
  | l c =>
    obtain ⟨p, rfl, hb, hg, hj, hc⟩ := rr
    exact st.setL af si hb hg hj hc
theorem cs_par {i j : Nat} {n1 n2 : Str} {e1 e2 : Expr} {px py pt pos : Pos} {kt k2 pt2} {r1 : α → R} {r2 : α2 → R} {x2 : α → m β} {xr : α → α2 → m β} (hr : ∀ a b, CS C X ((ρ.set i (some (entR (r1 a)))).set j (some (entR (r2 b)))) rest out outL rk (xr a b) kn kr kb kc)
    (hb : ∀ a, CE C X ρ e2 r2 (x2 a) (xr a)) (ha : CE C X ρ e1 r1 x x2) (hN : X.N.Nodup) (hi : X.N[i]? = some n1 := by rfl) (hj : X.N[j]? = some n2 := by rfl) (hij : i ≠ j := by decide)
    (hx : X.env.scope.names.lookup n1 = some .local := by rfl) (hy : X.env.scope.names.lookup n2 = some .local := by rfl)
    (hw : swappedStores [.Tuple [.Name n1 px, .Name n2 py] kt pt] (.Tuple [e1, e2] k2 pt2) X.env = pure (some [n1, n2]) := by rfl)
    (hs : swapsWithSole [.Tuple [.Name n1 px, .Name n2 py] kt pt] (.Tuple [e1, e2] k2 pt2) pos.line X.env = pure false := by rfl) (hc : X.calm = true := by rfl)
    (hs1 : starEach [e1, e2] X.env = (false, eval e1 X.env) :: starEach [e2] X.env := by rfl) (hs2 : starEach [e2] X.env = (false, eval e2 X.env) :: starEach [] X.env := by rfl) :
    CS C X ρ (.Assign [.Tuple [.Name n1 px, .Name n2 py] kt pt] (.Tuple [e1, e2] k2 pt2) pos :: rest) out outL rk x kn kr kb kc := fun Qf =>
  PSs.imp (pss_cons (ps_par hc hN hi hj hij hx hy (pa_cons (ha Qf) (pa_cons (PE.ex fun a => hb a Qf) pa_nil hs2) hs1) hw hs) (PSs.ex fun p : α × α2 => hr p.1 p.2 Qf)) fun E σ H ⟨G, J, g, st, w, f⟩ =>
    ⟨G, J, g, st, w, fun v1 a H1 G1 J1 g1 af1 si1 rr1 w1 => ⟨a, G1, J1, g1, st.go af1 si1, w1, fun v2 b H2 G2 J2 g2 af2 si2 rr2 w2 =>
      ⟨v1, v2, rfl, (a, b), G2, J2, g2, (st.setR af1 si1 rr1).setR af2 si2 rr2, w2, f.sub (af1.gg.trans af2.gg)⟩⟩⟩
theorem cs_par3 {i j l : Nat} {n1 n2 n3 : Str} {e1 e2 e3 : Expr} {px py pz pt pos : Pos} {kt k2 pt2} {r1 : α → R} {r2 : α2 → R} {r3 : α3 → R} {x2 : α → m β} {x3 : α → α2 → m β} {xr : α → α2 → α3 → m β}
    (hr : ∀ a b c, CS C X (((ρ.set i (some (entR (r1 a)))).set j (some (entR (r2 b)))).set l (some (entR (r3 c)))) rest out outL rk (xr a b c) kn kr kb kc)
    (hd : ∀ a b, CE C X ρ e3 r3 (x3 a b) (xr a b)) (hb : ∀ a, CE C X ρ e2 r2 (x2 a) (x3 a)) (ha : CE C X ρ e1 r1 x x2) (hN : X.N.Nodup) (hi : X.N[i]? = some n1 := by rfl) (hj : X.N[j]? = some n2 := by rfl) (hl : X.N[l]? = some n3 := by rfl) (hij : i ≠ j := by decide) (hil : i ≠ l := by decide) (hjl : j ≠ l := by decide)
    (hx : X.env.scope.names.lookup n1 = some .local := by rfl) (hy : X.env.scope.names.lookup n2 = some .local := by rfl) (hz : X.env.scope.names.lookup n3 = some .local := by rfl)
    (hw : swappedStores [.Tuple [.Name n1 px, .Name n2 py, .Name n3 pz] kt pt] (.Tuple [e1, e2, e3] k2 pt2) X.env = pure (some [n1, n2, n3]) := by rfl)
    (hs : swapsWithSole [.Tuple [.Name n1 px, .Name n2 py, .Name n3 pz] kt pt] (.Tuple [e1, e2, e3] k2 pt2) pos.line X.env = pure false := by rfl) (hc : X.calm = true := by rfl)
    (hs1 : starEach [e1, e2, e3] X.env = (false, eval e1 X.env) :: starEach [e2, e3] X.env := by rfl) (hs2 : starEach [e2, e3] X.env = (false, eval e2 X.env) :: starEach [e3] X.env := by rfl) (hs3 : starEach [e3] X.env = (false, eval e3 X.env) :: starEach [] X.env := by rfl) :
    CS C X ρ (.Assign [.Tuple [.Name n1 px, .Name n2 py, .Name n3 pz] kt pt] (.Tuple [e1, e2, e3] k2 pt2) pos :: rest) out outL rk x kn kr kb kc := fun Qf =>
  PSs.imp (pss_cons (ps_par3 hc hN hi hj hl hij hil hjl hx hy hz (pa_cons (ha Qf) (pa_cons (PE.ex fun a => hb a Qf) (pa_cons (PE.ex fun p : α × α2 => hd p.1 p.2 Qf) pa_nil hs3) hs2) hs1) hw hs) (PSs.ex fun p : α × α2 × α3 => hr p.1 p.2.1 p.2.2 Qf)) fun E σ H ⟨G, J, g, st, w, f⟩ =>
    ⟨G, J, g, st, w, fun v1 a H1 G1 J1 g1 af1 si1 rr1 w1 => ⟨a, G1, J1, g1, st.go af1 si1, w1, fun v2 b H2 G2 J2 g2 af2 si2 rr2 w2 =>
      ⟨(a, b), G2, J2, g2, (st.go af1 si1).go af2 si2, w2, fun v3 c H3 G3 J3 g3 af3 si3 rr3 w3 =>
      ⟨v1, v2, v3, rfl, (a, b, c), G3, J3, g3, ((st.setR af1 si1 rr1).setR af2 si2 rr2).setR af3 si3 rr3, w3, f.sub (af1.gg.trans (af2.gg.trans af3.gg))⟩⟩⟩⟩
/-- target = e, the target a tuple of names -/
theorem cs_asg {tg e : Expr} {pos : Pos} {un : D → Option α} {outT : α → En} {sl : List Nat} {xr : α → m β} (hr : ∀ a, CS C X (outT a) rest out outL rk (xr a) kn kr kb kc) (hg : CG C X ρ tg un outT sl) (he : CE C X ρ e dv x (fun d => bnd (need (un d)) xr))
    (hs : swapsWithSole [tg] e pos.line X.env = pure false := by rfl) (hps : ∀ te g, PE X e te → PG X tg g → PS X (.Assign [tg] e pos) (tAsg te g) := by intro te g he hg; exact ps_asg he hg) : CS C X ρ (.Assign [tg] e pos :: rest) out outL rk x kn kr kb kc := fun Qf =>
  PSs.imp (pss_cons (hps _ _ (he Qf) hg) (PSs.ex fun a => hr a Qf)) fun E σ H ⟨G, J, g, st, w, f⟩ => ⟨G, J, g, st, w, fun v d H1 G1 J1 g1 af1 si1 rr w1 => by
    obtain ⟨a, ea, w2⟩ := of_need w1
    have st1 := st.go af1 si1
    exact ⟨G1, J1, d, a, st1.env, st1.vis.sub, rr, ea, fun σ' e' _ => ⟨a, G1, J1, g1, ⟨e', st1.aft, st1.si⟩, w2, f.sub af1.gg⟩⟩⟩
end

/-! ### an item of one's own list -/
def setF (xs : List D) (i : D) (d : D) : Option (List D) := match i with
  | .int i => (ixN xs.length i).map fun j => xs.set j d
  | _ => none
section
variable {γ : Type} {m : Type → Type} [PM γ m] {α α2 β δ τ ω : Type} {C : Cc γ} {X : Cx} {ρ : En} {rest : List Stmt} {out : ω → En} {outL : τ → En} {rk : δ → R} {x : m β} {kn : ω → m β} {kr : δ → m β} {kb kc : τ → m β}
theorem cs_setI {y : Str} {p1 spos pos : Pos} {ie e : Expr} {xr : List D → m β} {x2 : D → m β} (i : Nat) {xs : List D} (hi : ρ[i]? = some (some (.own (.lst xs)))) (hr : ∀ xs', CS C X (ρ.set i (some (.own (.lst xs')))) rest out outL rk (xr xs') kn kr kb kc)
    (hix : ∀ d, CE C X ρ ie dv (x2 d) (fun j => bnd (need (setF xs j d)) xr)) (he : CE C X ρ e dv x x2) (hp : PE X (.Name y p1) (tVar i) := by exact pv _)
    (hps : ∀ te ti, PE X e te → PE X ie ti → PS X (.Assign [.Subscript (.Name y p1) ie spos] e pos) (tAsg te (gSub (tVar i) ti rSetL)) := by intro te ti he hi; exact ps_asg he (pg_sub (pv _) hi set_list)) :
    CS C X ρ (.Assign [.Subscript (.Name y p1) ie spos] e pos :: rest) out outL rk x kn kr kb kc := fun Qf =>
  PSs.imp (pss_cons (hps _ _ (he Qf) (PE.ex fun d => hix d Qf)) (PSs.ex fun xs' => hr xs' Qf)) fun E σ H ⟨G, J, g, st, w, fi⟩ => ⟨G, J, g, st, w, fun v d H1 G1 J1 g1 af1 si1 rr w1 => by
    obtain ⟨p, h1, h2, h3, h4, vs0, hv0, rl0⟩ := st.env.own i _ hi
    refine ⟨_, h1, d, G1, J1, g1, st.go af1 si1, w1, fun iv j H2 G2 J2 g2 af2 si2 ri w2 => ?_⟩
    obtain ⟨xs', e1, w3⟩ := of_need w2
    have st2 := (st.go af1 si1).go af2 si2
    obtain ⟨p', k1, k2, k3, k4, vs, hv, rl⟩ := st2.env.own i _ hi
    rw [h1] at k1; cases k1
    cases ri with
    | int k =>
      unfold setF at e1
      dsimp only at e1
      cases q : ixN xs.length k with
      | none => rw [q] at e1; cases e1
      | some jj =>
        rw [q] at e1
        cases e1
        exact ⟨p, vs, k, jj, rfl, rfl, hv, by rw [rl.length]; exact q, xs.set jj d, G2, J2, g2, St.ownG st2 hi h1 ⟨_, upd_same, rl.set (Rp.sub af2.gg rr) jj⟩, w3, fi.sub (af1.gg.trans af2.gg)⟩
    | _ => cases e1⟩

/-! ### one's own list is read -/
def flO (d : D) : Option Unit := if flat d = true then some () else none
def flL (ds : List D) : Option Unit := if flatL ds = true then some () else none
theorem Aft.cutB {G G2 H H2 : Hp} {J J2 : Addr → Prop} {p : Addr} {o : HO} (af : Aft (upd G p o) J H G2 J2 H2) (hg : G p = none) : Aft G J H (cut G2 p) J2 H2 where
  gg := fun a u e => by
    have ne : a ≠ p := ne_of_none e hg
    rw [cut_ne ne]
    exact af.gg a u (by rw [upd_ne ne]; exact e)
  hh := af.hh
  dm := af.dm
  gn := fun a h => by
    by_cases z : a = p
    · subst z; exact absurd cut_same h
    · rw [cut_ne z] at h
      rcases af.gn a h with q | q
      · rw [upd_ne z] at q; exact .inl q
      · exact .inr q
  jn := af.jn
  vis := ⟨fun a u e => by
    by_cases z : a = p
    · subst z; rw [cut_same] at e; cases e
    · rw [cut_ne z] at e; exact af.vis.sub a u e, fun a j => by
    by_cases z : a = p
    · subst z; exact cut_same
    · rw [cut_ne z]; exact af.vis.dis a j, af.vis.dom⟩
/-- what is known behind a borrowing -/
theorem borrow_back {K : PySem.W.Frag} {σ : L2.St} {H G : Hp} {J : Addr → Prop} {g : γ} {i : Nat} {c : Cell} (st : C.St K ρ σ H G J g) (hi : ρ[i]? = some (some (.own c))) :
    ∃ G' p o, C.St K (ρ.set i (some (.val (cellD c)))) σ H G' J g ∧ G' = upd G p o ∧ G p = none ∧ ∀ G2 H2 J2 g2, Aft G' J H G2 J2 H2 → C.S.si g2 G2 J2 H2 → Aft G J H (cut G2 p) J2 H2 ∧ C.S.si g2 (cut G2 p) J2 H2 ∧ NoTup G2 p ∧ G2 p ≠ none := by
  obtain ⟨G', hs, st', p, o, h1, ho, hg, hG, hj, h0, ht, hf⟩ := st.show hi
  refine ⟨G', p, o, st', hG, hg, fun G2 H2 J2 g2 af si => ?_⟩
  subst hG
  have hp2 : G2 p = some o := af.gg p o upd_same
  have nt : NoTup G2 p := fun xs r => by
    rcases r with r | ⟨b, r⟩
    · rw [hp2] at r; exact ht xs (Option.some.inj r)
    · rw [hp2] at r; exact hf _ _ (Option.some.inj r)
  have nj : ¬ J2 p := fun j => by
    rcases af.jn p j with z | z
    · exact hj z
    · rw [ho] at z; cases z
  exact ⟨af.cutB hg, C.S.cut si nt (fun a b r => by rw [hp2] at r; exact hf _ _ (Option.some.inj r)) nj, nt, by rw [hp2]; exact Option.some_ne_none _⟩
theorem ce_borrow {e : Expr} {k : D → m β} (i : Nat) {xs : List D} (hi : ρ[i]? = some (some (.own (.lst xs)))) (h : CE C X (ρ.set i (some (.val (.list xs)))) e dv x (fun d => bnd (need (flO d)) fun _ => k d)) : CE C X ρ e dv x k := fun Qf =>
  PE.imp (h Qf) fun σ H Q ⟨G, J, g, st, w, hQ⟩ => by
    obtain ⟨G', p, o, st', hG, hg, bk⟩ := borrow_back st hi
    refine ⟨G', J, g, st', w, fun v d H2 G2 J2 g2 af si rr w2 => ?_⟩
    obtain ⟨af', si', nt, _⟩ := bk G2 H2 J2 g2 af si
    obtain ⟨_, e1, w3⟩ := of_need w2
    unfold flO at e1
    split at e1
    · rename_i hf
      exact hQ v d H2 _ J2 g2 af' si' (Rp.cut nt rr hf) w3
    · cases e1
theorem ce_borrowB {e : Expr} {k : Bool → m β} (i : Nat) {xs : List D} (hi : ρ[i]? = some (some (.own (.lst xs)))) (h : CE C X (ρ.set i (some (.val (.list xs)))) e bv x k) : CE C X ρ e bv x k := fun Qf =>
  PE.imp (h Qf) fun σ H Q ⟨G, J, g, st, w, hQ⟩ => by
    obtain ⟨G', p, o, st', hG, hg, bk⟩ := borrow_back st hi
    refine ⟨G', J, g, st', w, fun v d H2 G2 J2 g2 af si rr w2 => ?_⟩
    obtain ⟨af', si', nt, _⟩ := bk G2 H2 J2 g2 af si
    exact hQ v d H2 _ J2 g2 af' si' (Rp.cut nt rr rfl) w2
theorem ce_borrowI {e : Expr} {k : Int → m β} (i : Nat) {xs : List D} (hi : ρ[i]? = some (some (.own (.lst xs)))) (h : CE C X (ρ.set i (some (.val (.list xs)))) e iv x k) : CE C X ρ e iv x k := fun Qf =>
  PE.imp (h Qf) fun σ H Q ⟨G, J, g, st, w, hQ⟩ => by
    obtain ⟨G', p, o, st', hG, hg, bk⟩ := borrow_back st hi
    refine ⟨G', J, g, st', w, fun v d H2 G2 J2 g2 af si rr w2 => ?_⟩
    obtain ⟨af', si', nt, _⟩ := bk G2 H2 J2 g2 af si
    exact hQ v d H2 _ J2 g2 af' si' (Rp.cut nt rr rfl) w2
theorem ct_borrow {e : Expr} {k : Bool → m β} (i : Nat) {xs : List D} (hi : ρ[i]? = some (some (.own (.lst xs)))) (h : CT C X (ρ.set i (some (.val (.list xs)))) e x k) : CT C X ρ e x k := fun Qf =>
  PT.imp (h Qf) fun σ H Q ⟨G, J, g, st, w, hQ⟩ => by
    obtain ⟨G', p, o, st', hG, hg, bk⟩ := borrow_back st hi
    refine ⟨G', J, g, st', w, fun b H2 G2 J2 g2 af si w2 => ?_⟩
    obtain ⟨af', si', nt, _⟩ := bk G2 H2 J2 g2 af si
    exact hQ b H2 _ J2 g2 af' si' w2
/-- a new list out of it -/
theorem ce_borrowL {e : Expr} {k : List D → m β} (i : Nat) {xs : List D} (hi : ρ[i]? = some (some (.own (.lst xs)))) (h : CE C X (ρ.set i (some (.val (.list xs)))) e lv x (fun ds => bnd (need (flL ds)) fun _ => k ds)) : CE C X ρ e lv x k := fun Qf =>
  PE.imp (h Qf) fun σ H Q ⟨G, J, g, st, w, hQ⟩ => by
    obtain ⟨G', p, o, st', hG, hg, bk⟩ := borrow_back st hi
    refine ⟨G', J, g, st', w, fun v ds H2 G2 J2 g2 af si rr w2 => ?_⟩
    obtain ⟨af', si', nt, hpn⟩ := bk G2 H2 J2 g2 af si
    obtain ⟨_, e1, w3⟩ := of_need w2
    unfold flL at e1
    split at e1
    · rename_i hf
      obtain ⟨q, h1, h2, h3, h4, vs, h5, h6⟩ := rr
      have ne : q ≠ p := fun z => hpn (by rw [← z]; exact h3)
      exact hQ v ds H2 _ J2 g2 af' si' ⟨q, h1, h2, by rw [cut_ne ne]; exact h3, h4, vs, h5, RpL.cut nt h6 hf⟩ w3
    · cases e1
end
end Cl

set_option Elab.async false
set_option linter.all false
set_option maxRecDepth 100000
set_option maxHeartbeats 4000000
/-! the clean layer, part M: objects that change, in a region told by a ghost heap -/
namespace Cl
open PySem PySem.Spec PyProof.Rows L2
open MO

/-- what a field of such a dict holds: flat data, another such object -/
inductive RV where
  | d (x : D) | r (a : Addr)
inductive RC where
  | lst (ds : List D) | dct (kvs : List (Key × RV))
abbrev GH := Addr → Option RC
def gset (g : GH) (a : Addr) (c : RC) : GH := fun b => if b = a then some c else g b
theorem gset_same {g : GH} {a : Addr} {c : RC} : gset g a c a = some c := by unfold gset; rw [if_pos rfl]
theorem gset_ne {g : GH} {a b : Addr} {c : RC} (h : b ≠ a) : gset g a c b = g b := by unfold gset; rw [if_neg h]
inductive RVs (K : PySem.W.Frag) (G : Hp) : List (Key × V) → List (Key × RV) → Prop
  | nil : RVs K G [] []
  | d {k : Key} {v : V} {x : D} {us : List (Key × V)} {kvs : List (Key × RV)} : Rp K G v x → flat x = true → RVs K G us kvs → RVs K G ((k, v) :: us) ((k, .d x) :: kvs)
  | r {k : Key} {a : Addr} {us : List (Key × V)} {kvs : List (Key × RV)} : RVs K G us kvs → RVs K G ((k, .ref a) :: us) ((k, .r a) :: kvs)
def getK (kvs : List (Key × RV)) (k : Key) : Option RV := (kvs.find? fun kv => decide (kv.1 = k)).map (·.2)
def putR (kvs : List (Key × RV)) (k : Key) (v : RV) : List (Key × RV) :=
  if (kvs.any fun kv => decide (kv.1 = k)) = true then kvs.map (fun kv => if kv.1 = k then (kv.1, v) else kv) else kvs ++ [(k, v)]
def RVok (K : PySem.W.Frag) (G : Hp) (v : V) : RV → Prop
  | .d x => Rp K G v x ∧ flat x = true
  | .r a => v = .ref a
section
variable {K : PySem.W.Frag} {G G' H : Hp}
theorem RVs.cons {k : Key} {v : V} {x : RV} {us : List (Key × V)} {kvs : List (Key × RV)} (h : RVok K G v x) (t : RVs K G us kvs) : RVs K G ((k, v) :: us) ((k, x) :: kvs) := by
  cases x with
  | d x => exact .d h.1 h.2 t
  | r a => cases h; exact .r t
theorem RVs.get {k : Key} {x : RV} : ∀ {us : List (Key × V)} {kvs : List (Key × RV)}, RVs K G us kvs → getK kvs k = some x → ∃ v, valV us k = some v ∧ RVok K G v x
  | _, _, .nil, e => by cases e
  | _, _, .d (k := k') (kvs := kr) h f t, e => by
    by_cases z : k' = k
    · simp [getK, List.find?_cons, z] at e
      subst e
      exact ⟨_, valV_pos z, h, f⟩
    · have e' : getK kr k = some x := by simpa [getK, List.find?_cons, z] using e
      obtain ⟨v, h1, h2⟩ := RVs.get t e'
      exact ⟨v, by rw [valV_neg (by exact z)]; exact h1, h2⟩
  | _, _, .r (k := k') (kvs := kr) t, e => by
    by_cases z : k' = k
    · simp [getK, List.find?_cons, z] at e
      subst e
      exact ⟨_, valV_pos z, rfl⟩
    · have e' : getK kr k = some x := by simpa [getK, List.find?_cons, z] using e
      obtain ⟨v, h1, h2⟩ := RVs.get t e'
      exact ⟨v, by rw [valV_neg (by exact z)]; exact h1, h2⟩
theorem RVs.keys : ∀ {us : List (Key × V)} {kvs : List (Key × RV)}, RVs K G us kvs → us.map (·.1) = kvs.map (·.1)
  | _, _, .nil => rfl
  | _, _, .d _ _ t => by rw [List.map_cons, List.map_cons, RVs.keys t]
  | _, _, .r t => by rw [List.map_cons, List.map_cons, RVs.keys t]
theorem RVs.length {us : List (Key × V)} {kvs : List (Key × RV)} (h : RVs K G us kvs) : us.length = kvs.length := by
  have := congrArg List.length h.keys
  simpa using this
theorem RVs.app {us us' : List (Key × V)} {kvs kvs' : List (Key × RV)} (h : RVs K G us kvs) (h' : RVs K G us' kvs') : RVs K G (us ++ us') (kvs ++ kvs') := by
  induction h with
  | nil => exact h'
  | d a b _ ih => exact .d a b ih
  | r _ ih => exact .r ih
theorem RVs.mapPut {k : Key} {v : V} {x : RV} (hv : RVok K G v x) : ∀ {us : List (Key × V)} {kvs : List (Key × RV)}, RVs K G us kvs → RVs K G (us.map fun kv => if kv.1 = k then (kv.1, v) else kv) (kvs.map fun kv => if kv.1 = k then (kv.1, x) else kv)
  | _, _, .nil => .nil
  | _, _, .d (k := k') h f t => by
    rw [List.map_cons, List.map_cons]
    by_cases z : k' = k
    · rw [if_pos z, if_pos z]; exact .cons hv (RVs.mapPut hv t)
    · rw [if_neg z, if_neg z]; exact .d h f (RVs.mapPut hv t)
  | _, _, .r (k := k') t => by
    rw [List.map_cons, List.map_cons]
    by_cases z : k' = k
    · rw [if_pos z, if_pos z]; exact .cons hv (RVs.mapPut hv t)
    · rw [if_neg z, if_neg z]; exact .r (RVs.mapPut hv t)
theorem any_keys {α β : Type} {k : Key} : ∀ {us : List (Key × α)} {kvs : List (Key × β)}, us.map (·.1) = kvs.map (·.1) → (us.any fun kv => decide (kv.1 = k)) = (kvs.any fun kv => decide (kv.1 = k))
  | [], [], _ => rfl
  | [], _ :: _, h => by cases h
  | _ :: _, [], h => by cases h
  | (a, u) :: us, (b, w) :: kvs, h => by
    rw [List.map_cons, List.map_cons, List.cons.injEq] at h
    have e : a = b := h.1
    subst e
    rw [List.any_cons, List.any_cons, any_keys h.2]
theorem RVs.put {k : Key} {v : V} {x : RV} {us : List (Key × V)} {kvs : List (Key × RV)} (h : RVs K G us kvs) (hv : RVok K G v x) : RVs K G (putK us k v) (putR kvs k x) := by
  unfold putK putR
  rw [any_keys h.keys]
  split
  · exact h.mapPut hv
  · exact h.app (.cons hv .nil)
theorem RVok.sub {v : V} {x : RV} (e : Sub G G') (h : RVok K G v x) : RVok K G' v x := by
  cases x with
  | d x => exact ⟨h.1.sub e, h.2⟩
  | r a => exact h
theorem RVs.sub (e : Sub G G') : ∀ {us : List (Key × V)} {kvs : List (Key × RV)}, RVs K G us kvs → RVs K G' us kvs
  | _, _, .nil => .nil
  | _, _, .d h f t => .d (h.sub e) f (RVs.sub e t)
  | _, _, .r t => .r (RVs.sub e t)
theorem RVs.cut {p : Addr} (hp : NoTup G p) : ∀ {us : List (Key × V)} {kvs : List (Key × RV)}, RVs K G us kvs → RVs K (Cl.cut G p) us kvs
  | _, _, .nil => .nil
  | _, _, .d h f t => .d (h.cut hp f) f (RVs.cut hp t)
  | _, _, .r t => .r (RVs.cut hp t)
end
def RCok (K : PySem.W.Frag) (G H : Hp) (a : Addr) : RC → Prop
  | .lst ds => ∃ vs, H a = some (.lst vs) ∧ RpL K G vs ds ∧ flatL ds = true
  | .dct kvs => ∃ us, H a = some (.dK us) ∧ RVs K G us kvs
theorem RCok.keep {K : PySem.W.Frag} {G H G' H' : Hp} {a : Addr} {c : RC} (h : RCok K G H a c) (e : Sub G G') (k : ∀ o, H a = some o → H' a = some o) : RCok K G' H' a c := by
  cases c with
  | lst ds => obtain ⟨vs, h1, h2, h3⟩ := h; exact ⟨vs, k _ h1, h2.sub e, h3⟩
  | dct kvs => obtain ⟨vs, h1, h2⟩ := h; exact ⟨vs, k _ h1, h2.sub e⟩
/-- the script stands for ever -/
def ScrOk (K : PySem.W.Frag) (G : Hp) (sc : Addr) (ns : List Int) : Prop := (∃ o, G sc = some (.frz o (.lst (ns.map V.int)))) ∨ ∀ H, SqL K H sc (ns.map V.int)
theorem ScrOk.sql {K : PySem.W.Frag} {G H : Hp} {sc : Addr} {ns : List Int} (h : ScrOk K G sc ns) (s : Sub G H) : SqL K H sc (ns.map V.int) := by
  rcases h with ⟨o, h⟩ | h
  · exact .inl (.inr ⟨o, s _ _ h⟩)
  · exact h H
def SR (K : PySem.W.Frag) (sc : Addr) (ns : List Int) : SIx GH where
  si := fun g G J H => (∀ a, J a ↔ g a ≠ none) ∧ (∀ a c, g a = some c → RCok K G H a c) ∧ ScrOk K G sc ns
  new := fun {g G G' H H' J} h s k => by
    obtain ⟨h1, h2, h3⟩ := h
    refine ⟨h1, fun a c e => (h2 a c e).keep s fun o ho => k a o ((h1 a).mpr (by rw [e]; exact Option.some_ne_none _)) ho, ?_⟩
    rcases h3 with ⟨o, h3⟩ | h3
    · exact .inl ⟨o, s _ _ h3⟩
    · exact .inr h3
  cut := fun {g G H J p} h nt nf nj => by
    obtain ⟨h1, h2, h3⟩ := h
    refine ⟨h1, fun a c e => ?_, ?_⟩
    · have q := h2 a c e
      cases c with
      | lst ds => obtain ⟨vs, q1, q2, q3⟩ := q; exact ⟨vs, q1, q2.cut nt q3, q3⟩
      | dct kvs => obtain ⟨us, q1, q2⟩ := q; exact ⟨us, q1, q2.cut nt⟩
    · rcases h3 with ⟨o, h3⟩ | h3
      · refine .inl ⟨o, ?_⟩
        rw [cut_ne (fun z => nf _ _ (z ▸ h3))]
        exact h3
      · exact .inr h3

/-! ### what is done with the region -/
section
variable {α : Type}
/-- a list there is read -/
def rdM (a : Addr) (f : List D → Option α) : M GH α := ⟨fun g Q _ => ∃ ds x, g a = some (.lst ds) ∧ f ds = some x ∧ Q x g, fun ⟨ds, x, h1, h2, h3⟩ hq => ⟨ds, x, h1, h2, hq _ _ h3⟩⟩
/-- a list there changes -/
def mtM (a : Addr) (f : List D → Option (α × List D)) : M GH α := ⟨fun g Q _ => ∃ ds x ds', g a = some (.lst ds) ∧ f ds = some (x, ds') ∧ flatL ds' = true ∧ Q x (gset g a (.lst ds')), fun ⟨ds, x, ds', h1, h2, h3, h4⟩ hq => ⟨ds, x, ds', h1, h2, h3, hq _ _ h4⟩⟩
def fldD (a : Addr) (k : Key) : M GH D := ⟨fun g Q _ => ∃ kvs d, g a = some (.dct kvs) ∧ getK kvs k = some (.d d) ∧ Q d g, fun ⟨ds, x, h1, h2, h3⟩ hq => ⟨ds, x, h1, h2, hq _ _ h3⟩⟩
def fldO (a : Addr) (k : Key) : M GH Addr := ⟨fun g Q _ => ∃ kvs d, g a = some (.dct kvs) ∧ getK kvs k = some (.r d) ∧ Q d g, fun ⟨ds, x, h1, h2, h3⟩ hq => ⟨ds, x, h1, h2, hq _ _ h3⟩⟩
def putM (a : Addr) (k : Key) (d : D) : M GH Unit := ⟨fun g Q _ => ∃ kvs, g a = some (.dct kvs) ∧ kvs.length < sizeLine ∧ flat d = true ∧ Q () (gset g a (.dct (putR kvs k (.d d)))), fun ⟨ds, h1, h2, h3, h4⟩ hq => ⟨ds, h1, h2, h3, hq _ _ h4⟩⟩
/-- a new list is put into a field -/
def putL (a : Addr) (k : Key) (ds : List D) : M GH Unit := ⟨fun g Q _ => ∃ kvs, g a = some (.dct kvs) ∧ kvs.length < sizeLine ∧ flatL ds = true ∧ ∀ q, g q = none → q ≠ a → Q () (gset (gset g q (.lst ds)) a (.dct (putR kvs k (.r q)))),
  fun ⟨ds, h1, h2, h3, h4⟩ hq => ⟨ds, h1, h2, h3, fun q e z => hq _ _ (h4 q e z)⟩⟩
/-- a new dict, its lists with it -/
def allocs : List (Key × R) → GH → (List (Key × RV) → GH → Prop) → Prop
  | [], g, Q => Q [] g
  | (k, .v d) :: r, g, Q => flat d = true ∧ allocs r g fun kvs g' => Q ((k, .d d) :: kvs) g'
  | (k, .l (.lst ds)) :: r, g, Q => flatL ds = true ∧ ∀ q, g q = none → allocs r (gset g q (.lst ds)) fun kvs g' => Q ((k, .r q) :: kvs) g'
  | (k, .o a) :: r, g, Q => allocs r g fun kvs g' => Q ((k, .r a) :: kvs) g'
  | _ :: _, _, _ => False
theorem allocs_mono : ∀ {es : List (Key × R)} {g : GH} {Q Q' : List (Key × RV) → GH → Prop}, allocs es g Q → (∀ kvs g, Q kvs g → Q' kvs g) → allocs es g Q'
  | [], _, _, _, h, hq => hq _ _ h
  | (k, .v d) :: r, _, _, _, h, hq => ⟨h.1, allocs_mono h.2 fun _ _ z => hq _ _ z⟩
  | (k, .l (.lst ds)) :: r, _, _, _, h, hq => ⟨h.1, fun q e => allocs_mono (h.2 q e) fun _ _ z => hq _ _ z⟩
  | (k, .o a) :: r, _, _, _, h, hq => allocs_mono (es := r) h fun _ _ z => hq _ _ z
  | (k, .l (.dct _)) :: r, _, _, _, h, _ => h.elim
def nwM (es : List (Key × R)) : M GH Addr := ⟨fun g Q _ => (es.map fun e : Key × R => e.1).Nodup ∧ es.length ≤ 15 ∧ allocs es g fun kvs g' => ∀ p, g' p = none → Q p (gset g' p (.dct kvs)), fun ⟨h0, h1, h2⟩ hq => ⟨h0, h1, allocs_mono h2 fun _ _ z p e => hq _ _ (z p e)⟩⟩
/-- the script is read -/
def scM (sc : Addr) (ns : List Int) (a : Addr) : M GH (List D) := ⟨fun g Q _ => a = sc ∧ Q (ns.map PyData.int) g, fun ⟨h1, h2⟩ hq => ⟨h1, hq _ _ h2⟩⟩
end

/-! ### the region's object changes -/
theorem reg_mut {K : PySem.W.Frag} {sc : Addr} {ns : List Int} {g : GH} {G H : Hp} {J : Addr → Prop} {a : Addr} {c c' : RC} {o : HO} (vis : Vis G J H) (si : (SR K sc ns).si g G J H) (e : g a = some c) (h : RCok K G (upd H a o) a c') :
    Aft G J H G J (upd H a o) ∧ (SR K sc ns).si (gset g a c') G J (upd H a o) := by
  have ja : J a := (si.1 a).mpr (by rw [e]; exact Option.some_ne_none _)
  have ga : G a = none := vis.dis a ja
  refine ⟨⟨Sub.refl _, fun b u hb q => ?_, fun b q => ?_, fun b q => .inl q, fun b q => .inl q, ⟨fun b u q => ?_, vis.dis, fun b j => ?_⟩⟩, fun b => ?_, fun b u q => ?_, si.2.2⟩
  · rw [upd_ne (fun z => hb (by rw [z]; exact ja))]; exact q
  · by_cases z : b = a
    · subst z; rw [upd_same]; exact Option.some_ne_none _
    · rw [upd_ne z]; exact q
  · rw [upd_ne (ne_of_none q ga)]; exact vis.sub b u q
  · by_cases z : b = a
    · subst z; rw [upd_same]; exact Option.some_ne_none _
    · rw [upd_ne z]; exact vis.dom b j
  · by_cases z : b = a
    · subst z
      rw [gset_same]
      exact ⟨fun _ => Option.some_ne_none _, fun _ => ja⟩
    · rw [gset_ne z]; exact si.1 b
  · by_cases z : b = a
    · subst z
      rw [gset_same] at q
      cases q
      exact h
    · rw [gset_ne z] at q
      refine (si.2.1 b u q).keep (Sub.refl _) fun o' ho' => ?_
      rw [upd_ne z]; exact ho'
/-- an object comes to the region -/
theorem reg_add {K : PySem.W.Frag} {sc : Addr} {ns : List Int} {g : GH} {G H : Hp} {J : Addr → Prop} {p : Addr} {c : RC} (vis : Vis G J H) (si : (SR K sc ns).si g G J H) (hg : G p = none) (hj : ¬ J p) (h : RCok K G H p c) (hd : H p ≠ none) :
    Vis G (fun a => a = p ∨ J a) H ∧ (SR K sc ns).si (gset g p c) G (fun a => a = p ∨ J a) H ∧ g p = none := by
  have gp : g p = none := by
    cases q : g p with
    | none => rfl
    | some u => exact absurd ((si.1 p).mpr (by rw [q]; exact Option.some_ne_none _)) hj
  refine ⟨⟨vis.sub, fun a j => ?_, fun a j => ?_⟩, ⟨fun a => ?_, fun a u q => ?_, si.2.2⟩, gp⟩
  · rcases j with rfl | j
    · exact hg
    · exact vis.dis a j
  · rcases j with rfl | j
    · exact hd
    · exact vis.dom a j
  · by_cases z : a = p
    · subst z; rw [gset_same]; exact ⟨fun _ => Option.some_ne_none _, fun _ => .inl rfl⟩
    · rw [gset_ne z]
      exact ⟨fun h => (si.1 a).mp (h.resolve_left z), fun h => .inr ((si.1 a).mpr h)⟩
  · by_cases z : a = p
    · subst z
      rw [gset_same] at q
      cases q
      exact h
    · rw [gset_ne z] at q
      exact si.2.1 a u q
theorem Aft.addJ {G H G' H' : Hp} {J J' : Addr → Prop} {p : Addr} (a : Aft G J H G' J' H') (h : H p = none) (v : Vis G' (fun a => a = p ∨ J' a) H') : Aft G J H G' (fun a => a = p ∨ J' a) H' :=
  ⟨a.gg, a.hh, a.dm, a.gn, fun b j => by
    rcases j with rfl | j
    · exact .inr h
    · exact a.jn b j, v⟩

section
variable {α β δ τ ω : Type} {C : Cc GH} {X : Cx} {ρ : En} {sc : Addr} {ns : List Int}
theorem ce_fldD {o : Expr} {kx : Str} {j p1 pos} {x : M GH β} {k : D → M GH β} (hu : X.A.units + 1 < cLine) (ho : CE C X ρ o R.o x (fun a => bnd (fldD a (.inr kx)) k)) (hS : C.S = SR X.K sc ns := by rfl) (hs : PlainIx (.Constant (.str kx) j p1) := by intro _ _; rfl) :
    CE C X ρ (.Subscript o (.Constant (.str kx) j p1) pos) dv x k := fun Qf =>
  PE.imp (pe_ix (ix_all hu) (ho Qf) pe_str hs) fun σ H Q ⟨G, J, g, st, w, h⟩ => ⟨G, J, g, st, w, fun v a H1 G1 J1 g1 af1 si1 rr w1 => by
    cases rr
    obtain ⟨kvs, d, h1, h2, w2⟩ := w1
    have si1' := si1
    rw [hS] at si1'
    obtain ⟨us, h3, h4⟩ := si1'.2.1 a _ h1
    obtain ⟨v, h5, h6⟩ := h4.get h2
    refine .inr ⟨a, v, rfl, ?_, h v d H1 G1 J1 g1 af1 si1 h6.1 w2⟩
    rw [← h5]
    exact DGet.k (k := .inr kx) h3⟩
theorem ce_fldO {o : Expr} {kx : Str} {j p1 pos} {x : M GH β} {k : Addr → M GH β} (hu : X.A.units + 1 < cLine) (ho : CE C X ρ o R.o x (fun a => bnd (fldO a (.inr kx)) k)) (hS : C.S = SR X.K sc ns := by rfl) (hs : PlainIx (.Constant (.str kx) j p1) := by intro _ _; rfl) :
    CE C X ρ (.Subscript o (.Constant (.str kx) j p1) pos) R.o x k := fun Qf =>
  PE.imp (pe_ix (ix_all hu) (ho Qf) pe_str hs) fun σ H Q ⟨G, J, g, st, w, h⟩ => ⟨G, J, g, st, w, fun v a H1 G1 J1 g1 af1 si1 rr w1 => by
    cases rr
    obtain ⟨kvs, d, h1, h2, w2⟩ := w1
    have si1' := si1
    rw [hS] at si1'
    obtain ⟨us, h3, h4⟩ := si1'.2.1 a _ h1
    obtain ⟨v, h5, h6⟩ := h4.get h2
    refine .inr ⟨a, v, rfl, ?_, h v d H1 G1 J1 g1 af1 si1 h6 w2⟩
    rw [← h5]
    exact DGet.k (k := .inr kx) h3⟩
/-- an item of such a list -/
def atF (i : D) (ds : List D) : Option D := match i with
  | .int i => atI ds i
  | _ => none
theorem ce_ixO {o i : Expr} {pos : Pos} {x : M GH β} {x2 : Addr → M GH β} {k : D → M GH β} (hu : X.A.units + 1 < cLine) (hi : ∀ a, CE C X ρ i dv (x2 a) (fun d => bnd (rdM a (atF d)) k)) (ho : CE C X ρ o R.o x x2) (hS : C.S = SR X.K sc ns := by rfl) (hs : PlainIx i := by intro _ _; rfl) :
    CE C X ρ (.Subscript o i pos) dv x k := fun Qf =>
  PE.imp (pe_ix (ix_all hu) (ho Qf) (PE.ex fun a => hi a Qf) hs) fun σ H Q ⟨G, J, g, st, w, h⟩ => ⟨G, J, g, st, w, fun v a H1 G1 J1 g1 af1 si1 rr w1 => ⟨a, G1, J1, g1, st.go af1 si1, w1, fun v2 d H2 G2 J2 g2 af2 si2 r2 w2 => by
    cases rr
    obtain ⟨ds, y, h1, h2, w3⟩ := w2
    have si2' := si2
    rw [hS] at si2'
    obtain ⟨us, h3, h4, _⟩ := si2'.2.1 a _ h1
    cases r2 with
    | int n =>
      obtain ⟨v, h5, h6⟩ := atI_rp h4 h2
      exact .inl (.inl ⟨a, us, n, v, rfl, rfl, SqL.of h3, h5, h v y H2 G2 J2 g2 (af1.trans af2) si2 h6 w3⟩)
    | _ => cases h2⟩⟩
def lenL (ds : List D) : Option Int := some (ds.length : Nat)
theorem ce_lenO {o : Expr} {p1 pos : Pos} {x : M GH β} {k : Int → M GH β} (hm : X.mg "len" = none) (ho : CE C X ρ o R.o x (fun a => bnd (rdM a lenL) k)) (hS : C.S = SR X.K sc ns := by rfl) (hg : Gl X "len" := by rfl)
    (he : starEach [o] X.env = (false, eval o X.env) :: starEach [] X.env := by rfl) (hpl : (backTo pos (starEach [] X.env)).any (·.1) = false := by rfl) : CE C X ρ (.Call (.Name "len" p1) [o] [] pos) iv x k := fun Qf =>
  PE.imp (pe_callB call_len hg hm PySem.boot_len (pa_cons (ho Qf) pa_nil he) (by decide) (by decide) he hpl) fun σ H Q ⟨G, J, g, st, w, h⟩ => ⟨G, J, g, st, w, fun v a H1 G1 J1 g1 af1 si1 rr w1 => by
    cases rr
    obtain ⟨ds, y, h1, h2, w2⟩ := w1
    have si1' := si1
    rw [hS] at si1'
    obtain ⟨us, h3, h4, _⟩ := si1'.2.1 a _ h1
    cases h2
    refine ⟨_, us.length, rfl, .inl ⟨us, SqL.of h3, rfl⟩, ?_⟩
    rw [h4.length]
    exact h _ _ H1 G1 J1 g1 af1 si1 (.int _) w2⟩
theorem ce_scrLen {o : Expr} {p1 pos : Pos} {x : M GH β} {k : Int → M GH β} (hm : X.mg "len" = none) (ho : CE C X ρ o R.o x (fun a => bnd (scM sc ns a) fun ds => k (ds.length : Nat))) (hS : C.S = SR X.K sc ns := by rfl) (hg : Gl X "len" := by rfl)
    (he : starEach [o] X.env = (false, eval o X.env) :: starEach [] X.env := by rfl) (hpl : (backTo pos (starEach [] X.env)).any (·.1) = false := by rfl) : CE C X ρ (.Call (.Name "len" p1) [o] [] pos) iv x k := fun Qf =>
  PE.imp (pe_callB call_len hg hm PySem.boot_len (pa_cons (ho Qf) pa_nil he) (by decide) (by decide) he hpl) fun σ H Q ⟨G, J, g, st, w, h⟩ => ⟨G, J, g, st, w, fun v a H1 G1 J1 g1 af1 si1 rr w1 => by
    cases rr
    obtain ⟨rfl, w2⟩ := w1
    have si1' := si1
    rw [hS] at si1'
    have q := si1'.2.2.sql af1.vis.sub
    refine ⟨_, (ns.map V.int).length, rfl, .inl ⟨_, q, rfl⟩, ?_⟩
    have e : (ns.map V.int).length = (ns.map PyData.int).length := by rw [List.length_map, List.length_map]
    rw [e]
    exact h _ _ H1 G1 J1 g1 af1 si1 (.int _) w2⟩
theorem ce_scrSl {o : Expr} {hi : Option Expr} {p2 pos : Pos} {x : M GH β} {x2 : Addr → M GH β} {k : List D → M GH β} (hh : ∀ a, CO C X ρ hi (x2 a) (fun u => bnd (scM sc ns a) fun ds => k (cutD ds none u))) (ho : CE C X ρ o R.o x x2) (hS : C.S = SR X.K sc ns := by rfl) :
    CE C X ρ (.Subscript o (.Slice none hi none p2) pos) lv x k := fun Qf =>
  PE.imp (pe_slice sl_list (ho Qf) po_none (PO.ex fun a => hh a Qf)) fun σ H Q ⟨G, J, g, st, w, h⟩ => ⟨G, J, g, st, w, fun v a H1 G1 J1 g1 af1 si1 rr w1 => by
    cases rr
    refine ⟨a, G1, J1, g1, st.go af1 si1, w1, fun u H2 G2 J2 g2 af2 si2 w2 => ?_⟩
    obtain ⟨rfl, w3⟩ := w2
    have si2' := si2
    rw [hS] at si2'
    have q := si2'.2.2.sql af2.vis.sub
    refine ⟨_, _, rfl, q, fun p hp => ?_⟩
    have n : New G2 H2 G2 (upd H2 p (.lst (cutV (ns.map V.int) none u))) := New.own af2.vis.sub hp
    exact h _ _ _ G2 J2 g2 ((af1.trans af2).trans (n.aft af2.vis)) (SIx.nw si2 n) ⟨p, rfl, (af1.trans af2).back p hp, none_of_sub af2.vis.sub hp, fun j => af2.vis.dom p j hp, _, upd_same, cut_rp (rp_of_ints ns)⟩ w3⟩
end
end Cl

set_option Elab.async false
set_option linter.all false
set_option autoImplicit false
set_option maxRecDepth 100000
set_option maxHeartbeats 4000000
/-! the clean layer, part N: objects that change: methods, stores, new dicts -/
namespace Cl
open PySem PySem.Spec PyProof.Rows L2
open MO

def neNilF (ds : List D) : Option Bool := if SeqAt.shaped (.list ds) = true then some (!PyData.eqv (.list ds) (.list [])) else none
def popF (ds : List D) : Option (D × List D) := (ds[ds.length - 1]?).map fun y => (y, ds.dropLast)
def pop0F : List D → Option (D × List D)
  | [] => none
  | d :: r => some (d, r)
def ins0F (d : D) (ds : List D) : Option (D × List D) := if ds.length < sizeLine then some (.none, d :: ds) else none
def appOF (d : D) (ds : List D) : Option (D × List D) := (appF ds d).map fun r => (.none, r)
def setOF (j d : D) (ds : List D) : Option (Unit × List D) := (setF ds j d).map fun r => ((), r)
section
variable {α β δ τ ω : Type} {C : Cc GH} {X : Cx} {ρ : En} {sc : Addr} {ns : List Int}
/-- a list stands there -/
def isL (a : Addr) : M GH Unit := rdM a fun _ => some ()
theorem shaped_lay {ds : List D} (h : SeqAt.shaped (.list ds) = true) : PyData.canLayAll0 ds = true := by
  have := SeqAt.canLay_of_shaped h
  simpa [PyData.canLay0] using this
theorem ce_neNil {o : Expr} {p2 pos : Pos} {x : M GH β} {k : Bool → M GH β} (hu : X.A.units + 64 < cLine) (ho : CE C X ρ o R.o x (fun a => bnd (rdM a neNilF) k)) (hS : C.S = SR X.K sc ns := by rfl) (hm : behindInMarks .NotEq (.List [] p2) = false := by first | exact nomark _ | rfl) :
    CE C X ρ (.Compare o [.NotEq] [.List [] p2] pos) bv x k := fun Qf =>
  PE.imp (pe_cmpR (op_neA hu) (ho Qf) (pe_lst pa_nil) hm) fun σ H Q ⟨G, J, g, st, w, h⟩ => ⟨G, J, g, st, w, fun v a H1 G1 J1 g1 af1 si1 rr w1 => by
    cases rr
    refine ⟨Nat.zero_le _, fun p hp => ?_⟩
    obtain ⟨ds, y, h1, h2, w2⟩ := w1
    have si1' := si1
    rw [hS] at si1'
    obtain ⟨us, h3, h4, _⟩ := si1'.2.1 a _ h1
    unfold neNilF at h2
    split at h2
    · rename_i hsh
      cases h2
      have n : New G1 H1 G1 (upd H1 p (.lst [])) := New.own af1.vis.sub hp
      have h3' : upd H1 p (.lst []) a = some (.lst us) := by rw [upd_ne (fun z => by rw [z, hp] at h3; cases h3)]; exact h3
      refine .inr ⟨.list ds, .list [], .lst (SqL.of h3') (RpL.dp n.sub h4 (shaped_lay hsh)), .lst (SqL.of upd_same) .nil, hsh, by decide, ?_⟩
      exact h _ _ _ G1 J1 g1 (af1.trans (n.aft af1.vis)) (SIx.nw si1 n) (.bl _) w2
    · cases h2⟩
theorem ct_neNil {o : Expr} {p2 pos : Pos} {x : M GH β} {k : Bool → M GH β} (hu : X.A.units + 64 < cLine) (ho : CE C X ρ o R.o x (fun a => bnd (rdM a neNilF) k)) (hS : C.S = SR X.K sc ns := by rfl) (hm : behindInMarks .NotEq (.List [] p2) = false := by first | exact nomark _ | rfl) :
    CT C X ρ (.Compare o [.NotEq] [.List [] p2] pos) x k := fun Qf =>
  PT.imp (pt_cmpR (op_neA hu) (ho Qf) (pe_lst pa_nil) hm) fun σ H Q ⟨G, J, g, st, w, h⟩ => ⟨G, J, g, st, w, fun v a H1 G1 J1 g1 af1 si1 rr w1 => by
    cases rr
    refine ⟨Nat.zero_le _, fun p hp => ?_⟩
    obtain ⟨ds, y, h1, h2, w2⟩ := w1
    have si1' := si1
    rw [hS] at si1'
    obtain ⟨us, h3, h4, _⟩ := si1'.2.1 a _ h1
    unfold neNilF at h2
    split at h2
    · rename_i hsh
      cases h2
      have n : New G1 H1 G1 (upd H1 p (.lst [])) := New.own af1.vis.sub hp
      have h3' : upd H1 p (.lst []) a = some (.lst us) := by rw [upd_ne (fun z => by rw [z, hp] at h3; cases h3)]; exact h3
      refine .inr ⟨.list ds, .list [], .lst (SqL.of h3') (RpL.dp n.sub h4 (shaped_lay hsh)), .lst (SqL.of upd_same) .nil, hsh, by decide, _, rfl, ?_⟩
      exact h _ _ G1 J1 g1 (af1.trans (n.aft af1.vis)) (SIx.nw si1 n) w2
    · cases h2⟩
theorem reg_lst {K : PySem.W.Frag} {g : GH} {G H : Hp} {J : Addr → Prop} {a : Addr} {ds ds' : List D} {vs' : List V} (vis : Vis G J H) (si : (SR K sc ns).si g G J H) (e : g a = some (.lst ds)) (r : RpL K G vs' ds') (hf : flatL ds' = true) :
    Aft G J H G J (upd H a (.lst vs')) ∧ (SR K sc ns).si (gset g a (.lst ds')) G J (upd H a (.lst vs')) := reg_mut vis si e ⟨vs', upd_same, r, hf⟩
theorem RpL.dropLast {K : PySem.W.Frag} {G : Hp} {vs : List V} {ds : List D} (r : RpL K G vs ds) : RpL K G vs.dropLast ds.dropLast := by
  rw [List.dropLast_eq_take, List.dropLast_eq_take, r.length]
  exact r.take _
theorem ce_popO {o : Expr} {apos pos : Pos} {x : M GH β} {k : D → M GH β} (ho : CE C X ρ o R.o x (fun a => bnd (mtM a popF) k)) (hS : C.S = SR X.K sc ns := by rfl)
    (hbase : attributeBase o "pop" X.env (eval o X.env) = eval o X.env := by rfl) (hline : (apos.endLine == pos.line) = true := by rfl) : CE C X ρ (.Call (.Attribute o "pop" apos) [] [] pos) dv x k := fun Qf =>
  PE.imp (pe_bm0 PySem.F.plainAttrs_list PySem.F.slot_list_pop PySem.F.type_list_pop mt_pop (ho Qf) hbase hline) fun σ H Q ⟨G, J, g, st, w, h⟩ => ⟨G, J, g, st, w, fun v a H1 G1 J1 g1 af1 si1 rr w1 => by
    cases rr
    obtain ⟨ds, y, ds', h1, h2, hf, w2⟩ := w1
    have si1' := si1
    rw [hS] at si1'
    obtain ⟨us, h3, h4, _⟩ := si1'.2.1 a _ h1
    unfold popF at h2
    cases q : ds[ds.length - 1]? with
    | none => rw [q] at h2; cases h2
    | some y' =>
      rw [q] at h2
      cases h2
      obtain ⟨v, e1, e2⟩ := h4.get q
      obtain ⟨af, si⟩ := reg_lst af1.vis si1' h1 h4.dropLast hf
      refine ⟨ty_lst h3, a, us, v, rfl, rfl, h3, by rw [h4.length]; exact e1, h v y _ G1 J1 _ (af1.trans af) (by rw [hS]; exact si) e2 w2⟩⟩
theorem ce_pop0O {o : Expr} {j p1 apos pos} {x : M GH β} {k : D → M GH β} (ho : CE C X ρ o R.o x (fun a => bnd (mtM a pop0F) k)) (hS : C.S = SR X.K sc ns := by rfl)
    (hpe : ∀ te, PE X o te → PE X (.Call (.Attribute o "pop" apos) [.Constant (.int 0) j p1] [] pos) (tBM X.K "list" rPopAt te (tCons (tC (.int 0)) tNil)) := by intro te he; exact pe_bm PySem.F.plainAttrs_list PySem.F.slot_list_pop PySem.F.type_list_pop mt_popAt he (pa_cons pe_int pa_nil)) :
    CE C X ρ (.Call (.Attribute o "pop" apos) [.Constant (.int 0) j p1] [] pos) dv x k := fun Qf =>
  PE.imp (hpe _ (ho Qf)) fun σ H Q ⟨G, J, g, st, w, h⟩ => ⟨G, J, g, st, w, fun v a H1 G1 J1 g1 af1 si1 rr w1 => by
    cases rr
    obtain ⟨ds, y, ds', h1, h2, hf, w2⟩ := w1
    have si1' := si1
    rw [hS] at si1'
    obtain ⟨us, h3, h4, _⟩ := si1'.2.1 a _ h1
    cases h4 with
    | nil => cases h2
    | @cons u us d ds r1 r2 =>
      cases h2
      obtain ⟨af, si⟩ := reg_lst af1.vis si1' h1 r2 hf
      refine ⟨ty_lst h3, a, u :: us, 0, 0, u, rfl, rfl, h3, by decide, by decide, ?_, rfl, ?_⟩
      · unfold seqIndex?
        simp
      · rw [List.eraseIdx_zero]
        exact h u _ _ G1 J1 _ (af1.trans af) (by rw [hS]; exact si) r1 w2⟩
theorem ce_insO {o e : Expr} {j p1 apos pos} {x : M GH β} {x2 : Addr → M GH β} {k : D → M GH β} (he : ∀ a, CE C X ρ e dv (x2 a) (fun d => bnd (mtM a (ins0F d)) k)) (ho : CE C X ρ o R.o x (fun a => bnd (isL a) fun _ => x2 a)) (hS : C.S = SR X.K sc ns := by rfl)
    (hpe : ∀ te te2, PE X o te → PE X e te2 → PE X (.Call (.Attribute o "insert" apos) [.Constant (.int 0) j p1, e] [] pos) (tBM X.K "list" (fun x vs H Q => ∃ (l : Addr) (xs : List V) (i : Int) (y : V), x = .ref l ∧ vs = [.int i, y] ∧ H l = some (.lst xs) ∧ xs.length < sizeLine ∧ 0 ≤ i ∧ i < 2 ^ 63 ∧
    Q .non (upd H l (.lst (xs.take i.toNat ++ [y] ++ xs.drop i.toNat)))) te (tCons (tC (.int 0)) (tCons te2 tNil))) := by intro te te2 h1 h2; exact pe_bm PySem.F.plainAttrs_list PySem.F.slot_list_insert PySem.F.type_list_insert mt_insert h1 (pa_cons pe_int (pa_cons h2 pa_nil))) :
    CE C X ρ (.Call (.Attribute o "insert" apos) [.Constant (.int 0) j p1, e] [] pos) dv x k := fun Qf =>
  PE.imp (hpe _ _ (ho Qf) (PE.ex fun a => he a Qf)) fun σ H Q ⟨G, J, g, st, w, h⟩ => ⟨G, J, g, st, w, fun v a H1 G1 J1 g1 af1 si1 rr w1 => by
    cases rr
    obtain ⟨ds0, _, h0, _, w1⟩ := w1
    have ty : tyV X.K "list" (.ref a) H1 := by
      have si1' := si1
      rw [hS] at si1'
      obtain ⟨us, h3, _⟩ := si1'.2.1 a _ h0
      exact ty_lst h3
    refine ⟨ty, a, G1, J1, g1, st.go af1 si1, w1, fun v2 d H2 G2 J2 g2 af2 si2 r2 w2 => ?_⟩
    obtain ⟨ds, y, ds', h1, h2, hf, w3⟩ := w2
    have si2' := si2
    rw [hS] at si2'
    obtain ⟨us, h3, h4, _⟩ := si2'.2.1 a _ h1
    unfold ins0F at h2
    split at h2
    · rename_i hl
      cases h2
      obtain ⟨af, si⟩ := reg_lst af2.vis si2' h1 (.cons r2 h4) hf
      exact ⟨a, us, 0, v2, rfl, rfl, h3, by rw [h4.length]; exact hl, by decide, by decide, h .non _ _ G2 J2 _ ((af1.trans af2).trans af) (by rw [hS]; exact si) .non w3⟩
    · cases h2⟩
theorem ce_appO {o e : Expr} {apos pos : Pos} {x : M GH β} {x2 : Addr → M GH β} {k : D → M GH β} (he : ∀ a, CE C X ρ e dv (x2 a) (fun d => bnd (mtM a (appOF d)) k)) (ho : CE C X ρ o R.o x (fun a => bnd (isL a) fun _ => x2 a)) (hS : C.S = SR X.K sc ns := by rfl)
    (hpe : ∀ te te2, PE X o te → PE X e te2 → PE X (.Call (.Attribute o "append" apos) [e] [] pos) (tBM X.K "list" rAppend te (tCons te2 tNil)) := by intro te te2 h1 h2; exact pe_bm PySem.F.plainAttrs_list PySem.F.slot_list_append PySem.F.type_list_append mt_append h1 (pa_cons h2 pa_nil)) :
    CE C X ρ (.Call (.Attribute o "append" apos) [e] [] pos) dv x k := fun Qf =>
  PE.imp (hpe _ _ (ho Qf) (PE.ex fun a => he a Qf)) fun σ H Q ⟨G, J, g, st, w, h⟩ => ⟨G, J, g, st, w, fun v a H1 G1 J1 g1 af1 si1 rr w1 => by
    cases rr
    obtain ⟨ds0, _, h0, _, w1⟩ := w1
    have ty : tyV X.K "list" (.ref a) H1 := by
      have si1' := si1
      rw [hS] at si1'
      obtain ⟨us, h3, _⟩ := si1'.2.1 a _ h0
      exact ty_lst h3
    refine ⟨ty, a, G1, J1, g1, st.go af1 si1, w1, fun v2 d H2 G2 J2 g2 af2 si2 r2 w2 => ?_⟩
    obtain ⟨ds, y, ds', h1, h2, hf, w3⟩ := w2
    have si2' := si2
    rw [hS] at si2'
    obtain ⟨us, h3, h4, _⟩ := si2'.2.1 a _ h1
    unfold appOF appF at h2
    split at h2
    · rename_i hl
      cases h2
      obtain ⟨af, si⟩ := reg_lst af2.vis si2' h1 (h4.append (.one r2)) hf
      exact ⟨a, us, v2, rfl, rfl, h3, by rw [h4.length]; exact hl, h .non _ _ G2 J2 _ ((af1.trans af2).trans af) (by rw [hS]; exact si) .non w3⟩
    · cases h2⟩
/-- [..] + such a list -/
def catF (xs ds : List D) : Option (List D) := if xs.length + ds.length ≤ sizeLine then some (xs ++ ds) else none
theorem ce_catLO {l o : Expr} {pos : Pos} {x : M GH β} {x2 : List D → M GH β} {k : List D → M GH β} (ho : ∀ xs, CE C X ρ o R.o (x2 xs) (fun a => bnd (rdM a (catF xs)) k)) (hl : CE C X ρ l lv x x2) (hS : C.S = SR X.K sc ns := by rfl) : CE C X ρ (.BinOp l .Add o pos) lv x k := fun Qf =>
  PE.imp (pe_op op_cat (hl Qf) (PE.ex fun xs => ho xs Qf)) fun σ H Q ⟨G, J, g, st, w, h⟩ => ⟨G, J, g, st, w, fun v xs H1 G1 J1 g1 af1 si1 rr w1 => ⟨xs, G1, J1, g1, st.go af1 si1, w1, fun v2 a H2 G2 J2 g2 af2 si2 r2 w2 => by
    cases r2
    obtain ⟨p, rfl, hb, hg, hj, vs, hv, rl⟩ := RR.aft rr af2
    obtain ⟨ds, y, h1, h2, w3⟩ := w2
    have si2' := si2
    rw [hS] at si2'
    obtain ⟨us, h3, h4, _⟩ := si2'.2.1 a _ h1
    unfold catF at h2
    split at h2
    · rename_i hlen
      cases h2
      refine ⟨p, a, vs, us, rfl, rfl, hv, h3, by rw [rl.length, h4.length]; exact hlen, fun q hq => ?_⟩
      have n : New G2 H2 G2 (upd H2 q (.lst (vs ++ us))) := New.own af2.vis.sub hq
      exact h _ _ _ G2 J2 g2 ((af1.trans af2).trans (n.aft af2.vis)) (SIx.nw si2 n) ⟨q, rfl, (af1.trans af2).back q hq, none_of_sub af2.vis.sub hq, fun j => af2.vis.dom q j hq, _, upd_same, rl.append h4⟩ w3
    · cases h2⟩⟩
end
section
variable {γ : Type} {m : Type → Type} [PM γ m] {α β δ τ ω : Type} {C : Cc γ} {X : Cx} {ρ : En} {rest : List Stmt} {out : ω → En} {outL : τ → En} {rk : δ → R} {x : m β} {kn : ω → m β} {kr : δ → m β} {kb kc : τ → m β}
theorem cs_expr {e : Expr} {pos : Pos} {rk1 : α → R} {xr : m β} (hr : CS C X ρ rest out outL rk xr kn kr kb kc) (he : CE C X ρ e rk1 x (fun _ => xr)) (hs : swapsWith e none pos.line X.env = pure false := by rfl) :
    CS C X ρ (.Expr e pos :: rest) out outL rk x kn kr kb kc := fun Qf =>
  PSs.imp (pss_cons (ps_expr (he Qf) hs) (hr Qf)) fun E σ H ⟨G, J, g, st, w, f⟩ => ⟨G, J, g, st, w, fun v d H' G' J' g' af si rr w' => ⟨G', J', g', st.go af si, w', f.sub af.gg⟩⟩
end
section
variable {α β δ τ ω : Type} {C : Cc GH} {X : Cx} {ρ : En} {sc : Addr} {ns : List Int} {rest : List Stmt} {out : ω → En} {outL : τ → En} {rk : δ → R} {x : M GH β} {kn : ω → M GH β} {kr : δ → M GH β} {kb kc : τ → M GH β}
theorem cs_fldSet {o e : Expr} {kx : Str} {j p1 spos pos} {x2 : D → M GH β} {xr : M GH β} (hu : X.A.units + 1 < cLine) (hr : CS C X ρ rest out outL rk xr kn kr kb kc) (ho : ∀ d, CE C X ρ o R.o (x2 d) (fun a => bnd (putM a (.inr kx) d) fun _ => xr)) (he : CE C X ρ e dv x x2) (hS : C.S = SR X.K sc ns := by rfl)
    (hps : ∀ te to, PSet X rSetD → PE X e te → PE X o to → PS X (.Assign [.Subscript o (.Constant (.str kx) j p1) spos] e pos) (tAsg te (gSub to (tC (.str kx)) rSetD)) := by intro te to hset he ho; exact ps_asg he (pg_sub ho pe_str hset)) :
    CS C X ρ (.Assign [.Subscript o (.Constant (.str kx) j p1) spos] e pos :: rest) out outL rk x kn kr kb kc := fun Qf =>
  PSs.imp (pss_cons (hps _ _ (set_dict hu) (he Qf) (PE.ex fun d => ho d Qf)) (hr Qf)) fun E σ H ⟨G, J, g, st, w, f⟩ => ⟨G, J, g, st, w, fun v d H1 G1 J1 g1 af1 si1 rr w1 => ⟨d, G1, J1, g1, st.go af1 si1, w1, fun v2 a H2 G2 J2 g2 af2 si2 r2 w2 => by
    cases r2
    obtain ⟨kvs, h1, hl, hf, w3⟩ := w2
    have si2' := si2
    rw [hS] at si2'
    obtain ⟨us, h3, h4⟩ := si2'.2.1 a _ h1
    obtain ⟨af, si⟩ := reg_mut (o := .dK (putK us (.inr kx) v)) (c' := .dct (putR kvs (.inr kx) (.d d))) af2.vis si2' h1 ⟨_, upd_same, h4.put (x := .d d) ⟨Rp.sub af2.gg rr, hf⟩⟩
    exact ⟨a, _, rfl, .inl ⟨us, .inr kx, h3, rfl, by rw [h4.length]; exact hl, rfl⟩, G2, J2, _, ((st.go af1 si1).go af2 si2).go af (by rw [hS]; exact si), w3, f.sub ((af1.gg.trans af2.gg).trans af.gg)⟩⟩⟩
theorem cs_fldSetL {o e : Expr} {kx : Str} {j p1 spos pos} {x2 : List D → M GH β} {xr : M GH β} (hu : X.A.units + 1 < cLine) (hr : CS C X ρ rest out outL rk xr kn kr kb kc) (ho : ∀ d, CE C X ρ o R.o (x2 d) (fun a => bnd (putL a (.inr kx) d) fun _ => xr)) (he : CE C X ρ e lv x x2) (hS : C.S = SR X.K sc ns := by rfl)
    (hps : ∀ te to, PSet X rSetD → PE X e te → PE X o to → PS X (.Assign [.Subscript o (.Constant (.str kx) j p1) spos] e pos) (tAsg te (gSub to (tC (.str kx)) rSetD)) := by intro te to hset he ho; exact ps_asg he (pg_sub ho pe_str hset)) :
    CS C X ρ (.Assign [.Subscript o (.Constant (.str kx) j p1) spos] e pos :: rest) out outL rk x kn kr kb kc := fun Qf =>
  PSs.imp (pss_cons (hps _ _ (set_dict hu) (he Qf) (PE.ex fun d => ho d Qf)) (hr Qf)) fun E σ H ⟨G, J, g, st, w, f⟩ => ⟨G, J, g, st, w, fun v d H1 G1 J1 g1 af1 si1 rr w1 => ⟨d, G1, J1, g1, st.go af1 si1, w1, fun v2 a H2 G2 J2 g2 af2 si2 r2 w2 => by
    cases r2
    obtain ⟨kvs, h1, hl, hf, w3⟩ := w2
    obtain ⟨p, rfl, hb, hg, hj, vs, hv, rl⟩ := RR.aft rr af2
    have si2' := si2
    rw [hS] at si2'
    obtain ⟨us, h3, h4⟩ := si2'.2.1 a _ h1
    obtain ⟨vis3, si3, gp⟩ := reg_add (c := .lst d) af2.vis si2' hg hj ⟨vs, hv, rl, hf⟩ (by rw [hv]; exact Option.some_ne_none _)
    have ne : p ≠ a := fun z => by rw [z, h3] at hv; cases hv
    have h1' : gset g2 p (.lst d) a = some (.dct kvs) := by rw [gset_ne (Ne.symm ne)]; exact h1
    obtain ⟨af, si⟩ := reg_mut (o := .dK (putK us (.inr kx) (.ref p))) (c' := .dct (putR kvs (.inr kx) (.r p))) vis3 si3 h1' ⟨_, upd_same, h4.put (x := .r p) rfl⟩
    have af' : Aft G J H G2 (fun b => b = p ∨ J2 b) H2 := (af1.trans af2).addJ hb vis3
    exact ⟨a, _, rfl, .inl ⟨us, .inr kx, h3, rfl, by rw [h4.length]; exact hl, rfl⟩, G2, _, _, st.go (af'.trans af) (by rw [hS]; exact si), w3 p gp ne, f.sub ((af1.gg.trans af2.gg).trans af.gg)⟩⟩⟩
theorem cs_setItO {o i e : Expr} {spos pos} {x2 : D → M GH β} {x3 : D → Addr → M GH β} {xr : M GH β} (hr : CS C X ρ rest out outL rk xr kn kr kb kc) (hi : ∀ d a, CE C X ρ i dv (x3 d a) (fun j => bnd (mtM a (setOF j d)) fun _ => xr)) (ho : ∀ d, CE C X ρ o R.o (x2 d) (x3 d)) (he : CE C X ρ e dv x x2) (hS : C.S = SR X.K sc ns := by rfl)
    (hps : ∀ te to ti, PE X e te → PE X o to → PE X i ti → PS X (.Assign [.Subscript o i spos] e pos) (tAsg te (gSub to ti rSetL)) := by intro te to ti he ho hi; exact ps_asg he (pg_sub ho hi set_list)) :
    CS C X ρ (.Assign [.Subscript o i spos] e pos :: rest) out outL rk x kn kr kb kc := fun Qf =>
  PSs.imp (pss_cons (hps _ _ _ (he Qf) (PE.ex fun d => ho d Qf) (PE.ex fun p : D × Addr => hi p.1 p.2 Qf)) (hr Qf)) fun E σ H ⟨G, J, g, st, w, f⟩ => ⟨G, J, g, st, w, fun v d H1 G1 J1 g1 af1 si1 rr w1 => ⟨d, G1, J1, g1, st.go af1 si1, w1, fun v2 a H2 G2 J2 g2 af2 si2 r2 w2 => by
    cases r2
    refine ⟨(d, a), G2, J2, g2, (st.go af1 si1).go af2 si2, w2, fun v3 jj H3 G3 J3 g3 af3 si3 r3 w3 => ?_⟩
    obtain ⟨ds, y, ds', h1, h2, hf, w4⟩ := w3
    have si3' := si3
    rw [hS] at si3'
    obtain ⟨us, h3, h4, _⟩ := si3'.2.1 a _ h1
    cases r3 with
    | int n =>
      unfold setOF setF at h2
      dsimp only at h2
      cases q : ixN ds.length n with
      | none => rw [q] at h2; cases h2
      | some jn =>
        rw [q] at h2
        cases h2
        obtain ⟨af, si⟩ := reg_lst af3.vis si3' h1 (h4.set (Rp.sub (af2.trans af3).gg rr) jn) hf
        exact ⟨a, us, n, jn, rfl, rfl, h3, by rw [h4.length]; exact q, G3, J3, _, ((st.go af1 si1).go (af2.trans af3) si3).go af (by rw [hS]; exact si), w4, f.sub (((af1.gg.trans af2.gg).trans af3.gg).trans af.gg)⟩
    | _ => cases h2⟩⟩
end

/-! ### a new dict -/
def own1 (r : R) (v : V) (q : Addr) : Prop := match r with
  | .l _ => v = .ref q
  | _ => False
inductive RKs (K : PySem.W.Frag) (G : Hp) (J : Addr → Prop) (H Hb : Hp) : List (V × V) → List (Key × R) → Prop
  | nil : RKs K G J H Hb [] []
  | cons {k : Key} {v : V} {r : R} {ps : List (V × V)} {es : List (Key × R)} : RR K G J H Hb v r → (∀ q, own1 r v q → Hb q = none) → RKs K G J H Hb ps es → (∀ q, own1 r v q → ∀ (i : Nat) (p : V × V) (e : Key × R), ps[i]? = some p → es[i]? = some e → ¬ own1 e.2 p.2 q) → RKs K G J H Hb ((kV k, v) :: ps) ((k, r) :: es)
def TP := L2.St → Hp → (List (V × V) → Hp → Prop) → Prop
structure PPx (X : Cx) (pos : Pos) (keys : List (Option Expr)) (values : List Expr) (t : TP) : Prop where
  run : ∀ (pins : List (Addr × Obj)) (s : Shared) (σ : L2.St) (H : Hp) (Q : List (V × V) → Hp → Prop), Inv X pins σ H s → t σ H Q →
    wpAny (model X.prog X.w) X.A (evalPairs (pairTrees keys values X.env pos)) (fun vs s' => ∃ ps H', Inv X pins σ H' s' ∧ VV ps vs ∧ Q ps H') X.xe s
theorem ppx_nil {X : Cx} {pos : Pos} : PPx X pos [] [] (fun _ H Q => Q [] H) := ⟨fun pins s σ H Q I h => pairTrees_nil_walk ⟨[], H, I, .nil, h⟩⟩
theorem ppx_cons {X : Cx} {pos : Pos} {k v : Expr} {ks : List (Option Expr)} {vs : List Expr} {tk tv : TE} {t : TP} (hk : PE X k tk) (hv : PE X v tv) (hr : PPx X pos ks vs t) :
    PPx X pos (some k :: ks) (v :: vs) (fun σ H Q => tk σ H fun x H1 => tv σ H1 fun y H2 => t σ H2 fun ps H3 => Q ((x, y) :: ps) H3) := ⟨fun pins s σ H Q I h =>
  pairTrees_cons_walk (thn (hk.run pins s σ H _ I h) fun u s1 ⟨x, H1, I1, rx, q1⟩ => thn (hv.run pins s1 σ H1 _ I1 q1) fun w2 s2 ⟨y, H2, I2, ry, q2⟩ =>
    thn (hr.run pins s2 σ H2 _ I2 q2) fun ws s3 ⟨ps, H3, I3, rel, q3⟩ => ⟨(x, y) :: ps, H3, I3, .cons ⟨rx, ry⟩ rel, q3⟩)⟩
theorem PPx.imp {X : Cx} {pos : Pos} {ks vs} {t t' : TP} (h : PPx X pos ks vs t) (i : ∀ σ H Q, t' σ H Q → t σ H Q) : PPx X pos ks vs t' := ⟨fun pins s σ H Q I q => h.run pins s σ H Q I (i σ H Q q)⟩
theorem PPx.ex {X : Cx} {pos : Pos} {ks vs} {ι : Type} {t : ι → TP} (h : ∀ i, PPx X pos ks vs (t i)) : PPx X pos ks vs (fun σ H Q => ∃ i, t i σ H Q) := ⟨fun pins s σ H Q I ⟨i, q⟩ => (h i).run pins s σ H Q I q⟩
def tDispX (t : TP) : TE := fun σ H Q => ∀ p, H p = none → t σ (upd H p (.dK [])) fun ps H2 => H2 p = some (.dK []) ∧ ∃ kvs : List (Key × V), ps = kvs.map (fun kv => (kV kv.1, kv.2)) ∧ kvs.length ≤ 15 ∧ Q (.ref p) (upd H2 p (.dK (mergeK [] kvs)))
theorem pe_dispX {X : Cx} {pos : Pos} {keys : List (Option Expr)} {values : List Expr} {t : TP} (h : PPx X pos keys values t) (hall : keys.all (·.isSome) = true) (hl : keys.length = values.length) (h0 : keys ≠ [])
    (h15 : keys.length ≤ 15) : PE X (.Dict keys values pos) (tDispX t) := by
  refine ⟨fun pins s σ H Q I q => ?_⟩
  have hn := I.hok.fresh (Nat.le_refl s.heap.objs.size)
  have I1 := I.laid (a := s.heap.objs.size) (o := .dK []) (h' := s.heap.push { cls := .type "dict", data := .dict #[] }) (t' := s.toks) (fun _ _ q => Heap.get?_push_of_some _ q) (Nat.le_refl _) (dk_empty s.heap I.big)
  refine wpAny_Dict_walk (knd := mixKind X.prog X.w) hall hl h0 h15 (thn (h.run pins _ σ _ _ I1 (q _ hn)) fun ws s2 ⟨ps, H2, I2, rel, e, kvs, ep, lk, q2⟩ => ?_)
  subst ep
  obtain ⟨rs, c, rk⟩ := carries_of (P := X.prog) (w := X.w) rel
  obtain ⟨z, hd, vs0, r0, dd⟩ := dk_of I2.hok e
  cases r0
  refine ⟨rs, c, dd, fun h' dd' hs => ⟨.ref s.heap.objs.size, _, ?_, rfl, q2⟩⟩
  have hz : (mergeK [] kvs).length ≤ sizeLine := by
    have h1 := length_mergeK kvs []
    rw [List.length_nil] at h1
    rw [sizeLine_eq]; omega
  have he : ∃ q, h'.get? s.heap.objs.size = some q := let ⟨q, _, _, hq, _⟩ := dd'; ⟨q, hq⟩
  exact d_write I2 (by rw [e]; exact True.intro) hs he (dk_new hz hd (rk.merge .nil) dd')
section
variable {K : PySem.W.Frag} {G G' H H' Hb Hc : Hp} {J J' : Addr → Prop}
theorem own1_rr {r : R} {v : V} {q : Addr} (h : RR K G J H Hb v r) (o : own1 r v q) : Hb q = none ∧ G q = none ∧ ¬ J q ∧ H q ≠ none := by
  cases r with
  | v d => exact o.elim
  | o a => exact o.elim
  | l c =>
    obtain ⟨p, rfl, h1, h2, h3, h4⟩ := h
    cases o
    obtain ⟨u, hu⟩ := h4.ex
    exact ⟨h1, h2, h3, by rw [hu]; exact Option.some_ne_none _⟩
theorem RKs.base (k : ∀ a, Hb a = none → Hc a = none) : ∀ {ps : List (V × V)} {es : List (Key × R)}, RKs K G J H Hb ps es → RKs K G J H Hc ps es
  | _, _, .nil => .nil
  | _, _, .cons h hb t d => .cons (h.base k) (fun q o => k q (hb q o)) (RKs.base k t) d
theorem RKs.own : ∀ {ps : List (V × V)} {es : List (Key × R)}, RKs K G J H Hb ps es → ∀ (i : Nat) (p : V × V) (e : Key × R) (q : Addr), ps[i]? = some p → es[i]? = some e → own1 e.2 p.2 q → Hb q = none
  | _, _, .nil, i, p, e, q, h1, _, _ => by simp at h1
  | _, _, .cons h hb t d, 0, p, e, q, h1, h2, o => by
    simp at h1 h2
    subst h1 h2
    exact hb q o
  | _, _, .cons h hb t d, i + 1, p, e, q, h1, h2, o => RKs.own t i p e q (by simpa using h1) (by simpa using h2) o
end
theorem RR.addJ {K : PySem.W.Frag} {G H Hb : Hp} {J : Addr → Prop} {v : V} {r : R} {q : Addr} (h : RR K G J H Hb v r) (hq : ¬ own1 r v q) : RR K G (fun a => a = q ∨ J a) H Hb v r := by
  cases r with
  | v d => exact h
  | o a => exact h
  | l c =>
    obtain ⟨p, rfl, h1, h2, h3, h4⟩ := h
    exact ⟨p, rfl, h1, h2, fun z => z.elim (fun e => hq (by rw [e]; exact rfl)) h3, h4⟩
theorem RKs.addJ {K : PySem.W.Frag} {G H Hb : Hp} {J : Addr → Prop} {q : Addr} : ∀ {ps : List (V × V)} {es : List (Key × R)}, RKs K G J H Hb ps es → (∀ (i : Nat) (p : V × V) (e : Key × R), ps[i]? = some p → es[i]? = some e → ¬ own1 e.2 p.2 q) → RKs K G (fun a => a = q ∨ J a) H Hb ps es
  | _, _, .nil, _ => .nil
  | _, _, .cons h hb t d, n => .cons (h.addJ (n 0 _ _ rfl rfl)) hb (RKs.addJ t fun i p e h1 h2 => n (i + 1) p e (by simpa using h1) (by simpa using h2)) d
theorem alloc_all {K : PySem.W.Frag} {sc : Addr} {ns : List Int} {G H Hb : Hp} : ∀ {es : List (Key × R)} {ps : List (V × V)} {J : Addr → Prop} {g : GH} {Q : List (Key × RV) → GH → Prop}, RKs K G J H Hb ps es → Vis G J H → (SR K sc ns).si g G J H → allocs es g Q →
    ∃ J' g' kvs us, Vis G J' H ∧ (SR K sc ns).si g' G J' H ∧ RVs K G us kvs ∧ ps = us.map (fun kv => (kV kv.1, kv.2)) ∧ us.map (·.1) = es.map (·.1) ∧ Q kvs g' ∧ ∀ a, J' a → J a ∨ Hb a = none
  | [], _, J, g, Q, .nil, vis, si, h => ⟨J, g, [], [], vis, si, .nil, rfl, rfl, h, fun a j => .inl j⟩
  | (k, .v d) :: es, _, J, g, Q, .cons (v := v) h hb t dj, vis, si, al => by
    obtain ⟨J', g', kvs, us, a1, a2, a3, a4, a5, a6, a7⟩ := alloc_all t vis si al.2
    exact ⟨J', g', _, (k, v) :: us, a1, a2, .d h al.1 a3, by rw [List.map_cons, a4], by rw [List.map_cons, List.map_cons, a5], a6, a7⟩
  | (k, .o x) :: es, _, J, g, Q, .cons (v := v) h hb t dj, vis, si, al => by
    cases h
    obtain ⟨J', g', kvs, us, a1, a2, a3, a4, a5, a6, a7⟩ := alloc_all (es := es) t vis si al
    exact ⟨J', g', _, (k, .ref x) :: us, a1, a2, .r a3, by rw [List.map_cons, a4], by rw [List.map_cons, List.map_cons, a5], a6, a7⟩
  | (k, .l (.lst ds)) :: es, _, J, g, Q, .cons (v := v) h hb t dj, vis, si, al => by
    obtain ⟨q, rfl, h1, h2, h3, vs, h4, h5⟩ := h
    obtain ⟨vis2, si2, gq⟩ := reg_add (c := .lst ds) vis si h2 h3 ⟨vs, h4, h5, al.1⟩ (by rw [h4]; exact Option.some_ne_none _)
    obtain ⟨J', g', kvs, us, a1, a2, a3, a4, a5, a6, a7⟩ := alloc_all (t.addJ (dj q rfl)) vis2 si2 (al.2 q gq)
    refine ⟨J', g', _, (k, .ref q) :: us, a1, a2, .r a3, by rw [List.map_cons, a4], by rw [List.map_cons, List.map_cons, a5], a6, fun a j => ?_⟩
    rcases a7 a j with (z | z) | z
    · rw [z]; exact .inr h1
    · exact .inl z
    · exact .inr z
  | (k, .l (.dct _)) :: es, _, J, g, Q, .cons (v := v) h hb t dj, vis, si, al => al.elim
theorem merge_new : ∀ {us acc : List (Key × V)}, (us.map (·.1)).Nodup → (∀ p ∈ us, ∀ q ∈ acc, q.1 ≠ p.1) → mergeK acc us = acc ++ us
  | [], acc, _, _ => by rw [List.append_nil]; rfl
  | (k, v) :: us, acc, hn, hd => by
    rw [List.map_cons, List.nodup_cons] at hn
    show mergeK (putK acc k v) us = _
    have e : putK acc k v = acc ++ [(k, v)] := by
      unfold putK
      rw [if_neg]
      intro z
      obtain ⟨q, h1, h2⟩ := List.any_eq_true.mp z
      exact hd (k, v) List.mem_cons_self q h1 (of_decide_eq_true h2)
    rw [e, merge_new hn.2 fun p hp q hq => ?_, List.append_assoc]
    · rfl
    · rcases List.mem_append.mp hq with z | z
      · exact hd p (List.mem_cons_of_mem _ hp) q z
      · rw [List.mem_singleton.mp z]
        exact fun e => hn.1 (by rw [e]; exact List.mem_map_of_mem hp)
section
variable {α β δ τ ω : Type} {C : Cc GH} {X : Cx} {ρ : En} {sc : Addr} {ns : List Int}
def CDc {β : Type} (C : Cc GH) (X : Cx) (ρ : En) (pos : Pos) (ks : List (Option Expr)) (vs : List Expr) (x : M GH β) (k : List (Key × R) → M GH β) : Prop :=
  ∀ Qf : β → GH → Prop, PPx X pos ks vs (fun σ H Q => ∃ G J g, C.St X.K ρ σ H G J g ∧ PM.wp x g Qf C.EX ∧
    ∀ ps es H' G' J' g', Aft G J H G' J' H' → C.S.si g' G' J' H' → RKs X.K G' J' H' H ps es → PM.wp (k es) g' Qf C.EX → Q ps H')
theorem cdc_nil {pos : Pos} {k : List (Key × R) → M GH β} : CDc C X ρ pos [] [] (k []) k := fun Qf => PPx.imp ppx_nil fun σ H Q ⟨G, J, g, st, w, h⟩ => h [] [] H G J g (Aft.refl st.vis) st.si .nil w
theorem RKs.aft {K : PySem.W.Frag} {G G' H H' Hb : Hp} {J J' : Addr → Prop} (a : Aft G J H G' J' H') : ∀ {ps : List (V × V)} {es : List (Key × R)}, RKs K G J H Hb ps es → RKs K G' J' H' Hb ps es
  | _, _, .nil => .nil
  | _, _, .cons h hb t d => .cons (h.aft a) hb (RKs.aft a t) d
theorem cdc_cons {pos : Pos} {kx : Str} {j p1} {e : Expr} {ks : List (Option Expr)} {es : List Expr} {rk : α → R} {x : M GH β} {y : α → M GH β} {k : List (Key × R) → M GH β} (hr : ∀ a, CDc C X ρ pos ks es (y a) (fun rs => k ((.inr kx, rk a) :: rs))) (he : CE C X ρ e rk x y) :
    CDc C X ρ pos (some (.Constant (.str kx) j p1) :: ks) (e :: es) x k := fun Qf =>
  PPx.imp (ppx_cons pe_str (he Qf) (PPx.ex fun a => hr a Qf)) fun σ H Q ⟨G, J, g, st, w, h⟩ => ⟨G, J, g, st, w, fun v a H1 G1 J1 g1 af1 si1 rr w1 => ⟨a, G1, J1, g1, st.go af1 si1, w1, fun ps rs H' G' J' g' af si rks w' =>
    h ((.str kx, v) :: ps) ((.inr kx, rk a) :: rs) H' G' J' g' (af1.trans af) si (.cons (k := .inr kx) (rr.aft af) (fun q o => (own1_rr rr o).1) (rks.base af1.back) fun q o i p e h1 h2 o2 => (own1_rr rr o).2.2.2 (rks.own i p e q h1 h2 o2)) w'⟩⟩
theorem ce_dct {pos : Pos} {ks : List (Option Expr)} {vs : List Expr} {x : M GH β} {k : Addr → M GH β} (h : CDc C X ρ pos ks vs x (fun es => bnd (nwM es) k)) (hS : C.S = SR X.K sc ns := by rfl) (hall : ks.all (·.isSome) = true := by rfl) (hl : ks.length = vs.length := by rfl) (h0 : ks ≠ [] := by intro z; cases z) (h15 : ks.length ≤ 15 := by decide) :
    CE C X ρ (.Dict ks vs pos) R.o x k := fun Qf =>
  PE.imp (pe_dispX (h Qf) hall hl h0 h15) fun σ H Q ⟨G, J, g, st, w, hQ⟩ => fun p hp => by
    have n : New G H G (upd H p (.dK [])) := New.own st.vis.sub hp
    have af0 := n.aft st.vis
    have gp : G p = none := none_of_sub st.vis.sub hp
    have jp : ¬ J p := fun j => st.vis.dom p j hp
    refine ⟨G, J, g, st.go af0 (SIx.nw st.si n), w, fun ps es H2 G2 J2 g2 af si rks w2 => ?_⟩
    obtain ⟨hD2, g2D, j2D⟩ := af.keepD upd_same gp jp
    have si' := si
    rw [hS] at si'
    obtain ⟨hnd, hlen, al⟩ := w2
    obtain ⟨J3, g3, kvs, us, vis3, si3, rv, ep, ek, w3, hj3⟩ := alloc_all rks af.vis si' al
    have hkeys : (us.map (·.1)).Nodup := by rw [ek]; exact hnd
    have j3 : ¬ J3 p := fun z => by
      rcases hj3 p z with q | q
      · exact j2D q
      · rw [upd_same] at q; cases q
    obtain ⟨vis4, si4, gp3⟩ := reg_add (c := .dct []) vis3 si3 g2D j3 ⟨[], hD2, .nil⟩ (by rw [hD2]; exact Option.some_ne_none _)
    obtain ⟨af5, si5⟩ := reg_mut (o := .dK us) (c' := .dct kvs) vis4 si4 gset_same ⟨us, upd_same, rv⟩
    have eg : gset (gset g3 p (.dct [])) p (.dct kvs) = gset g3 p (.dct kvs) := by
      funext b
      by_cases z : b = p
      · subst z; rw [gset_same, gset_same]
      · rw [gset_ne z, gset_ne z, gset_ne z]
    rw [eg] at si5
    have em : mergeK [] us = us := by
      rw [merge_new hkeys (fun _ _ q hq => by simp at hq)]
      rfl
    have hlu : us.length ≤ 15 := by
      have := congrArg List.length ek
      rw [List.length_map, List.length_map] at this
      rw [this]; exact hlen
    refine ⟨hD2, us, ep, hlu, ?_⟩
    rw [em]
    have afA : Aft G J H G2 (fun b => b = p ∨ J3 b) H2 := by
      have a1 := af0.trans af
      refine ⟨a1.gg, a1.hh, a1.dm, a1.gn, fun b jb => ?_, vis4⟩
      rcases jb with rfl | jb
      · exact .inr hp
      · rcases hj3 b jb with q | q
        · exact a1.jn b q
        · refine .inr ?_
          by_cases z : b = p
          · subst z; exact hp
          · rw [upd_ne z] at q; exact q
    exact hQ _ p _ G2 _ _ (afA.trans af5) (by rw [hS]; exact si5) rfl (w3 p gp3)
end
end Cl

set_option Elab.async false
set_option linter.all false
set_option autoImplicit false
set_option maxRecDepth 100000
set_option maxHeartbeats 4000000
/-! the clean layer, part O: the law itself -/
namespace Cl
open PySem PySem.Spec PyProof.Rows L2
open MO

theorem scr_ok {K : PySem.W.Frag} {T : Hp} {a : Addr} {ns : List Int} (only : Only T) (h : SqL K T a (ns.map V.int)) : ScrOk K T a ns := by
  rcases h with h | h
  · rcases h with h | ⟨o, h⟩
    · rcases only a with z | ⟨o, ys, z⟩ <;> rw [h] at z <;> cases z
    · exact .inl ⟨o, h⟩
  · exact .inr fun _ => .inr h
section
variable {P : Program} {w : World} {K : PySem.W.Frag} {mg mb : Str → Option Value} {k : Nat} {fa sa : Addr} {fd : FuncData} {px : Str} {sp : Sp} {s1 : Shared} {us : List Value} {ns : List Int}
/-- from a heap in which at most the script is told -/
theorem call_at (KX : K.In s1.heap) (hns : s1.heap.Ns mainGlobals mg) (hb : s1.heap.Ns builtinsNs mb) (hbb : ∀ z : Str, z ≠ "__name__" → mb z = bootBuiltins z) (hlim : s1.heap.NoLimit) (hgen : s1.gens = #[])
    (hobj : s1.heap.get? sa = some { cls := .type "list", data := .seq us.toArray }) (hr : Room k callerA)
    (F : ∀ base : Heap, K.In base → base.Ns mainGlobals mg → FnG P w K mg base k fa fd [px] sp) (bind : ∀ (t : Shared) (u : Value), BindsTo t fd ⟨[u], []⟩ [(px, u)]) (T : Hp) (only : Only T) (hsp : sp [.ref sa] T (fun v _ => v = .bl true) fun _ _ _ => False)
    (hok : HOk P w T s1.heap) (atA : ∀ c, T c ≠ none → c = sa) (notK : T sa ≠ none → K.lookup sa = none) :
    codeAny (model P w) callerA (.call (.ref fa) ⟨[.ref sa], []⟩) (fun res s2 => res = .ok (.ret (.bool true)) ∧ OldK s1.heap s2.heap ∧ s2.os = s1.os ∧ AllBare s2.gens) s1 := by
  have low : ∀ {c : Addr} {o : Obj}, s1.heap.get? c = some o → T c = none → (hidT s1.heap T).get? c = some o := fun e n => hidT_get e n
  have free : ∀ {c : Addr} {o : Obj} {es : Array DictEntry} {ep : Nat}, s1.heap.get? c = some o → o.data = .dict es ep → T c = none := fun {c o es ep} e d => by
    cases q : T c with
    | none => rfl
    | some v =>
      have z := atA c (by rw [q]; exact Option.some_ne_none v)
      subst z
      rw [hobj] at e
      cases e
      exact absurd d (by intro z; cases z)
  have names : ∀ {c : Addr} {f : Str → Option Value}, s1.heap.Ns c f → (hidT s1.heap T).Ns c f := fun {c f} ⟨o, es, ep, e, d, r⟩ => ⟨o, es, ep, low e (free e d), d, r⟩
  have kb : K.In (hidT s1.heap T) := fun c o e => low (KX c o e) (by
    cases q : T c with
    | none => rfl
    | some v =>
      have z := atA c (by rw [q]; exact Option.some_ne_none v)
      subst z
      rw [notK (by rw [q]; exact Option.some_ne_none v)] at e
      cases e)
  have md : Mod K mg (hidT s1.heap T) := ⟨kb, names hns, ⟨mb, names hb, hbb⟩, let ⟨mc, y1, y2⟩ := hlim; ⟨mc, names y1, y2⟩⟩
  have start : Env0 P w K mg (hidT s1.heap T) callerA [] s1 T := ⟨rfl, md, fun c o e => of_hidT e, Nat.le_of_eq (hidT_size _ _), trivial, fun c hc => absurd (show c ∈ ([] : List Addr) from hc) (by simp), hok, .of_eq hgen⟩
  refine codeAny_mono ((F _ kb (names hns)).does callerA [] s1 T ⟨[.ref sa], []⟩ [.ref sa] [.ref sa] _ _ hr rfl start (bind s1 (.ref sa)) (.cons rfl .nil) hsp) fun res s2 got => ?_
  match res, got with
  | .error _, got => exact got.elim
  | .ok .next, got => exact False.elim got
  | .ok .brk, got => exact False.elim got
  | .ok .cont, got => exact False.elim got
  | .ok (.ret u), got =>
    obtain ⟨v, T2, os, bare, un, hok2, rel, end_⟩ := got
    have end2 : v = .bl true := end_
    subst end2
    obtain rfl : u = Value.bool true := rel
    refine ⟨rfl, OldK.of_keep fun c o e => ?_, os, bare⟩
    cases q : T c with
    | none => exact un.keep c o e q (by intro z; exact absurd (show c ∈ ([] : List Addr) from z) (by simp)) (by simp)
    | some v =>
      rcases only c with z | ⟨oc, ys, z⟩
      · rw [q] at z; cases z
      · obtain ⟨y1, _⟩ := hok c _ z
        obtain ⟨y2, _⟩ := hok2 c _ (un.frzs c oc _ z)
        rw [e] at y1
        cases y1
        exact y2
theorem call_law (KX : K.In s1.heap) (hns : s1.heap.Ns mainGlobals mg) (hb : s1.heap.Ns builtinsNs mb) (hbb : ∀ z : Str, z ≠ "__name__" → mb z = bootBuiltins z) (hlim : s1.heap.NoLimit) (hgen : s1.gens = #[])
    (hobj : s1.heap.get? sa = some { cls := .type "list", data := .seq us.toArray }) (inz : IntsAre us ns) (hl : ns.length ≤ sizeLine) (hr : Room k callerA)
    (F : ∀ base : Heap, K.In base → base.Ns mainGlobals mg → FnG P w K mg base k fa fd [px] sp) (bind : ∀ (t : Shared) (u : Value), BindsTo t fd ⟨[u], []⟩ [(px, u)])
    (hsp : ∀ T : Hp, Only T → SqL K T sa (ns.map V.int) → sp [.ref sa] T (fun v _ => v = .bl true) fun _ _ _ => False) :
    codeAny (model P w) callerA (.call (.ref fa) ⟨[.ref sa], []⟩) (fun res s2 => res = .ok (.ret (.bool true)) ∧ OldK s1.heap s2.heap ∧ s2.os = s1.os ∧ AllBare s2.gens) s1 := by
  have rel := vals_ints inz
  have lu := inz.length
  cases look : K.lookup sa with
  | some o =>
    have e := KX sa o look
    rw [hobj] at e
    cases e
    exact call_at KX hns hb hbb hlim hgen hobj hr F bind (fun _ => none) (fun _ => .inl rfl) (hsp _ (fun _ => .inl rfl) (.inr ⟨_, us.toArray, _, look, rfl, rfl, rfl, (by rw [List.size_toArray, lu]; exact hl), (by simpa using rel)⟩))
      (fun c v z => by cases (show (none : Option HO) = some v from z)) (fun c z => absurd rfl z) fun z => absurd rfl z
  | none =>
    let T : Hp := fun c => if c = sa then some (.frz { cls := .type "list", data := .seq us.toArray } (.lst (ns.map V.int))) else none
    have tA : T sa = some (.frz { cls := .type "list", data := .seq us.toArray } (.lst (ns.map V.int))) := if_pos rfl
    have tN : ∀ c, c ≠ sa → T c = none := fun c h => if_neg h
    have only : Only T := fun c => by
      by_cases z : c = sa
      · subst z; exact .inr ⟨_, _, tA⟩
      · exact .inl (tN c z)
    refine call_at KX hns hb hbb hlim hgen hobj hr F bind T only (hsp T only (.inl (.inr ⟨_, tA⟩))) (fun c v z => ?_) (fun c z => Classical.byContradiction fun n => z (tN c n)) fun _ => look
    by_cases q : c = sa
    · subst q
      rw [tA] at z
      cases z
      exact ⟨hobj, (by rw [List.length_map]; exact hl), us, _, rel, hobj⟩
    · rw [tN c q] at z
      cases z
end
/-- the goal that k_head leaves, from the law's mirror -/
theorem law_end {l : PySem.W.OpenLaw} {n lvl : Nat} {q : Program} {loose : List Str} {XP : (Str → Option Value) → Heap → Prop} {YP : World → Heap → Prop} {d : DefRec} {K : Params → PySem.W.Frag} {px : Str} {f : Addr → List Int → Ar [false] → M GH Bool}
    (hn : l.most = some n) (hn2 : n ≤ sizeLine) (hdf : d.params.defaults = []) (hr : Room lvl callerA) (hY : ∀ (w : World) (h : Heap), YP w h → (K w.params).In h)
    (F : ∀ (w : World) (mg : Str → Option Value) (h : Heap), (K w.params).In h → h.Ns mainGlobals mg →
      ∀ (sc : Addr) (ns : List Int) (base : Heap), (K w.params).In base → base.Ns mainGlobals mg → Cal l.prog w (K w.params) mg base d.name lvl [px] (spC (K w.params) (SR (K w.params) sc ns) [false] (f sc ns) bv))
    (math : ∀ (sc : Addr) (ns : List Int), ns.length ≤ n → (f sc ns (sc, ())).wp (fun _ => none) (fun b _ => b = true) (fun _ _ => False)) :
    PySem.W.WalkO q loose XP YP l.row.toRowW d [] (fun f vs => PySem.call f vs) := by
  refine Att.attach_call hn hdf fun w s0 s1 mg mb fa o pm cd doc sa us ns G Y ho hd hcd hmg hobj inz hlen hgen => ?_
  have KX := hY w _ Y
  obtain ⟨f0, fd, m0, F0, k0, b0, b1, oc, od, sl, lk⟩ := (F w mg _ KX G.T.g sa ns _ KX G.T.g).ex
  rw [hmg] at m0
  cases m0
  refine call_law (sp := spC (K w.params) (SR (K w.params) sa ns) [false] (f sa ns) bv) KX G.T.g G.T.b G.T.builtins G.T.nolimit hgen hobj inz (Nat.le_trans hlen hn2) hr (fun base kb nb => ?_) (fun t u => b0 t _ [u] rfl (b1 [u] rfl)) fun T only hS => ?_
  · obtain ⟨f', fd', m', F', k', _, _, oc', od', sl', lk'⟩ := (F w mg _ KX G.T.g sa ns base kb nb).ex
    rw [hmg] at m'
    cases m'
    rw [lk] at lk'
    cases lk'
    exact F'
  · refine ⟨T, fun _ => False, fun _ => none, [.o sa], ⟨Sub.refl _, fun _ z => z.elim, fun _ z => z.elim⟩, ⟨fun _ => ⟨fun z => z.elim, fun z => absurd rfl z⟩, (fun _ _ z => by cases z), scr_ok only hS⟩, .o .nil, rfl, ?_⟩
    refine (f sa ns (sa, ())).mono (math sa ns hlen) fun b g e => ?_
    subst e
    intro v H' G' J' _ _ rr
    cases rr
    rfl
end Cl

set_option Elab.async false
set_option linter.all false
set_option autoImplicit false
set_option maxRecDepth 100000
set_option maxHeartbeats 4000000
/-! the clean layer, part P: odds and ends; what stands behind the top -/
namespace Cl
open PySem PySem.Spec PyProof.Rows L2
open MO

theorem Room.u64 {k : Nat} {A : Around} (r : L2.Room k A) : A.units + 64 < cLine := by have := r.un; omega
theorem Room.u65 {k : Nat} {A : Around} (r : L2.Room k A) : A.units + 65 < cLine := by have := r.un; omega
theorem Room.u1 {k : Nat} {A : Around} (r : L2.Room k A) : A.units + 1 < cLine := by have := r.un; omega
section
variable {γ : Type} {m : Type → Type} [PM γ m] {α β δ τ : Type} {C : Cc γ} {X : Cx} {ρ : En}
theorem ce_to {e : Expr} (rk : α → D) {x : m β} {k : D → m β} (h : CE C X ρ e (fun a => R.v (rk a)) x (fun a => k (rk a))) : CE C X ρ e dv x k := fun Qf =>
  PE.imp (h Qf) fun σ H Q ⟨G, J, g, st, w, q⟩ => ⟨G, J, g, st, w, fun v a H' G' J' g' af si rr w' => q v (rk a) H' G' J' g' af si rr w'⟩
theorem ce_boolB {b : Bool} {j pos} {k : Bool → m β} : CE C X ρ (.Constant (.bool b) j pos) bv (k b) k := fun Qf =>
  PE.imp pe_bl fun σ H Q ⟨G, J, g, st, w, h⟩ => h _ b H G J g (Aft.refl st.vis) st.si (.bl _) w
end
section
variable {γ : Type} {m : Type → Type} [PM γ m] {α β δ τ : Type} {C : Cc γ} {X : Cx} {ρ : En} {ss : List Stmt} {out : α → En} {outL : τ → En} {rk : δ → R} {x y : m β} {kn : α → m β} {kr : δ → m β} {kb kc : τ → m β}
theorem cs_eq (h : CS C X ρ ss out outL rk x kn kr kb kc) (e : y = x) : CS C X ρ ss out outL rk y kn kr kb kc := e ▸ h
end
/-! ### a list of one's own is given to the region -/
def giveM (xs : List D) : M GH Addr := ⟨fun g Q _ => flatL xs = true ∧ ∀ q, g q = none → Q q (gset g q (.lst xs)), fun ⟨h1, h2⟩ hq => ⟨h1, fun q e => hq _ _ (h2 q e)⟩⟩
section
variable {α β δ τ : Type} {C : Cc GH} {X : Cx} {ρ : En} {ss : List Stmt} {out : α → En} {outL : τ → En} {rk : δ → R} {kn : α → M GH β} {kr : δ → M GH β} {kb kc : τ → M GH β} {sc : Addr} {ns : List Int}
theorem cs_give {x : Addr → M GH β} (i : Nat) {xs : List D} (hi : ρ[i]? = some (some (.own (.lst xs)))) (h : ∀ q, CS C X (ρ.set i (some (.obj q))) ss out outL rk (x q) kn kr kb kc) (hS : C.S = SR X.K sc ns := by rfl) :
    CS C X ρ ss out outL rk (bnd (giveM xs) x) kn kr kb kc := fun Qf =>
  PSs.imp (PSs.ex fun q => h q Qf) fun E σ H ⟨G, J, g, st, w, f⟩ => by
    obtain ⟨p, h1, h2, h3, h4, vs, h5, h6⟩ := st.env.own i _ hi
    obtain ⟨hf, w2⟩ := w
    have si := st.si
    rw [hS] at si
    obtain ⟨vis, si2, gp⟩ := reg_add (c := .lst xs) st.aft.vis si h3 h4 ⟨vs, h5, h6, hf⟩ (by rw [h5]; exact Option.some_ne_none _)
    refine ⟨p, G, fun a => a = p ∨ J a, gset g p (.lst xs), ⟨?_, ⟨st.aft.gg, st.aft.hh, st.aft.dm, st.aft.gn, fun a j => ?_, vis⟩, by rw [hS]; exact si2⟩, w2 p gp, f⟩
    · have hl : i < ρ.length := (List.getElem?_eq_some_iff.mp hi).1
      have old : ∀ {j : Nat} {y : Ent}, i ≠ j → (ρ.set i (some (.obj p)))[j]? = some (some y) → ρ[j]? = some (some y) := fun {j y} n q => by
        rw [List.getElem?_set_ne n] at q; exact q
      have at_i : (ρ.set i (some (.obj p)))[i]? = some (some (.obj p)) := by
        rw [List.getElem?_set, if_pos rfl, if_pos hl]
      refine ⟨fun j d hj => ?_, fun j a hj => ?_, fun j c hj => ?_, fun j k c c' r hjk q1 q2 => ?_, by rw [List.length_set]; exact st.env.len, set_nb st.env.nb (fun z => by cases z)⟩
      · by_cases q : i = j
        · subst q; rw [at_i] at hj; cases hj
        · exact st.env.val j d (old q hj)
      · by_cases q : i = j
        · subst q; rw [at_i] at hj; cases hj; exact h1
        · exact st.env.obj j a (old q hj)
      · by_cases q : i = j
        · subst q; rw [at_i] at hj; cases hj
        · obtain ⟨r, e1, e2, e3, e4, e5⟩ := st.env.own j c (old q hj)
          refine ⟨r, e1, e2, e3, fun z => z.elim (fun z => ?_) e4, e5⟩
          subst z
          exact st.env.sep i j _ _ _ q hi (old q hj) h1 e1
      · by_cases z1 : i = j
        · subst z1; rw [at_i] at q1; cases q1
        · by_cases z2 : i = k
          · subst z2; rw [at_i] at q2; cases q2
          · exact st.env.sep j k c c' r hjk (old z1 q1) (old z2 q2)
    · rcases j with rfl | j
      · exact .inr h2
      · exact st.aft.jn a j
end
/-! ### the defs and the constants -/
theorem dfd_mk {K : PySem.W.Frag} {h : Heap} {mg : Str → Option Value} (X : K.In h) (G : h.Ns mainGlobals mg) {x qual : Str} {st : Stmt} {ps : List Str} {f : Addr} {od an : Option Addr} {sl : Array (Option Value)} {oc kV dc pm cd ct : Value}
    (a : PySem.W.nsIn K mainGlobals x = some (some (.ref f))) (l : K.lookup f = some ⟨oc, od, .func (PySem.W.fnOf x qual (defArgs st) (defBody st) (defScope st) .none kV dc pm an cd ct), sl⟩) (c : PySem.W.codeIn K cd qual = true) (k : PySem.W.keepIn K (.ref f) = true)
    (b : ∀ (kV doc pm : Value) (an : Option Addr) (cdv ct : Value) (us : List Value), us.length = ps.length → bindArgs (PySem.W.fnOf x qual (defArgs st) (defBody st) (defScope st) .none kV doc pm an cdv ct) ⟨us, []⟩ = pure (ps.zip us)) : Dfd K mg x qual st ps :=
  ⟨f, _, PySem.W.mg_of X G a, fun_mk l c k, fun us hl => b _ _ _ _ _ _ us hl⟩
def kScal : Value → Option D
  | .none => some .none
  | .bool b => some (.bool b)
  | .int i _ => some (.int i)
  | .str x _ => some (.str x)
  | _ => none
def kList (f : Value → Option D) : List Value → Option (List D)
  | [] => some []
  | u :: us => match f u, kList f us with
    | some d, some ds => some (d :: ds)
    | _, _ => none
def kTup (f : Value → Option D) : Option Obj → Option D
  | some ⟨.type c, _, .seq its _, _⟩ => if c = "tuple" ∧ its.size ≤ sizeLine then (kList f its.toList).map PyData.tuple else none
  | _ => none
def kData (K : PySem.W.Frag) : Nat → Value → Option D
  | 0, u => kScal u
  | n + 1, u => match u with
    | .ref a => kTup (kData K n) (K.lookup a)
    | u => kScal u
theorem kScal_rp {K : PySem.W.Frag} {u : Value} {d : D} (h : kScal u = some d) : ∃ v, RelV v u ∧ ∀ G, Rp K G v d := by
  unfold kScal at h
  split at h
  · cases h; exact ⟨.non, rfl, fun _ => .non⟩
  · cases h; exact ⟨.bl _, rfl, fun _ => .bl _⟩
  · cases h; exact ⟨.int _, ⟨_, rfl⟩, fun _ => .int _⟩
  · cases h; exact ⟨.str _, ⟨_, rfl⟩, fun _ => .str _⟩
  · cases h
theorem kList_rp {K : PySem.W.Frag} {f : Value → Option D} (hf : ∀ u d, f u = some d → ∃ v, RelV v u ∧ ∀ G, Rp K G v d) : ∀ (us : List Value) (ds : List D), kList f us = some ds → ∃ vs, Vals vs us ∧ ∀ G, RpL K G vs ds
  | [], ds, h => by cases h; exact ⟨[], .nil, fun _ => .nil⟩
  | u :: us, ds, h => by
    unfold kList at h
    cases q : f u with
    | none => simp [q] at h
    | some d =>
      cases q2 : kList f us with
      | none => simp [q, q2] at h
      | some es =>
        simp [q, q2] at h
        subst h
        obtain ⟨v, r1, r2⟩ := hf u d q
        obtain ⟨vs, r3, r4⟩ := kList_rp hf us es q2
        exact ⟨v :: vs, .cons r1 r3, fun G => .cons (r2 G) (r4 G)⟩
theorem kData_rp {K : PySem.W.Frag} : ∀ (n : Nat) (u : Value) (d : D), kData K n u = some d → ∃ v, RelV v u ∧ ∀ G, Rp K G v d
  | 0, u, d, h => kScal_rp h
  | n + 1, u, d, h => by
    unfold kData at h
    split at h
    · rename_i a
      unfold kTup at h
      split at h
      · rename_i c dd its nn sl e
        split at h
        · rename_i hc
          obtain ⟨rfl, hz⟩ := hc
          cases q : kList (kData K n) its.toList with
          | none => rw [q] at h; cases h
          | some ds =>
            rw [q] at h
            cases h
            obtain ⟨vs, r, rp⟩ := kList_rp (kData_rp n) its.toList ds q
            exact ⟨.ref a, rfl, fun G => .tup (.inr ⟨_, its, nn, e, rfl, rfl, hz, r⟩) (rp G)⟩
        · cases h
      · cases h
    · exact kScal_rp h
theorem glo_mk {K : PySem.W.Frag} {h : Heap} {mg : Str → Option Value} (X : K.In h) (G : h.Ns mainGlobals mg) {x : Str} {u : Value} {d : D} (a : PySem.W.nsIn K mainGlobals x = some (some u)) (n : Nat) (e : kData K n u = some d) : Glo K mg x d := by
  obtain ⟨v, r, rp⟩ := kData_rp n u d e
  exact ⟨u, v, PySem.W.mg_of X G a, r, rp⟩
end Cl

set_option Elab.async false
set_option linter.all false
set_option autoImplicit false
set_option maxRecDepth 100000
set_option maxHeartbeats 4000000
/-! the clean layer, part Q: reckoning with mirrors -/
namespace Cl
open PySem PySem.Spec PyProof.Rows L2
open MO

/-- side by side -/
inductive All2 {α β : Type} (S : α → β → Prop) : List α → List β → Prop
  | nil : All2 S [] []
  | cons {a : α} {b : β} {as : List α} {bs : List β} : S a b → All2 S as bs → All2 S (a :: as) (b :: bs)
section
variable {γ α β δ τ : Type} {g : γ} {Q : β → γ → Prop} {E : Xc → γ → Prop}
theorem w_need {o : Option α} {a : α} {k : α → M γ β} (e : o = some a) (h : (k a).wp g Q E) : (bnd (need o : M γ α) k).wp g Q E := by
  subst e; exact h
theorem w_lift {p : P α} {a : α} {k : α → M γ β} (e : p = .ok a) (h : (k a).wp g Q E) : (bnd (lift p : M γ α) k).wp g Q E := by
  subst e; exact h
theorem w_pur {a : β} (h : Q a g) : (pur a : M γ β).wp g Q E := h
theorem w_bnd {x : M γ α} {k : α → M γ β} (h : x.wp g (fun a g' => (k a).wp g' Q E) E) : (bnd x k).wp g Q E := h
theorem w_nox {x : M γ α} {k : α → M γ β} (h : x.wp g (fun a g' => (k a).wp g' Q E) (fun _ _ => False)) : (bnd (nox x) k).wp g Q E := h
theorem w_call {sig : Sig} {f : Ar sig → M γ α} {rs : List R} {a : Ar sig} {k : α → M γ β} (e : unpack sig rs = some a) (h : (f a).wp g (fun a g' => (k a).wp g' Q E) (fun _ _ => False)) : (bnd (nox (callM sig f rs)) k).wp g Q E := by
  unfold callM
  rw [e]
  exact h
theorem w_callP {sig : Sig} {f : Ar sig → P α} {rs : List R} {a : Ar sig} {b : α} {k : α → M γ β} (e : unpack sig rs = some a) (h1 : f a = .ok b) (h : (k b).wp g Q E) : (bnd (lift (callM sig f rs) : M γ α) k).wp g Q E := by
  unfold callM
  rw [e]
  dsimp only
  rw [h1]
  exact h
theorem w_ite {c : Prop} [Decidable c] {x y : M γ β} (h1 : c → x.wp g Q E) (h2 : ¬ c → y.wp g Q E) : (if c then x else y).wp g Q E := by
  by_cases h : c
  · rw [if_pos h]; exact h1 h
  · rw [if_neg h]; exact h2 h
theorem w_mono {x : M γ β} {Q' : β → γ → Prop} (h : x.wp g Q' E) (hq : ∀ a g, Q' a g → Q a g) : x.wp g Q E := x.mono h hq
/-- a loop by what holds at each turn -/
theorem w_forP (I : τ → γ → Prop) {f : D → τ → M γ τ} {E : Xc → γ → Prop} : ∀ {ds : List D} {t : τ} {g : γ}, (∀ d ∈ ds, ∀ t g, I t g → (f d t).wp g I E) → I t g → (forP ds t f : M γ τ).wp g I E
  | [], t, g, _, h => h
  | d :: ds, t, g, hs, h => (f d t).mono (hs d List.mem_cons_self t g h) fun t' g' h' => w_forP I (fun d hd => hs d (List.mem_cons_of_mem _ hd)) h'
theorem w_forL (I : τ → γ → Prop) (B : τ → γ → Prop) (Rr : δ → γ → Prop) {f : D → τ → M γ (Lp δ τ)} {E : Xc → γ → Prop} : ∀ {ds : List D} {t : τ} {g : γ},
    (∀ d ∈ ds, ∀ t g, I t g → (f d t).wp g (fun r g' => match r with | .nx t => I t g' | .bk t => B t g' | .rt r => Rr r g') E) → I t g →
    (forL ds t f : M γ (Lp δ τ)).wp g (fun r g' => match r with | .nx t => I t g' | .bk t => B t g' | .rt r => Rr r g') E
  | [], t, g, _, h => h
  | d :: ds, t, g, hs, h => (f d t).mono (hs d List.mem_cons_self t g h) fun r g' h' => by
    cases r with
    | nx t' => exact w_forL I B Rr (fun d hd => hs d (List.mem_cons_of_mem _ hd)) h'
    | bk t' => exact h'
    | rt r => exact h'
/-- a comprehension in which each item yields one -/
theorem w_compL (I : γ → Prop) (S : D → D → Prop) {f : D → M γ (Option D)} {E : Xc → γ → Prop} : ∀ {ds acc : List D} {g : γ},
    (∀ d ∈ ds, ∀ g, I g → (f d).wp g (fun o g' => ∃ e, o = some e ∧ S d e ∧ I g') E) → acc.length + ds.length ≤ sizeLine → I g →
    (compL ds acc f : M γ (List D)).wp g (fun xs g' => I g' ∧ ∃ es, xs = acc ++ es ∧ All2 S ds es) E
  | [], acc, g, _, _, h => ⟨h, [], (List.append_nil _).symm, .nil⟩
  | d :: ds, acc, g, hs, hl, h => (f d).mono (hs d List.mem_cons_self g h) fun o g' h' => by
    obtain ⟨e, rfl, h1, h2⟩ := h'
    rw [List.length_cons] at hl
    dsimp only
    refine w_need (a := acc ++ [e]) (by unfold appF; rw [if_pos (by omega)]) ?_
    refine M.mono _ (w_compL I S (ds := ds) (acc := acc ++ [e]) (fun d hd => hs d (List.mem_cons_of_mem _ hd)) (by rw [List.length_append, List.length_singleton]; omega) h2) fun xs g2 h3 => ?_
    obtain ⟨h4, es, e1, e2⟩ := h3
    exact ⟨h4, e :: es, by rw [e1, List.append_assoc]; rfl, .cons h1 e2⟩
/-- a comprehension with a test -/
theorem w_compF (I : γ → Prop) (S : D → Prop) {f : D → M γ (Option D)} {E : Xc → γ → Prop} : ∀ {ds acc : List D} {g : γ},
    (∀ d ∈ ds, ∀ g, I g → (f d).wp g (fun o g' => (∀ e, o = some e → S e) ∧ I g') E) → acc.length + ds.length ≤ sizeLine → (∀ d ∈ acc, S d) → I g →
    (compL ds acc f : M γ (List D)).wp g (fun xs g' => I g' ∧ (∀ d ∈ xs, S d) ∧ xs.length ≤ acc.length + ds.length) E
  | [], acc, g, _, _, ha, h => ⟨h, ha, Nat.le_refl _⟩
  | d :: ds, acc, g, hs, hl, ha, h => (f d).mono (hs d List.mem_cons_self g h) fun o g' h' => by
    rw [List.length_cons] at hl
    cases o with
    | none =>
      refine M.mono _ (w_compF I S (ds := ds) (acc := acc) (fun d hd => hs d (List.mem_cons_of_mem _ hd)) (by omega) ha h'.2) fun xs g2 h3 => ?_
      exact ⟨h3.1, h3.2.1, by rw [List.length_cons]; omega⟩
    | some e =>
      dsimp only
      refine w_need (a := acc ++ [e]) (by unfold appF; rw [if_pos (by omega)]) ?_
      refine M.mono _ (w_compF I S (ds := ds) (acc := acc ++ [e]) (fun d hd => hs d (List.mem_cons_of_mem _ hd)) (by rw [List.length_append, List.length_singleton]; omega) (fun d hd => ?_) h'.2) fun xs g2 h3 => ?_
      · rcases List.mem_append.mp hd with q | q
        · exact ha d q
        · rw [List.mem_singleton.mp q]; exact h'.1 e rfl
      · exact ⟨h3.1, h3.2.1, by rw [List.length_append, List.length_singleton] at h3; rw [List.length_cons]; omega⟩
end
/-! ### the region -/
section
variable {α β : Type} {g : GH} {Q : β → GH → Prop} {E : Xc → GH → Prop}
theorem w_rd {a : Addr} {f : List D → Option α} {ds : List D} {x : α} {k : α → M GH β} (h1 : g a = some (.lst ds)) (h2 : f ds = some x) (h : (k x).wp g Q E) : (bnd (rdM a f) k).wp g Q E := ⟨ds, x, h1, h2, h⟩
theorem w_mt {a : Addr} {f : List D → Option (α × List D)} {ds ds' : List D} {x : α} {k : α → M GH β} (h1 : g a = some (.lst ds)) (h2 : f ds = some (x, ds')) (h3 : flatL ds' = true) (h : (k x).wp (gset g a (.lst ds')) Q E) : (bnd (mtM a f) k).wp g Q E := ⟨ds, x, ds', h1, h2, h3, h⟩
theorem w_fldD {a : Addr} {kk : Key} {kvs : List (Key × RV)} {d : D} {k : D → M GH β} (h1 : g a = some (.dct kvs)) (h2 : getK kvs kk = some (.d d)) (h : (k d).wp g Q E) : (bnd (fldD a kk) k).wp g Q E := ⟨kvs, d, h1, h2, h⟩
theorem w_fldO {a : Addr} {kk : Key} {kvs : List (Key × RV)} {d : Addr} {k : Addr → M GH β} (h1 : g a = some (.dct kvs)) (h2 : getK kvs kk = some (.r d)) (h : (k d).wp g Q E) : (bnd (fldO a kk) k).wp g Q E := ⟨kvs, d, h1, h2, h⟩
theorem w_put {a : Addr} {kk : Key} {kvs : List (Key × RV)} {d : D} {k : Unit → M GH β} (h1 : g a = some (.dct kvs)) (h2 : kvs.length < sizeLine) (h3 : flat d = true) (h : (k ()).wp (gset g a (.dct (putR kvs kk (.d d)))) Q E) : (bnd (putM a kk d) k).wp g Q E := ⟨kvs, h1, h2, h3, h⟩
theorem w_isL {a : Addr} {ds : List D} {k : Unit → M GH β} (h1 : g a = some (.lst ds)) (h : (k ()).wp g Q E) : (bnd (isL a) k).wp g Q E := ⟨ds, (), h1, rfl, h⟩
theorem w_give {xs : List D} {k : Addr → M GH β} (h1 : flatL xs = true) (h : ∀ q, g q = none → (k q).wp (gset g q (.lst xs)) Q E) : (bnd (giveM xs) k).wp g Q E := ⟨h1, h⟩
theorem w_sc {sc : Addr} {ns : List Int} {k : List D → M GH β} (h : (k (ns.map PyData.int)).wp g Q E) : (bnd (scM sc ns sc) k).wp g Q E := ⟨rfl, h⟩
theorem w_nw {es : List (Key × R)} {k : Addr → M GH β} (h1 : (es.map fun e : Key × R => e.1).Nodup) (h2 : es.length ≤ 15) (h : allocs es g fun kvs g' => ∀ p, g' p = none → (k p).wp (gset g' p (.dct kvs)) Q E) : (bnd (nwM es) k).wp g Q E := ⟨h1, h2, h⟩
end
/-! ### whole numbers -/
theorem mulF_i {a b : Int} (h : CMul a b) : mulF (.int a) (.int b) = some (.int (a * b)) := by
  show (if CMul a b then some (PyData.int (a * b)) else none) = _
  rw [if_pos h]
theorem mulF_r {a b : Int} (h1 : -(2 ^ 64) < b) (h2 : b < 2 ^ 64) : mulF (.int a) (.int b) = some (.int (a * b)) := mulF_i (.inr ⟨h1, h2⟩)
theorem mulF_l {a b : Int} (h1 : -(2 ^ 64) < a) (h2 : a < 2 ^ 64) : mulF (.int a) (.int b) = some (.int (a * b)) := mulF_i (.inl ⟨h1, h2⟩)
theorem addF_i {a b : Int} : addF (.int a) (.int b) = some (.int (a + b)) := rfl
theorem subF_i {a b : Int} : subF (.int a) (.int b) = some (.int (a - b)) := rfl
theorem modF_i {a b : Int} (h : 0 < b) : modF (.int a) (.int b) = some (.int (a % b)) := by
  show (if 0 < b then some (PyData.int (a % b)) else none) = _
  rw [if_pos h]
theorem fdivF_i {a b : Int} (h : CDiv a b) : fdivF (.int a) (.int b) = some (.int (a / b)) := by
  show (if CDiv a b then some (PyData.int (a / b)) else none) = _
  rw [if_pos h]
theorem intF_i {a : Int} : intF [.int a] = some a := rfl
theorem flatL_ints (ns : List Int) : flatL (ns.map PyData.int) = true := by
  induction ns with
  | nil => rfl
  | cons n ns ih => rw [List.map_cons, flatL, ih]; rfl
theorem lay_ints (ns : List Int) : PyData.canLayAll0 (ns.map PyData.int) = true := by
  induction ns with
  | nil => rfl
  | cons n ns ih => rw [List.map_cons, PyData.canLayAll0, ih]; rfl
theorem depth_ints (ns : List Int) : PyData.depthAll (ns.map PyData.int) ≤ 1 := by
  induction ns with
  | nil => decide
  | cons n ns ih =>
    rw [List.map_cons, PyData.depthAll]
    have : PyData.depth (.int n) ≤ 1 := by simp [PyData.depth]
    omega
theorem shaped_ints (ns : List Int) : SeqAt.shaped (.list (ns.map PyData.int)) = true := by
  unfold SeqAt.shaped
  rw [Bool.and_eq_true]
  refine ⟨by simpa [PyData.canLay0] using lay_ints ns, decide_eq_true ?_⟩
  have := depth_ints ns
  simp only [PyData.depth]
  omega
theorem neNil_ints (ns : List Int) : neNilF (ns.map PyData.int) = some (!ns.isEmpty) := by
  unfold neNilF
  rw [if_pos (shaped_ints ns)]
  cases ns <;> rfl
end Cl

set_option Elab.async false
set_option linter.all false
set_option autoImplicit false
set_option maxRecDepth 100000
set_option maxHeartbeats 400000
/-! the clean layer, part R: reckoning with plain mirrors; what can be shown -/
namespace Cl
open PySem PySem.Spec PyProof.Rows L2
open MO
section
variable {γ α β δ τ : Type} {E : Xc → γ → Prop}
theorem w_forPn (I : Nat → τ → γ → Prop) {f : D → τ → M γ τ} : ∀ {ds : List D} {t : τ} {g : γ}, (∀ d ∈ ds, ∀ n t g, I (n + 1) t g → (f d t).wp g (I n) E) → I ds.length t g → (forP ds t f : M γ τ).wp g (I 0) E
  | [], t, g, _, h => h
  | d :: ds, t, g, hs, h => (f d t).mono (hs d List.mem_cons_self ds.length t g h) fun t' g' h' => w_forPn I (fun d hd => hs d (List.mem_cons_of_mem _ hd)) h'
theorem w_forLn (I : Nat → τ → γ → Prop) (B : τ → γ → Prop) (Rr : δ → γ → Prop) {f : D → τ → M γ (Lp δ τ)} : ∀ {ds : List D} {t : τ} {g : γ},
    (∀ d ∈ ds, ∀ n t g, I (n + 1) t g → (f d t).wp g (fun r g' => match r with | .nx t => I n t g' | .bk t => B t g' | .rt r => Rr r g') E) → I ds.length t g →
    (forL ds t f : M γ (Lp δ τ)).wp g (fun r g' => match r with | .nx t => I 0 t g' | .bk t => B t g' | .rt r => Rr r g') E
  | [], t, g, _, h => h
  | d :: ds, t, g, hs, h => (f d t).mono (hs d List.mem_cons_self ds.length t g h) fun r g' h' => by
    cases r with
    | nx t' => exact w_forLn I B Rr (fun d hd => hs d (List.mem_cons_of_mem _ hd)) h'
    | bk t' => exact h'
    | rt r => exact h'
theorem w_compLn (I : Nat → γ → Prop) (S : D → D → Prop) {f : D → M γ (Option D)} : ∀ {ds acc : List D} {g : γ},
    (∀ d ∈ ds, ∀ n g, I (n + 1) g → (f d).wp g (fun o g' => ∃ e, o = some e ∧ S d e ∧ I n g') E) → acc.length + ds.length ≤ sizeLine → I ds.length g →
    (compL ds acc f : M γ (List D)).wp g (fun xs g' => I 0 g' ∧ ∃ es, xs = acc ++ es ∧ All2 S ds es) E
  | [], acc, g, _, _, h => ⟨h, [], (List.append_nil _).symm, .nil⟩
  | d :: ds, acc, g, hs, hl, h => (f d).mono (hs d List.mem_cons_self ds.length g h) fun o g' h' => by
    obtain ⟨e, rfl, h1, h2⟩ := h'
    rw [List.length_cons] at hl
    dsimp only
    refine w_need (a := acc ++ [e]) (by unfold appF; rw [if_pos (by omega)]) ?_
    refine M.mono _ (w_compLn I S (ds := ds) (acc := acc ++ [e]) (fun d hd => hs d (List.mem_cons_of_mem _ hd)) (by rw [List.length_append, List.length_singleton]; omega) h2) fun xs g2 h3 => ?_
    obtain ⟨h4, es, e1, e2⟩ := h3
    exact ⟨h4, e :: es, by rw [e1, List.append_assoc]; rfl, .cons h1 e2⟩
end
/-! ### what can be shown -/
structure Rep (k n : Nat) (d : D) : Prop where
  sh : d.showable = true
  ly : d.canLay0 = true
  dp : d.depth ≤ k
  ln : d.shown.length ≤ n
theorem Rep.mono {k n k2 n2 : Nat} {d : D} (h : Rep k n d) (h1 : k ≤ k2) (h2 : n ≤ n2) : Rep k2 n2 d := ⟨h.sh, h.ly, Nat.le_trans h.dp h1, Nat.le_trans h.ln h2⟩
theorem Rep.all {k n : Nat} : ∀ {ds : List D}, (∀ d ∈ ds, Rep k n d) → PyData.showableAll ds = true ∧ PyData.canLayAll0 ds = true ∧ PyData.depthAll ds ≤ k ∧ ((PyData.shownAll ds).map (·.length)).sum ≤ ds.length * n ∧ (PyData.shownAll ds).length = ds.length
  | [], _ => ⟨rfl, rfl, Nat.zero_le _, Nat.zero_le _, rfl⟩
  | d :: ds, h => by
    have h1 := h d List.mem_cons_self
    obtain ⟨a, b, c, e, f⟩ := Rep.all fun x hx => h x (List.mem_cons_of_mem _ hx)
    refine ⟨?_, ?_, ?_, ?_, ?_⟩
    · rw [PyData.showableAll, h1.sh, a]; rfl
    · rw [PyData.canLayAll0, h1.ly, b]; rfl
    · rw [PyData.depthAll]; have := h1.dp; omega
    · rw [PyData.shownAll, List.map_cons, List.sum_cons, List.length_cons, Nat.succ_mul]; have := h1.ln; omega
    · rw [PyData.shownAll, List.length_cons, List.length_cons, f]
theorem Rep.tup {k n : Nat} {ds : List D} (h : ∀ d ∈ ds, Rep k n d) : Rep (k + 1) (ds.length * (n + 2) + 3) (.tuple ds) := by
  obtain ⟨a, b, c, e, f⟩ := Rep.all h
  have z := tupleText_len_le (PyData.shownAll ds)
  refine ⟨by rw [PyData.showable]; exact a, by rw [PyData.canLay0]; exact b, by rw [PyData.depth]; omega, ?_⟩
  rw [PyData.shown, Nat.mul_add]
  omega
theorem Rep.lst {k n : Nat} {ds : List D} (h : ∀ d ∈ ds, Rep k n d) : Rep (k + 1) (ds.length * (n + 2) + 3) (.list ds) := by
  obtain ⟨a, b, c, e, f⟩ := Rep.all h
  have z := listText_len_le (PyData.shownAll ds)
  refine ⟨by rw [PyData.showable]; exact a, by rw [PyData.canLay0]; exact b, by rw [PyData.depth]; omega, ?_⟩
  rw [PyData.shown, Nat.mul_add]
  omega
theorem Rep.int {i : Int} (h : i.natAbs < 1000000000000) : Rep 0 13 (.int i) := by
  refine ⟨?_, by rw [PyData.canLay0], by rw [PyData.depth]; exact Nat.le_refl _, PyData.shown_int_le h⟩
  rw [PyData.showable]
  refine decide_eq_true ?_
  by_cases z : i.natAbs = 0
  · rw [z]; decide
  · have : i.natAbs < 2 ^ 1920 := Nat.lt_of_lt_of_le h (Nat.le_trans (show 1000000000000 ≤ 2 ^ 40 by decide) (Nat.pow_le_pow_right (by decide) (by decide)))
    exact (Nat.log2_lt z).mpr this
theorem Rep.bool {b : Bool} : Rep 0 5 (.bool b) := by cases b <;> exact ⟨rfl, rfl, Nat.le_refl _, by decide +kernel⟩
theorem Rep.none : Rep 0 4 .none := ⟨rfl, rfl, Nat.le_refl _, by decide +kernel⟩
/-- a text of which is reckoned what it needs -/
def wordy (n : Nat) (x : Str) : Bool := PyData.strOk x && decide ((reprText x).length ≤ n)
theorem Rep.str {n : Nat} {x : Str} (h : wordy n x = true) : Rep 0 n (.str x) := by
  unfold wordy at h
  rw [Bool.and_eq_true] at h
  exact ⟨rfl, by rw [PyData.canLay0]; exact h.1, by rw [PyData.depth]; exact Nat.le_refl _, by rw [PyData.shown]; exact of_decide_eq_true h.2⟩
theorem Rep.ok {k n : Nat} {d : D} (h : Rep k n d) (h1 : k ≤ 64) (h2 : n ≤ 16000000) : reprF [d] = some d.shown := by
  have big := sizeLine_eq
  show (if (d.showable && d.canLay0 && decide (d.depth ≤ 64) && decide (d.shown.length ≤ sizeLine)) = true then some d.shown else Option.none) = _
  have a := h.dp
  have b := h.ln
  rw [h.sh, h.ly, decide_eq_true (show d.depth ≤ 64 by omega), decide_eq_true (show d.shown.length ≤ sizeLine by omega)]
  rfl
theorem Rep.shaped {k n : Nat} {d : D} (h : Rep k n d) (h1 : k ≤ 64) : SeqAt.shaped d = true := by
  unfold SeqAt.shaped
  have a := h.dp
  rw [h.ly, decide_eq_true (show d.depth ≤ 64 by omega)]
  rfl
end Cl

set_option Elab.async false
set_option linter.all false
set_option autoImplicit false
set_option maxRecDepth 100000
set_option maxHeartbeats 400000
/-! the clean layer, part S: plain steps; a tuple with a list of one's own stored; dicts of the module -/
namespace Cl
open PySem PySem.Spec PyProof.Rows L2
open MO
section
variable {α β : Type}
theorem p_need {o : Option α} {a : α} {k : α → P β} {r : β} (e : o = some a) (h : k a = .ok r) : bnd (need o : P α) k = .ok r := by subst e; exact h
theorem p_bnd {x : P α} {a : α} {k : α → P β} {r : β} (e : x = .ok a) (h : k a = .ok r) : bnd x k = .ok r := by subst e; exact h
theorem p_lift {x : P α} {a : α} {k : α → P β} {r : β} (e : x = .ok a) (h : k a = .ok r) : bnd (lift x : P α) k = .ok r := by subst e; exact h
theorem p_nox {x : P α} {a : α} {k : α → P β} {r : β} (e : x = .ok a) (h : k a = .ok r) : bnd (nox x) k = .ok r := by subst e; exact h
theorem p_ite {c : Bool} {x y : P β} {r : β} (h1 : c = true → x = .ok r) (h2 : c = false → y = .ok r) : (if c = true then x else y) = .ok r := by
  cases c with
  | true => rw [if_pos rfl]; exact h1 rfl
  | false => rw [if_neg Bool.false_ne_true]; exact h2 rfl
theorem p_callP {sig : Sig} {f : Ar sig → P α} {rs : List R} {a : Ar sig} {b : α} {k : α → P β} {r : β} (e : unpack sig rs = some a) (h1 : f a = .ok b) (h : k b = .ok r) : bnd (lift (callM sig f rs) : P α) k = .ok r := by
  unfold callM
  rw [e]
  dsimp only
  rw [h1]
  exact h
/-- a comprehension, item by item -/
theorem p_comp {f : D → P (Option D)} : ∀ {ds : List D} {es : List (Option D)} {acc : List D}, All2 (fun d e => f d = .ok e) ds es → acc.length + ds.length ≤ sizeLine → (compL ds acc f : P (List D)) = .ok (acc ++ es.filterMap id)
  | _, _, acc, .nil, _ => by show P.ok acc = .ok (acc ++ []); rw [List.append_nil]
  | d :: ds, e :: es, acc, .cons h t, hl => by
    rw [List.length_cons] at hl
    refine p_bnd h ?_
    cases e with
    | none => exact (p_comp (acc := acc) t (by omega) : _ = P.ok (acc ++ es.filterMap id))
    | some e =>
      refine p_need (a := acc ++ [e]) (by unfold appF; rw [if_pos (by omega)]) ?_
      rw [p_comp (acc := acc ++ [e]) t (by rw [List.length_append, List.length_singleton]; omega), List.append_assoc]
      rfl
theorem p_forS {τ : Type} {f : D → τ → P τ} {d : D} {ds : List D} {t t' r : τ} (e : f d t = .ok t') (h : (forP ds t' f : P τ) = .ok r) : (forP (d :: ds) t f : P τ) = .ok r := p_bnd e h
end
theorem eqStr {s t : Str} (h : s = t) : eqF (.str s) (.str t) = some true := by subst h; show some (decide (s = s)) = _; rw [decide_eq_true rfl]
theorem neStr {s t : Str} (h : s = t) : neF (.str s) (.str t) = some false := by subst h; show some (!decide (s = s)) = _; rw [decide_eq_true rfl]; rfl
theorem repr_c {d : D} (h : reprOk d = true) : reprF [d] = some d.shown := if_pos h

section
variable {γ : Type} {m : Type → Type} [PM γ m] {α α2 β δ τ ω : Type} {C : Cc γ} {X : Cx} {ρ : En} {rest : List Stmt} {out : ω → En} {outL : τ → En} {rk : δ → R} {x : m β} {kn : ω → m β} {kr : δ → m β} {kb kc : τ → m β}
/-- name, target = a list of one's own, a value -/
theorem cs_asgL2 {i : Nat} {n1 : Str} {t2 e1 e2 : Expr} {p1 pt pt2 pos : Pos} {kt k2} {un : D → Option α} {outT : List D → α → En} {sl : List Nat} {x2 : List D → m β} {xr : List D → α → m β}
    (hr : ∀ xs a, CS C X (outT xs a) rest out outL rk (xr xs a) kn kr kb kc) (hg : ∀ xs, CG C X (ρ.set i (some (.own (.lst xs)))) t2 un (outT xs) sl)
    (hb : ∀ xs, CE C X ρ e2 dv (x2 xs) (fun d => bnd (need (un d)) (xr xs))) (ha : CE C X ρ e1 lv x x2) (hp : PG X (.Name n1 p1) (gName i))
    (hc : X.calm = true := by rfl)
    (hs1 : starEach [e1, e2] X.env = (false, eval e1 X.env) :: starEach [e2] X.env := by rfl) (hs2 : starEach [e2] X.env = (false, eval e2 X.env) :: starEach [] X.env := by rfl)
    (hg1 : (assignEach [.Name n1 p1, t2] X.env).map (·.2) = assign (.Name n1 p1) X.env :: (assignEach [t2] X.env).map (·.2) := by rfl) (hg2 : (assignEach [t2] X.env).map (·.2) = assign t2 X.env :: (assignEach [] X.env).map (·.2) := by rfl)
    (hn : (assignEach [.Name n1 p1, t2] X.env).length = 2 := by rfl) (hst : (assignEach [.Name n1 p1, t2] X.env).findIdx? (·.1) = none := by rfl)
    (hs : swapsWithSole [.Tuple [.Name n1 p1, t2] kt pt] (.Tuple [e1, e2] k2 pt2) pos.line X.env = pure false := by rfl)
    (hps : ∀ te g, PE X (.Tuple [e1, e2] k2 pt2) te → PG X (.Tuple [.Name n1 p1, t2] kt pt) g → PS X (.Assign [.Tuple [.Name n1 p1, t2] kt pt] (.Tuple [e1, e2] k2 pt2) pos) (tAsg te g) := by intro te g he hg; exact ps_asg he hg) :
    CS C X ρ (.Assign [.Tuple [.Name n1 p1, t2] kt pt] (.Tuple [e1, e2] k2 pt2) pos :: rest) out outL rk x kn kr kb kc := fun Qf =>
  PSs.imp (pss_cons (hps _ _ (pe_tup (pa_cons (ha Qf) (pa_cons (PE.ex fun xs => hb xs Qf) pa_nil hs2) hs1)) (pg_tup hc (pgs_cons hp (pgs_cons (PG.ex fun xs => hg xs) pgs_nil hg2) hg1) hn hst)) (PSs.ex fun q : List D × α => hr q.1 q.2 Qf)) fun E σ H ⟨G, J, g, st, w, f⟩ =>
    ⟨G, J, g, st, w, fun v1 xs H1 G1 J1 g1 af1 si1 rr1 w1 => ⟨xs, G1, J1, g1, st.go af1 si1, w1, fun v2 d H2 G2 J2 g2 af2 si2 rr2 w2 => by
      obtain ⟨a, ea, w3⟩ := of_need w2
      refine ⟨by have := sizeLine_eq; show 2 ≤ sizeLine; omega, fun p np => ?_⟩
      have n := New.own (o := .tup [v1, v2]) af2.vis.sub np
      have af3 := af2.trans (n.aft af2.vis)
      have si3 := SIx.nw si2 n
      obtain ⟨p0, rfl, hb0, hg0, hj0, hc0⟩ := RR.aft (Hb := H) rr1 af3
      have st3 := st.setL (i := i) (af1.trans af3) si3 hb0 hg0 hj0 hc0
      exact ⟨p, [.ref p0, v2], rfl, .inl (.inl upd_same), rfl, .ref p0, [v2], rfl, v2, [], rfl, xs, G2, J2, d, a, st3.env, st3.vis.sub, rr2, ea, fun σ' e' _ =>
        ⟨rfl, (xs, a), G2, J2, g2, ⟨e', st3.aft, st3.si⟩, w3, f.sub (af1.trans af3).gg⟩⟩⟩⟩
end

/-! ### dicts of the module with text keys -/
def kRow (K : PySem.W.Frag) (e : DictEntry) : Option (Str × D) := match e.key with
  | .str x _ => (kData K 6 e.val).map fun d => (x, d)
  | _ => none
def kRows (K : PySem.W.Frag) : List DictEntry → Option (List (Str × D))
  | [] => some []
  | e :: es => match kRow K e, kRows K es with
    | some a, some b => some (a :: b)
    | _, _ => none
def kDictD (K : PySem.W.Frag) (a : Addr) : Option (List (Str × D)) := match K.lookup a with
  | some ⟨_, _, .dict es _, _⟩ => kRows K es.toList
  | _ => none
def lookS : List (Str × D) → Str → Option D
  | [], _ => none
  | (k, d) :: r, z => if k = z then some d else lookS r z
theorem kRows_find {K : PySem.W.Frag} {z : Str} : ∀ {es : List DictEntry} {kvs : List (Str × D)}, kRows K es = some kvs →
    (∀ d, lookS kvs z = some d → ∃ e, es.find? (·.key.isStr z) = some e ∧ kData K 6 e.val = some d) ∧ (lookS kvs z = none → es.find? (·.key.isStr z) = none) ∧ es.any (·.refKey) = false
  | [], kvs, h => by
    cases h
    exact ⟨fun d q => (by cases q), fun _ => rfl, rfl⟩
  | e :: es, kvs, h => by
    unfold kRows at h
    cases q1 : kRow K e with
    | none => simp [q1] at h
    | some a =>
      cases q2 : kRows K es with
      | none => simp [q1, q2] at h
      | some b =>
        simp [q1, q2] at h
        subst h
        obtain ⟨i1, i2, i3⟩ := kRows_find (z := z) q2
        obtain ⟨eh, ek, ev⟩ := e
        unfold kRow at q1
        dsimp only at q1
        cases ek with
        | str x t =>
          dsimp only at q1
          cases q3 : kData K 6 ev with
          | none => simp [q3] at q1
          | some d =>
            simp [q3] at q1
            subst q1
            have hk : (Value.str x t).isStr z = (x == z) := rfl
            unfold lookS
            refine ⟨fun d' q => ?_, fun q => ?_, ?_⟩
            · split at q
              · rename_i hx
                cases q
                exact ⟨_, List.find?_cons_of_pos (by dsimp only; rw [hk, hx]; exact beq_self_eq_true z), q3⟩
              · rename_i hx
                obtain ⟨e', f1, f2⟩ := i1 d' q
                exact ⟨e', by rw [List.find?_cons_of_neg (by dsimp only; rw [hk]; intro y; exact hx (eq_of_beq y))]; exact f1, f2⟩
            · split at q
              · cases q
              · rename_i hx
                rw [List.find?_cons_of_neg (by dsimp only; rw [hk]; intro y; exact hx (eq_of_beq y))]
                exact i2 q
            · rw [List.any_cons, i3]
              rfl
        | _ => cases q1
def GloD (K : PySem.W.Frag) (w : World) (mg : Str → Option Value) (x : Str) (kvs : List (Str × D)) : Prop := ∃ p es n, mg x = some (.ref p) ∧ KDict K w p es n ∧ kRows K es.toList = some kvs
theorem glod_mk {K : PySem.W.Frag} {w : World} {h : Heap} {mg : Str → Option Value} (X : K.In h) (G : h.Ns mainGlobals mg) {x : Str} {p : Addr} {ks : List Str} {kvs : List (Str × D)} (a : PySem.W.nsIn K mainGlobals x = some (some (.ref p)))
    (h1 : He.dicW K p = some (He.keysIn w.params ks)) (h2 : kDictD K p = some kvs) : GloD K w mg x kvs := by
  obtain ⟨es, n, kd⟩ := He.dicW_ok h1
  refine ⟨p, es, n, PySem.W.mg_of X G a, kd, ?_⟩
  unfold kDictD at h2
  rw [kd.at_] at h2
  exact h2
theorem nsIn_of {K : PySem.W.Frag} {w : World} {p : Addr} {es : Array DictEntry} {n : Nat} (kd : KDict K w p es n) {kvs : List (Str × D)} (h : kRows K es.toList = some kvs) (z : Str) :
    (∀ d, lookS kvs z = some d → ∃ u, PySem.W.nsIn K p z = some (some u) ∧ kData K 6 u = some d) ∧ (lookS kvs z = none → PySem.W.nsIn K p z = some none) := by
  obtain ⟨h1, h2, h3⟩ := kRows_find (z := z) h
  unfold PySem.W.nsIn
  rw [kd.at_]
  dsimp only
  refine ⟨fun d q => ?_, fun q => ?_⟩
  · obtain ⟨e, f1, f2⟩ := h1 d q
    rw [f1]
    exact ⟨_, rfl, f2⟩
  · rw [h2 q, h3]
    rfl
def kgetF (kvs : List (Str × D)) : D → Option D
  | .str z => some ((lookS kvs z).getD .none)
  | _ => none
def kixF (kvs : List (Str × D)) : D → Option D
  | .str z => lookS kvs z
  | _ => none
section
variable {X : Cx} {o e : Expr} {apos cpos : Pos} {te : TE} {p : Addr} {es : Array DictEntry} {n : Nat}
theorem pe_kget (kd : KDict X.K X.w p es n) (ho : PE X o (tC (.ref p))) (he : PE X e te) (m : M1 X o "get" apos e cpos) :
    PE X (.Call (.Attribute o "get" apos) [e] [] cpos) (fun σ H Q => te σ H fun y H2 => ∃ z r, y = .str z ∧ PySem.W.nsIn X.K p z = some r ∧ ∃ v, RelV v (r.getD .none) ∧ Q v H2) := by
  refine ⟨fun pins s σ H Q I h => ?_⟩
  refine wpAny_Call_method m.base m.few m.line PySem.F.plainAttrs_dict PySem.F.slot_dict_get PySem.F.type_dict_get (thn (ho.run pins s σ H (fun v H1 => v = .ref p ∧ te σ H1 fun y H2 => ∃ z r, y = .str z ∧ PySem.W.nsIn X.K p z = some r ∧ ∃ v, RelV v (r.getD .none) ∧ Q v H2) I ⟨rfl, h⟩) fun u s1 ⟨x, H1, I1, rx, ex, q1⟩ => ?_)
  subst ex
  obtain rfl : u = Value.ref p := rx
  have hm := PySem.W.mapOf_K (prog := X.prog) (w := X.w) I1.kIn kd.at_ kd.lit
  refine ⟨hm.typeIs, fun b q => by cases q; exact ⟨_, I1.kIn _ _ kd.at_, rfl⟩, ?_⟩
  rw [m.trees]
  refine Calls.callWith_builtin rfl (Calls.evalArgs_plain (Calls.spliced_cons (thn (he.run pins s1 σ H1 _ I1 q1) fun iv s2 ⟨y, H2, I2, ry, z, r, ey, hr, v, rv, q2⟩ => Calls.spliced_nil ?_)))
  subst ey
  obtain ⟨t, rfl⟩ := (show ∃ t, iv = Value.str z t from ry)
  have hm2 := PySem.W.mapOf_K (prog := X.prog) (w := X.w) I2.kIn kd.at_ kd.lit
  refine call_meetsIn PySem.F.slot_dict_get hm2.typeIs PySem.F.entry_dict_get (PySem.F.args_dict_get_2 _ _) (meets_dict_get (strKind X.prog X.w) p (strKind_is X.prog X.w z t) kd.low) ⟨_, hm2, ?_⟩
  rw [PySem.W.find_K kd.at_ hr]
  exact ⟨v, H2, I2.tok _, rv, q2⟩
end
section
variable {γ : Type} {m : Type → Type} [PM γ m] {β : Type} {C : Cc γ} {X : Cx} {ρ : En}
theorem ce_kget {nm : Str} {e : Expr} {p2 apos pos : Pos} {kvs : List (Str × D)} {x : m β} {k : D → m β} (h : GloD X.K X.w X.mg nm kvs) (he : CE C X ρ e dv x (fun d => bnd (need (kgetF kvs d)) k)) (hg : Gl X nm := by rfl) (hd : (nm == ("__debug__" : Str)) = false := by decide)
    (mm : M1 X (.Name nm p2) "get" apos e pos := by exact ⟨rfl, rfl, rfl, rfl⟩) : CE C X ρ (.Call (.Attribute (.Name nm p2) "get" apos) [e] [] pos) dv x k := fun Qf => by
  obtain ⟨p, es, n, hm, kd, hk⟩ := h
  refine PE.imp (pe_kget kd (pe_glob hg hm rfl hd) (he Qf) mm) fun σ H Q ⟨G, J, g, st, w, q⟩ => ⟨G, J, g, st, w, fun v1 d1 H1 G1 J1 g1 af1 si1 r1 w1 => ?_⟩
  obtain ⟨d, e1, w2⟩ := of_need w1
  cases r1 with
  | str z =>
    obtain ⟨n1, n2⟩ := nsIn_of kd hk z
    have e2 : some ((lookS kvs z).getD .none) = some d := e1
    cases q3 : lookS kvs z with
    | none =>
      rw [q3] at e2
      cases e2
      exact ⟨z, _, rfl, n2 q3, .non, rfl, q _ _ H1 G1 J1 g1 af1 si1 .non w2⟩
    | some d' =>
      rw [q3] at e2
      cases e2
      obtain ⟨u, f1, f2⟩ := n1 _ q3
      obtain ⟨v, r, rp⟩ := kData_rp _ _ _ f2
      exact ⟨z, _, rfl, f1, v, r, q _ _ H1 G1 J1 g1 af1 si1 (rp _) w2⟩
  | _ => cases e1
theorem ce_kix {nm : Str} {e : Expr} {p2 pos : Pos} {kvs : List (Str × D)} {x : m β} {k : D → m β} (h : GloD X.K X.w X.mg nm kvs) (he : CE C X ρ e dv x (fun d => bnd (need (kixF kvs d)) k)) (hg : Gl X nm := by rfl) (hd : (nm == ("__debug__" : Str)) = false := by decide)
    (hs : PlainIx e := by intro _ _; rfl) : CE C X ρ (.Subscript (.Name nm p2) e pos) dv x k := fun Qf => by
  obtain ⟨p, es, n, hm, kd, hk⟩ := h
  refine PE.imp (pe_ix ix_kdict (pe_glob (v := .ref p) hg hm rfl hd) (he Qf) hs) fun σ H Q ⟨G, J, g, st, w, q⟩ => ⟨G, J, g, st, w, fun v1 d1 H1 G1 J1 g1 af1 si1 r1 w1 => ?_⟩
  obtain ⟨d, e1, w2⟩ := of_need w1
  cases r1 with
  | str z =>
    obtain ⟨n1, n2⟩ := nsIn_of kd hk z
    obtain ⟨u, f1, f2⟩ := n1 d e1
    obtain ⟨v, r, rp⟩ := kData_rp _ _ _ f2
    exact ⟨p, z, v, rfl, rfl, ⟨es, n, u, kd.at_, kd.lit, f1, r⟩, q _ _ H1 G1 J1 g1 af1 si1 (rp _) w2⟩
  | _ => cases e1
end
end Cl

set_option Elab.async false
set_option linter.all false
set_option autoImplicit false
set_option maxRecDepth 100000
set_option maxHeartbeats 400000
/-! the clean layer, part T: a target, then a list of one's own; plain stretches of a computation with choices -/
namespace Cl
open PySem PySem.Spec PyProof.Rows L2
open MO
section
variable {γ : Type} {m : Type → Type} [PM γ m] {α α2 β δ τ ω : Type} {C : Cc γ} {X : Cx} {ρ : En} {rest : List Stmt} {out : ω → En} {outL : τ → En} {rk : δ → R} {x : m β} {kn : ω → m β} {kr : δ → m β} {kb kc : τ → m β}
/-- name, name = a value, a list of one's own -/
theorem cs_asgR2 {i j : Nat} {n1 n2 : Str} {e1 e2 : Expr} {p1 p2 pt pt2 pos : Pos} {kt k2} {x2 : D → m β} {xr : D → List D → m β}
    (hr : ∀ d xs, CS C X ((ρ.set i (some (.val d))).set j (some (.own (.lst xs)))) rest out outL rk (xr d xs) kn kr kb kc)
    (hb : ∀ d, CE C X ρ e2 lv (x2 d) (xr d)) (ha : CE C X ρ e1 dv x x2) (hp : PG X (.Name n1 p1) (gName i)) (hp2 : PG X (.Name n2 p2) (gName j))
    (hc : X.calm = true := by rfl)
    (hs1 : starEach [e1, e2] X.env = (false, eval e1 X.env) :: starEach [e2] X.env := by rfl) (hs2 : starEach [e2] X.env = (false, eval e2 X.env) :: starEach [] X.env := by rfl)
    (hg1 : (assignEach [.Name n1 p1, .Name n2 p2] X.env).map (·.2) = assign (.Name n1 p1) X.env :: (assignEach [.Name n2 p2] X.env).map (·.2) := by rfl) (hg2 : (assignEach [.Name n2 p2] X.env).map (·.2) = assign (.Name n2 p2) X.env :: (assignEach [] X.env).map (·.2) := by rfl)
    (hn : (assignEach [.Name n1 p1, .Name n2 p2] X.env).length = 2 := by rfl) (hst : (assignEach [.Name n1 p1, .Name n2 p2] X.env).findIdx? (·.1) = none := by rfl)
    (hps : ∀ te g, PE X (.Tuple [e1, e2] k2 pt2) te → PG X (.Tuple [.Name n1 p1, .Name n2 p2] kt pt) g → PS X (.Assign [.Tuple [.Name n1 p1, .Name n2 p2] kt pt] (.Tuple [e1, e2] k2 pt2) pos) (tAsg te g) := by intro te g he hg; exact ps_asg he hg) :
    CS C X ρ (.Assign [.Tuple [.Name n1 p1, .Name n2 p2] kt pt] (.Tuple [e1, e2] k2 pt2) pos :: rest) out outL rk x kn kr kb kc := fun Qf =>
  PSs.imp (pss_cons (hps _ _ (pe_tup (pa_cons (ha Qf) (pa_cons (PE.ex fun d => hb d Qf) pa_nil hs2) hs1)) (pg_tup hc (pgs_cons hp (pgs_cons hp2 pgs_nil hg2) hg1) hn hst)) (PSs.ex fun q : D × List D => hr q.1 q.2 Qf)) fun E σ H ⟨G, J, g, st, w, f⟩ =>
    ⟨G, J, g, st, w, fun v1 d H1 G1 J1 g1 af1 si1 rr1 w1 => ⟨d, G1, J1, g1, st.go af1 si1, w1, fun v2 xs H2 G2 J2 g2 af2 si2 rr2 w2 => by
      refine ⟨by have := sizeLine_eq; show 2 ≤ sizeLine; omega, fun p np => ?_⟩
      have n := New.own (o := .tup [v1, v2]) af2.vis.sub np
      have af3 := n.aft af2.vis
      have si3 := SIx.nw si2 n
      obtain ⟨p0, rfl, hb0, hg0, hj0, hc0⟩ := RR.aft (Hb := H1) rr2 af3
      have st2 : C.St X.K (ρ.set i (some (.val d))) (σ.set i (some v1)) H1 G1 J1 g1 := ⟨(st.env.aft af1).setV rr1, st.aft.trans af1, si1⟩
      have st3 := st2.setL (i := j) (af2.trans af3) si3 hb0 hg0 hj0 hc0
      exact ⟨p, [v1, .ref p0], rfl, .inl (.inl upd_same), rfl, v1, [.ref p0], rfl, .ref p0, [], rfl, rfl, (d, xs), G2, J2, g2, st3, w2, f.sub ((af1.trans af2).trans af3).gg⟩⟩⟩
end
/-! ### plain stretches -/
section
variable {γ α β τ : Type}
structure Tr (x : M γ α) (p : P α) : Prop where
  run : ∀ (g : γ) (Q : α → γ → Prop) (E : Xc → γ → Prop), wpP p g Q E → x.wp g Q E
theorem tr_pur {a : α} : Tr (pur a : M γ α) (pur a) := ⟨fun _ _ _ h => h⟩
theorem tr_lift {p : P α} : Tr (lift p : M γ α) p := ⟨fun _ _ _ h => h⟩
theorem tr_need {o : Option α} : Tr (need o : M γ α) (need o) := ⟨fun _ _ _ h => h⟩
theorem tr_bnd {x : M γ α} {k : α → M γ β} {p : P α} {q : α → P β} (h : Tr x p) (hk : ∀ a, Tr (k a) (q a)) : Tr (bnd x k) (bnd p q) := ⟨fun g Q E hw => by
  cases p with
  | ok a => exact h.run g _ E ((hk a).run g Q E hw)
  | ex e => exact h.run g _ E hw
  | no => exact h.run g _ E hw⟩
theorem tr_ite {c : Prop} [Decidable c] {x y : M γ α} {p q : P α} (h1 : Tr x p) (h2 : Tr y q) : Tr (if c then x else y) (if c then p else q) := by
  by_cases z : c
  · rw [if_pos z, if_pos z]; exact h1
  · rw [if_neg z, if_neg z]; exact h2
theorem tr_forP {f : D → τ → M γ τ} {q : D → τ → P τ} {ds : List D} {t : τ} (h : ∀ d t, Tr (f d t) (q d t)) : Tr (forP ds t f) (forP ds t q) := by
  induction ds generalizing t with
  | nil => exact tr_pur
  | cons d ds ih => exact tr_bnd (h d t) fun _ => ih
theorem tr_compL {f : D → M γ (Option D)} {q : D → P (Option D)} {ds acc : List D} (h : ∀ d, Tr (f d) (q d)) : Tr (compL ds acc f) (compL ds acc q) := by
  induction ds generalizing acc with
  | nil => exact tr_pur
  | cons d ds ih =>
    refine tr_bnd (h d) fun o => ?_
    cases o with
    | none => exact ih
    | some e => exact tr_bnd tr_need fun _ => ih
theorem tr_nox {x : M γ α} {p : P α} (h : Tr x p) : Tr (nox x) (nox p) := ⟨fun g Q E hw => by
  cases p with
  | ok a => exact h.run g Q _ hw
  | ex e => exact hw.elim
  | no => exact hw.elim⟩
theorem w_tr {x : M γ α} {k : α → M γ β} {p : P α} {g : γ} {Q : β → γ → Prop} {E : Xc → γ → Prop} (h : Tr x p) (hw : wpP p g (fun a g' => (k a).wp g' Q E) E) : (bnd x k).wp g Q E := h.run g _ E hw
end
end Cl

set_option Elab.async false
set_option linter.all false
set_option autoImplicit false
set_option maxRecDepth 100000
set_option maxHeartbeats 400000
/-! the clean layer, part U: more plain steps -/
namespace Cl
open PySem PySem.Spec PyProof.Rows L2
open MO
section
variable {α β : Type}
theorem p_jn {α β : Type} {f : (α → P β) → P β} {k : α → P β} {r : P β} (h : f k = r) : (jn f k : P β) = r := h
theorem w_jn {γ α β : Type} {f : (α → M γ β) → M γ β} {k : α → M γ β} {g : γ} {Q : β → γ → Prop} {E : Xc → γ → Prop} (h : (f k).wp g Q E) : (jn f k).wp g Q E := h
/-- a comprehension over what m makes of xs -/
theorem p_filt {ι : Type} {m h : ι → D} {t : ι → Bool} {f : D → P (Option D)} : ∀ {xs : List ι} {acc : List D}, (∀ x ∈ xs, f (m x) = .ok (if t x = true then some (h x) else none)) → acc.length + xs.length ≤ 100000 →
    (compL (xs.map m) acc f : P (List D)) = .ok (acc ++ (xs.filter t).map h)
  | [], acc, _, _ => by
    show (P.ok acc : P (List D)) = .ok (acc ++ [])
    rw [List.append_nil]
  | x :: xs, acc, hf, hl => by
    have big := sizeLine_eq
    rw [List.length_cons] at hl
    have e := hf x List.mem_cons_self
    have ih : ∀ {acc : List D}, acc.length + xs.length ≤ 100000 → (compL (xs.map m) acc f : P (List D)) = .ok (acc ++ (xs.filter t).map h) := fun hl => p_filt (fun y hy => hf y (List.mem_cons_of_mem _ hy)) hl
    rw [List.map_cons]
    refine p_bnd e ?_
    cases q : t x with
    | true =>
      rw [List.filter_cons_of_pos q, if_pos rfl]
      refine p_need (a := acc ++ [h x]) (by unfold appF; rw [if_pos (by omega)]) ?_
      rw [ih (by rw [List.length_append, List.length_singleton]; omega), List.map_cons, List.append_assoc]
      rfl
    | false =>
      rw [List.filter_cons_of_neg (by rw [q]; exact Bool.false_ne_true), if_neg Bool.false_ne_true]
      exact ih (by omega)
theorem p_last {o : Option Bool} {y : Bool} (e : o = some y) : (bnd (need o) fun b => pur b : P Bool) = .ok y := by subst e; rfl
theorem p_and {o : Option Bool} {x y : Bool} {Y : P Bool} (e : o = some x) (h : x = true → Y = .ok y) : (bnd (need o) fun b => if b = true then Y else pur false : P Bool) = .ok (x && y) := by
  subst e
  cases x with
  | true => exact h rfl
  | false => rfl
theorem p_or {o : Option Bool} {x y : Bool} {Y : P Bool} (e : o = some x) (h : x = false → Y = .ok y) : (bnd (need o) fun b => if b = true then pur true else Y : P Bool) = .ok (x || y) := by
  subst e
  cases x with
  | true => rfl
  | false => exact h rfl
end
/-- what is told -/
def opts (l : List (Str × Bool)) : List Str := (l.filter fun p => p.2).map fun p => p.1
theorem opts_len (l : List (Str × Bool)) : (opts l).length ≤ l.length := by
  unfold opts
  rw [List.length_map]
  exact List.length_filter_le _ _
theorem opts_append (a b : List (Str × Bool)) : opts (a ++ b) = opts a ++ opts b := by
  unfold opts
  rw [List.filter_append, List.map_append]
theorem opts_f (l : List (Str × Bool)) (s : Str) : opts (l ++ [(s, false)]) = opts l := by
  rw [opts_append]
  show opts l ++ [] = _
  rw [List.append_nil]
theorem app_opts {β : Type} {l : List (Str × Bool)} {c : Bool} {s : Str} {k : List D → P β} {r : P β} (hl : Nat.ble l.length 1000 = true) (h : k ((opts (l ++ [(s, c)])).map PyData.str) = r) :
    (if c = true then bnd (need (appF ((opts l).map PyData.str) (.str s))) fun x => k x else k ((opts l).map PyData.str)) = r := by
  have big := sizeLine_eq
  cases c with
  | true =>
    rw [if_pos rfl]
    have h1 := opts_len l
    have h2 := Nat.le_of_ble_eq_true hl
    have e : appF ((opts l).map PyData.str) (.str s) = some ((opts (l ++ [(s, true)])).map PyData.str) := by
      unfold appF
      rw [if_pos (by rw [List.length_map]; omega), opts_append, List.map_append]
      rfl
    rw [e]
    exact h
  | false =>
    rw [if_neg Bool.false_ne_true, ← opts_f l s]
    exact h
theorem ap {xs : List D} {d : D} (h : Nat.ble xs.length 1000 = true) : appF xs d = some (xs ++ [d]) := by
  have big := sizeLine_eq
  have := Nat.le_of_ble_eq_true h
  unfold appF
  rw [if_pos (by omega)]
theorem ext_ok {xs ys : List Str} (h : xs.length + ys.length ≤ 1000) : extF (xs.map PyData.str) (.list (ys.map PyData.str)) = some ((xs ++ ys).map PyData.str) := by
  have big := sizeLine_eq
  show (if (xs.map PyData.str).length + (ys.map PyData.str).length ≤ sizeLine then some (xs.map PyData.str ++ ys.map PyData.str) else none) = _
  rw [if_pos (by rw [List.length_map, List.length_map]; omega), List.map_append]
/-- is nothing told? -/
theorem eqT_nil {k n : Nat} {ds : List D} (h : Rep k n (.tuple ds)) (hk : k ≤ 64) : eqF (.tuple ds) (.tuple []) = some ds.isEmpty := by
  show (if SeqAt.shaped (.tuple ds) = true ∧ SeqAt.shaped (.tuple []) = true then some (PyData.eqv (.tuple ds) (.tuple [])) else none) = _
  rw [if_pos ⟨h.shaped hk, by decide⟩]
  cases ds <;> rfl
theorem rng_ok {i : Int} (h0 : i ≤ 1000) (h1 : -1000 ≤ i) : rng1 [.int i] = some (rangeD 0 i.toNat) := by
  show (if -(2 ^ 62) ≤ i ∧ i < 2 ^ 62 then some (rangeD 0 i.toNat) else none) = _
  rw [if_pos ⟨by omega, by omega⟩]
theorem rangeD_len (n : Nat) : (rangeD 0 n).length = n := by simp [rangeD]
theorem int_of_range {d : D} {n : Nat} (h : d ∈ rangeD 0 n) : ∃ k : Int, d = .int k ∧ 0 ≤ k ∧ k < n := by
  obtain ⟨i, hi, rfl⟩ := List.mem_map.mp h
  have := List.mem_range.mp hi
  exact ⟨_, rfl, by omega, by omega⟩
theorem All2.all {α β : Type} {S : α → β → Prop} {T : β → Prop} (h : ∀ a b, S a b → T b) : ∀ {as : List α} {bs : List β}, All2 S as bs → (∀ b ∈ bs, T b) ∧ bs.length = as.length
  | _, _, .nil => ⟨fun _ z => (by cases z), rfl⟩
  | _, _, .cons p q => by
    obtain ⟨i1, i2⟩ := All2.all h q
    refine ⟨fun b hb => ?_, by rw [List.length_cons, List.length_cons, i2]⟩
    rcases List.mem_cons.mp hb with rfl | hb
    · exact h _ _ p
    · exact i1 b hb
end Cl

set_option Elab.async false
set_option linter.all false
set_option autoImplicit false
set_option maxRecDepth 100000
set_option maxHeartbeats 400000
/-! the clean layer, part V: found.append(left.pop(e)); chained comparisons -/
namespace Cl
open PySem PySem.Spec PyProof.Rows L2
open MO
/-- an item taken out of one's own list -/
def popAtF (ys : List D) : D → Option (D × List D)
  | .int k => if 0 ≤ k ∧ k < (ys.length : Nat) ∧ k < 2 ^ 62 then (ys[k.toNat]?).map fun y => (y, ys.eraseIdx k.toNat) else none
  | _ => none
theorem seq_at {k : Int} {n : Nat} (h0 : 0 ≤ k) (h1 : k < (n : Nat)) : seqIndex? k n = some k.toNat :=
  (ixN_seq (n := n) (i := k) (j := k.toNat) (by unfold ixN; rw [if_pos h0, if_pos h1])).1
section
variable {γ : Type} {m : Type → Type} [PM γ m] {α α2 β δ τ ω : Type} {C : Cc γ} {X : Cx} {ρ : En} {rest : List Stmt} {out : ω → En} {outL : τ → En} {rk : δ → R} {x : m β} {kn : ω → m β} {kr : δ → m β} {kb kc : τ → m β}
/-- found.append(left.pop(e)) -/
theorem cs_appPop {y1 y2 : Str} {p1 p2 a1 a2 c1 c2 pos : Pos} {e : Expr} {xr : List D → List D → m β} (i j : Nat) {xs ys : List D} (hi : ρ[i]? = some (some (.own (.lst xs)))) (hj : ρ[j]? = some (some (.own (.lst ys)))) (hij : i ≠ j)
    (hr : ∀ ys' xs', CS C X ((ρ.set j (some (.own (.lst ys')))).set i (some (.own (.lst xs')))) rest out outL rk (xr ys' xs') kn kr kb kc)
    (he : CE C X ρ e dv x (fun d => bnd (need (popAtF ys d)) fun r => bnd (need (appF xs r.1)) fun xs' => xr r.2 xs'))
    (hpe : ∀ te, PE X e te → PE X (.Call (.Attribute (.Name y1 p1) "append" a1) [.Call (.Attribute (.Name y2 p2) "pop" a2) [e] [] c2] [] c1) (tBM X.K "list" rAppend (tVar i) (tCons (tBM X.K "list" rPopAt (tVar j) (tCons te tNil)) tNil)) := by
      intro te he; exact pe_bm PySem.F.plainAttrs_list PySem.F.slot_list_append PySem.F.type_list_append mt_append (pv _) (pa_cons (pe_bm PySem.F.plainAttrs_list PySem.F.slot_list_pop PySem.F.type_list_pop mt_popAt (pv _) (pa_cons he pa_nil)) pa_nil))
    (hs : swapsWith (.Call (.Attribute (.Name y1 p1) "append" a1) [.Call (.Attribute (.Name y2 p2) "pop" a2) [e] [] c2] [] c1) none pos.line X.env = pure false := by rfl) :
    CS C X ρ (.Expr (.Call (.Attribute (.Name y1 p1) "append" a1) [.Call (.Attribute (.Name y2 p2) "pop" a2) [e] [] c2] [] c1) pos :: rest) out outL rk x kn kr kb kc := fun Qf =>
  PSs.imp (pss_cons (ps_expr (hpe _ (he Qf)) hs) (PSs.ex fun q : List D × List D => hr q.1 q.2 Qf)) fun E σ H ⟨G, J, g, st, w, fi⟩ => by
    obtain ⟨p, h1, h2, h3, h4, vs, hv, rl⟩ := st.env.own i _ hi
    obtain ⟨q, g1, g2, g3, g4, us, gv, gl⟩ := st.env.own j _ hj
    refine ⟨_, h1, ty_lst hv, _, g1, ty_lst gv, G, J, g, st, w, fun v d H' G' J' g' af si rr w' => ?_⟩
    obtain ⟨r, e1, w2⟩ := of_need w'
    obtain ⟨xs', e2, w3⟩ := of_need w2
    have st' := st.go af si
    obtain ⟨q', k1, k2, k3, k4, ws, kv, kl⟩ := st'.env.own j _ hj
    rw [g1] at k1; cases k1
    cases rr with
    | int k =>
      have e1' : (if 0 ≤ k ∧ k < (ys.length : Nat) ∧ k < 2 ^ 62 then (ys[k.toNat]?).map fun y => (y, ys.eraseIdx k.toNat) else none) = some r := e1
      split at e1'
      · rename_i hk
        cases e3 : ys[k.toNat]? with
        | none => rw [e3] at e1'; cases e1'
        | some y =>
          rw [e3] at e1'
          cases e1'
          obtain ⟨v, f1, f2⟩ := kl.get e3
          have st2 := St.ownG st' hj g1 (c' := .lst (ys.eraseIdx k.toNat)) (o := .lst (ws.eraseIdx k.toNat)) ⟨_, upd_same, kl.erase _⟩
          have hi2 : (ρ.set j (some (.own (.lst (ys.eraseIdx k.toNat)))))[i]? = some (some (.own (.lst xs))) := by rw [List.getElem?_set_ne (Ne.symm hij)]; exact hi
          obtain ⟨p', m1, m2, m3, m4, zs, mv, ml⟩ := st2.env.own i _ hi2
          rw [h1] at m1; cases m1
          refine ⟨q, ws, k, k.toNat, v, rfl, rfl, kv, by omega, by omega, seq_at hk.1 (by rw [kl.length]; exact hk.2.1), f1, ?_⟩
          dsimp only [tNil]
          exact mu_append _ G' p zs xs v y xs' _ st2.vis.sub mv ml f2 e2 fun u vs' rl' => ⟨(ys.eraseIdx k.toNat, xs'), G', J', g', St.ownG st2 hi2 h1 ⟨vs', upd_same, rl'⟩, w3, fi.sub af.gg⟩
      · cases e1'
    | _ => cases e1
end
/-! ### a < b < c -/
section
variable {γ : Type} {m : Type → Type} [PM γ m] {β : Type} {C : Cc γ} {X : Cx} {ρ : En}
theorem ce_chain {op op' : CmpOp} {r r' : R2} {a b c : Expr} {pos : Pos} {f f' : D → D → Option Bool} {x : m β} {x2 : D → m β} {x3 : D → m β} {k : Bool → m β} (ho : OpR X (compareOp op) r) (ho' : OpR X (compareOp op') r') (hf : P2 X.K r f PyData.bool) (hf' : P2 X.K r' f' PyData.bool)
    (hc : ∀ d2, CE C X ρ c dv (x3 d2) (fun d3 => bnd (need (f' d2 d3)) k)) (hb : ∀ d1, CE C X ρ b dv (x2 d1) (fun d2 => bnd (need (f d1 d2)) fun t => if t = true then x3 d2 else k false)) (ha : CE C X ρ a dv x x2)
    (hm : lastMarks [op, op'] [b, c] = false := by with_unfolding_all rfl) : CE C X ρ (.Compare a [op, op'] [b, c] pos) bv x k := fun Qf =>
  PE.imp (pe_chain ho ho' (ha Qf) (PE.ex fun d1 => hb d1 Qf) (PE.ex fun d2 => hc d2 Qf) hm) fun σ H Q ⟨G, J, g, st, w, q⟩ => ⟨G, J, g, st, w, fun v1 d1 H1 G1 J1 g1 af1 si1 r1 w1 => ⟨d1, G1, J1, g1, st.go af1 si1, w1, fun v2 d2 H2 G2 J2 g2 af2 si2 r2 w2 => by
    obtain ⟨t, e, w3⟩ := of_need w2
    refine hf H2 G2 v1 v2 d1 d2 t _ af2.vis.sub (Rp.sub af2.gg r1) r2 e fun v H' G' n rr => ?_
    cases rr
    refine ⟨t, rfl, ?_⟩
    have af3 := (af1.trans af2).trans (n.aft af2.vis)
    have si3 := SIx.nw si2 n
    cases t with
    | true =>
      rw [if_pos rfl] at w3 ⊢
      refine ⟨d2, G', J2, g2, st.go af3 si3, w3, fun v3 d3 H4 G4 J4 g4 af4 si4 r4 w4 => ?_⟩
      obtain ⟨t2, e2, w5⟩ := of_need w4
      exact hf' H4 G4 v2 v3 d2 d3 t2 Q af4.vis.sub (Rp.sub (n.gg.trans af4.gg) r2) r4 e2 fun v' H'' G'' n' rr' => q v' t2 H'' G'' J4 g4 ((af3.trans af4).trans (n'.aft af4.vis)) (SIx.nw si4 n') rr' w5
    | false =>
      rw [if_neg Bool.false_ne_true] at w3 ⊢
      exact q _ false H' G' J2 g2 af3 si3 (.bl false) w3⟩⟩
theorem ct_chain {op op' : CmpOp} {r r' : R2} {a b c : Expr} {pos : Pos} {f f' : D → D → Option Bool} {x : m β} {x2 : D → m β} {x3 : D → m β} {k : Bool → m β} (ho : OpR X (compareOp op) r) (ho' : OpR X (compareOp op') r') (hf : P2 X.K r f PyData.bool) (hf' : P2 X.K r' f' PyData.bool)
    (hc : ∀ d2, CE C X ρ c dv (x3 d2) (fun d3 => bnd (need (f' d2 d3)) k)) (hb : ∀ d1, CE C X ρ b dv (x2 d1) (fun d2 => bnd (need (f d1 d2)) fun t => if t = true then x3 d2 else k false)) (ha : CE C X ρ a dv x x2)
    (hm : lastMarks [op, op'] [b, c] = false := by with_unfolding_all rfl) : CT C X ρ (.Compare a [op, op'] [b, c] pos) x k := fun Qf =>
  PT.imp (pt_chain ho ho' (ha Qf) (PE.ex fun d1 => hb d1 Qf) (PE.ex fun d2 => hc d2 Qf) hm) fun σ H Q ⟨G, J, g, st, w, q⟩ => ⟨G, J, g, st, w, fun v1 d1 H1 G1 J1 g1 af1 si1 r1 w1 => ⟨d1, G1, J1, g1, st.go af1 si1, w1, fun v2 d2 H2 G2 J2 g2 af2 si2 r2 w2 => by
    obtain ⟨t, e, w3⟩ := of_need w2
    refine hf H2 G2 v1 v2 d1 d2 t _ af2.vis.sub (Rp.sub af2.gg r1) r2 e fun v H' G' n rr => ?_
    cases rr
    refine ⟨t, rfl, ?_⟩
    have af3 := (af1.trans af2).trans (n.aft af2.vis)
    have si3 := SIx.nw si2 n
    cases t with
    | true =>
      rw [if_pos rfl] at w3 ⊢
      refine ⟨d2, G', J2, g2, st.go af3 si3, w3, fun v3 d3 H4 G4 J4 g4 af4 si4 r4 w4 => ?_⟩
      obtain ⟨t2, e2, w5⟩ := of_need w4
      exact hf' H4 G4 v2 v3 d2 d3 t2 _ af4.vis.sub (Rp.sub (n.gg.trans af4.gg) r2) r4 e2 fun v' H'' G'' n' rr' => by
        cases rr'
        exact ⟨t2, rfl, q t2 H'' G'' J4 g4 ((af3.trans af4).trans (n'.aft af4.vis)) (SIx.nw si4 n') w5⟩
    | false =>
      rw [if_neg Bool.false_ne_true] at w3 ⊢
      exact ⟨false, rfl, q false H' G' J2 g2 af3 si3 w3⟩⟩⟩
end
end Cl

set_option Elab.async false
set_option linter.all false
set_option autoImplicit false
set_option maxRecDepth 100000
set_option maxHeartbeats 300000
set_option pp.maxSteps 400
namespace LawX
section
open PySem PySem.Spec PyProof.Rows L2 Cl
open MO
abbrev prog : Program := (PySem.Challenge.rw_leftasleep_k39_good_books_by_names).prog
def topS (i : Nat) : Stmt := (PySem.Challenge.pw_leftasleep_k39_good_books_by_names).main.body.getD i (.Pass ⟨0, 0, 0, 0⟩)
def G_ENTRIES : D := .tuple [.tuple [.str "note", .tuple [.str "ahead", .str "behind"]], .tuple [.str "call", .tuple [.str "kept", .str "lost"]], .tuple [.str "put", .tuple [.str "first", .str "last"]], .tuple [.str "many", .tuple [.str "one", .str "each", .str "all"]], .tuple [.str "woken", .tuple [.str "tries", .str "takes", .str "given"]], .tuple [.str "fails", .tuple [.str "back", .str "front"]], .tuple [.str "pass", .tuple [.str "never", .str "left", .str "always"]], .tuple [.str "quits", .tuple [.str "passes", .str "drops"]], .tuple [.str "comers", .tuple [.str "free", .str "behind"]], .tuple [.str "order", .tuple [.str "first", .str "any"]]]
def G_PLACES : List (Str × D) := [("note", .int 0), ("call", .int 1), ("put", .int 2), ("many", .int 3), ("woken", .int 4), ("fails", .int 5), ("pass", .int 6), ("quits", .int 7), ("comers", .int 8), ("order", .int 9)]
structure Wd (w : World) (K : PySem.W.Frag) (mg : Str → Option Value) : Prop where
  d__law_bag : Dfd K mg "_law_bag" "_law_bag" (topS 21) ["script"]
  d__law_draw : Dfd K mg "_law_draw" "_law_draw" (topS 22) ["bag", "many"]
  d__law_mixed : Dfd K mg "_law_mixed" "_law_mixed" (topS 24) ["bag", "items"]
  d__law_pick : Dfd K mg "_law_pick" "_law_pick" (topS 23) ["bag", "items"]
  d__law_sort : Dfd K mg "_law_sort" "_law_sort" (topS 26) ["bag"]
  d__law_with : Dfd K mg "_law_with" "_law_with" (topS 28) ["book", "spot", "word"]
  d__law_missing : Dfd K mg "_law_missing" "_law_missing" (topS 27) ["book", "sort"]
  d__law_right : Dfd K mg "_law_right" "_law_right" (topS 29) ["bag", "sort"]
  d__law_entries : Dfd K mg "_law_entries" "_law_entries" (topS 25) []
  d__law_book : Dfd K mg "_law_book" "_law_book" (topS 30) ["bag", "sort"]
  d_place_of : Dfd K mg "place_of" "place_of" (topS 8) ["name"]
  d_word_of : Dfd K mg "word_of" "word_of" (topS 9) ["book", "name"]
  d_like_lacks : Dfd K mg "like_lacks" "like_lacks" (topS 12) ["book"]
  d_any_lacks : Dfd K mg "any_lacks" "any_lacks" (topS 13) ["book", "stay"]
  d_lacks : Dfd K mg "lacks" "lacks" (topS 14) ["book", "sort"]
  d_is_good : Dfd K mg "is_good" "is_good" (topS 15) ["book", "sort"]
  d_entries : Dfd K mg "entries" "entries" (topS 6) []
  d_is_word : Dfd K mg "is_word" "is_word" (topS 7) ["words", "value"]
  d_turned : Dfd K mg "turned" "turned" (topS 10) ["book", "name", "word"]
  d_idle : Dfd K mg "idle" "idle" (topS 18) ["book", "sort"]
  d_with_words : Dfd K mg "with_words" "with_words" (topS 16) ["books", "name", "words"]
  d_candidates : Dfd K mg "candidates" "candidates" (topS 17) ["book"]
  d_mended : Dfd K mg "mended" "mended" (topS 19) ["book", "sort"]
  d__law_asked : Dfd K mg "_law_asked" "_law_asked" (topS 31) ["spot", "book", "sort", "is_named"]
  d_law : Dfd K mg "law" "law" (topS 32) ["script"]
  b_abs : mg "abs" = none
  b_int : mg "int" = none
  b_isinstance : mg "isinstance" = none
  b_len : mg "len" = none
  b_list : mg "list" = none
  b_range : mg "range" = none
  b_repr : mg "repr" = none
  b_str : mg "str" = none
  b_tuple : mg "tuple" = none
  b_zip : mg "zip" = none
  g_ENTRIES : Glo K mg "ENTRIES" G_ENTRIES
  g_PLACES : GloD K w mg "PLACES" G_PLACES
  kw_idle_0_sort_book : KwB K mg "idle" ["book", "sort"] 0 ["sort", "book"] [1, 0]
  kw_is_good_0_sort_book : KwB K mg "is_good" ["book", "sort"] 0 ["sort", "book"] [1, 0]
  kw_lacks_0_sort_book : KwB K mg "lacks" ["book", "sort"] 0 ["sort", "book"] [1, 0]
  kw_mended_0_sort_book : KwB K mg "mended" ["book", "sort"] 0 ["sort", "book"] [1, 0]
variable {w : World} {K : PySem.W.Frag} {mg : Str → Option Value} {base : Heap}
abbrev s__law_bag : Stmt := topS 21
theorem sc__law_bag : FnScope ["script", "cell", "cells", "stirred"] ["script"] (defScope s__law_bag) := ⟨rfl, rfl, rfl, by decide +kernel, rfl, by decide +kernel, by decide +kernel⟩
def m__law_bag (sc : Addr) (ns : List Int) : Ar [false] → M GH (Addr) := fun (a1, ()) =>
  bnd (need (asI (.int 63))) fun i11 => bnd (scM sc ns a1) fun l12 => bnd (need (items (.list (cutD l12 none (some i11))))) fun l13 => bnd (nox (compL l13 [] fun d4 => bnd (need (some d4)) fun a3 => (if true = true then bnd (need (absF [a3])) fun i5 => bnd (need (mulF (.int 2) (PyData.int i5))) fun d6 => bnd (need (ltF a3 (.int 0))) fun b7 => bnd (need (intF [(.bool b7)])) fun i8 => bnd (need (addF d6 (PyData.int i8))) fun d9 => pur (some d9) else pur none))) fun l10 => (fun d2 => bnd (scM sc ns a1) fun i15 => bnd (need (mulF (.int 23) (PyData.int ((i15.length : Nat) : Int)))) fun d16 => bnd (need (addF (.int 15782) d16)) fun d17 => (fun d14 => bnd (need (items d2)) fun l35 => bnd (forP (τ := D) l35 d14 fun d21 t18 => bnd (need (some d21)) fun a20 => bnd (need (mulF t18 (.int 48271))) fun d23 => bnd (need (addF d23 a20)) fun d24 => bnd (need (addF d24 (.int 9))) fun d25 => bnd (need (intF [d25])) fun i26 => bnd (need (modF (PyData.int i26) (.int 4294967291))) fun d27 => (fun d22 => pur d22) d27) fun t19 => bnd (need (items d2)) fun l34 => bnd (nox (compL l34 [] fun d30 => bnd (need (some d30)) fun a29 => bnd (need (powF (.int 10) (.int 15))) fun d31 => bnd (need (gtF a29 d31)) fun b32 => (if b32 = true then pur (some a29) else pur none))) fun l33 => bnd (nwM [(.inr "far", .l (.lst l33)), (.inr "stirred", .v t19), (.inr "count", .v (.int 0))]) fun a28 => pur a28) d17) (.list l10)
theorem cal__law_bag (W : Wd w K mg) (sc : Addr) (ns : List Int) : Cal prog w K mg base "_law_bag" 1 ["script"] (spC K (SR K sc ns) [false] (m__law_bag sc ns) R.o) :=
  cal_of (fun _ => lift .no) W.d__law_bag sc__law_bag rfl (.inl rfl) (fun f' cdv A outer s H G J E a hr hgd => by
    obtain ⟨a1, ⟨⟩⟩ := a; exact cs_eq (cs_par (i := 2) (j := 3) (r1 := R.v) (r2 := R.v) (fun d2 d14 => (cs_forP (outl := fun t18 : D => [some (.obj a1), none, some (.val d2), some (.val t18)]) (un := some) (outT := fun (t18 : D) (a20 : D) => [some (.obj a1), some (.val a20), some (.val d2), some (.val t18)]) (sl := [1]) (d14 : D) (fun t19 => (cs_ret (ce_dct (cdc_cons (fun _ => (cdc_cons (fun _ => (cdc_cons (fun _ => cdc_nil) ce_int)) (ce_name (i := 3) (d := t19)))) (ce_comp (un := some) (outT := fun a29 : D => [some (.obj a1), some (.val a29), some (.val d2), some (.val t19)]) (sl := [1]) (own := [("cell", 1)]) (fun _ _ _ _ _ a29 => (ce_name (i := 1) (d := a29))) (fun _ _ _ _ _ a29 => (cts_one (ct_cmp op_gt (p2_cmpI _) (fun _ => (ce_op op_pow p2_pow (fun _ => ce_int) ce_int)) (ce_name (i := 1) (d := a29))))) (fun _ _ _ _ _ => (cg_name 1 (pg_name sc__law_bag.nd rfl (by first | exact .inl rfl | exact .inr rfl)))) (ci_seq (ce_name (i := 2) (d := d2))) sc__law_bag.nd (by exact ⟨rfl, of_decide_eq_true (by kernel_rfl), of_decide_eq_true (by kernel_rfl), of_decide_eq_true (by kernel_rfl), of_decide_eq_true (by kernel_rfl)⟩)))))) (fun a20 t18 => (cs_set (i := 3) (fun d22 => (cs_nil (a := d22) (show LeE [some (.obj a1), none, some (.val d2), some (.val d22)] [some (.obj a1), some (.val a20), some (.val d2), some (.val d22)] from (le_same (le_none (le_same (le_same le_nil))))))) (ce_op op_mod p2_mod (fun _ => ce_int) (ce_to PyData.int (ce_ty call_int1 pc_int W.b_int (by first | exact PySem.boot_int | exact PyProof.Rows.boot_int | exact L2.boot_int | decide +kernel) (cd_cons (fun _ => cd_nil) (ce_op op_addA p2_add (fun _ => ce_int) (ce_op op_addA p2_add (fun _ => (ce_name (i := 1) (d := a20))) (ce_op op_mulA p2_mul (fun _ => ce_int) (ce_name (i := 3) (d := t18))))))))) sc__law_bag.nd)) (fun t18 => (cg_name 1 (pg_name sc__law_bag.nd rfl (by first | exact .inl rfl | exact .inr rfl)))) (ci_seq (ce_name (i := 2) (d := d2))) (show LeE [some (.obj a1), none, some (.val d2), some (.val d14)] [some (.obj a1), none, some (.val d2), some (.val d14)] from (le_same (le_none (le_same (le_same le_nil))))))) (fun _ => (ce_op op_addA p2_add (fun _ => (ce_op op_mulA p2_mul (fun _ => (ce_to PyData.int (ce_scrLen W.b_len (ce_obj (i := 0) (a := a1))))) ce_int)) ce_int)) (ce_show (ce_comp (un := some) (outT := fun a3 : D => [some (.obj a1), some (.val a3), none, none]) (sl := [1]) (own := [("cell", 1)]) (fun _ _ _ _ _ a3 => (ce_op op_addA p2_add (fun _ => (ce_to PyData.int (ce_ty call_int1 pc_int W.b_int (by first | exact PySem.boot_int | exact PyProof.Rows.boot_int | exact L2.boot_int | decide +kernel) (cd_cons (fun _ => cd_nil) (ce_bd (ce_cmp op_lt (p2_cmpI _) (fun _ => ce_int) (ce_name (i := 1) (d := a3)))))))) (ce_op op_mulA p2_mul (fun _ => (ce_to PyData.int (ce_blt call_abs pc_abs W.b_abs (by first | exact PySem.boot_abs | exact PyProof.Rows.boot_abs | exact L2.boot_abs | decide +kernel) (cd_cons (fun _ => cd_nil) (ce_name (i := 1) (d := a3)))))) ce_int))) (fun _ _ _ _ _ a3 => cts_nil) (fun _ _ _ _ _ => (cg_name 1 (pg_name sc__law_bag.nd rfl (by first | exact .inl rfl | exact .inr rfl)))) (ci_seq (ce_show (ce_scrSl (fun _ => (co_some ce_int)) (ce_obj (i := 0) (a := a1))))) sc__law_bag.nd (by exact ⟨rfl, of_decide_eq_true (by kernel_rfl), of_decide_eq_true (by kernel_rfl), of_decide_eq_true (by kernel_rfl), of_decide_eq_true (by kernel_rfl)⟩))) sc__law_bag.nd) rfl)
abbrev s__law_draw : Stmt := topS 22
theorem sc__law_draw : FnScope ["bag", "many", "far", "mixed", "cell"] ["bag", "many"] (defScope s__law_draw) := ⟨rfl, rfl, rfl, by decide +kernel, rfl, by decide +kernel, by decide +kernel⟩
def m__law_draw : Ar [false, true] → M GH (D) := fun (a1, d2, ()) =>
  bnd (fldO a1 (.inr "far")) fun a3 => bnd (rdM a3 neNilF) fun b39 => (if b39 = true then bnd (rdM a3 (atF (.int 0))) fun d5 => (fun d4 => bnd (need (fdivF d4 d2)) fun d6 => bnd (mtM a3 (setOF (.int 0) d6)) fun _ => jn (α := Unit) (fun k8 => bnd (need (ltF d4 d2)) fun b10 => (if b10 = true then bnd (mtM a3 pop0F) fun d9 => k8 () else k8 ())) fun t7 => bnd (need (intF [d4])) fun i11 => bnd (need (modF (PyData.int i11) d2)) fun d12 => pur d12) d5 else bnd (fldD a1 (.inr "count")) fun d13 => bnd (need (addF d13 (.int 1))) fun d14 => bnd (putM a1 (.inr "count") d14) fun _ => bnd (fldD a1 (.inr "stirred")) fun d16 => bnd (fldD a1 (.inr "count")) fun d17 => bnd (need (mulF (.int 2654435761) d17)) fun d18 => bnd (need (addF d16 d18)) fun d19 => bnd (need (intF [d19])) fun i20 => bnd (need (modF (PyData.int i20) (.int 4294967291))) fun d21 => (fun d15 => bnd (need (mulF d15 d15)) fun d23 => bnd (fldD a1 (.inr "count")) fun d24 => bnd (need (mulF (.int 69621) d24)) fun d25 => bnd (need (addF d23 d25)) fun d26 => bnd (need (addF d26 (.int 13))) fun d27 => bnd (need (intF [d27])) fun i28 => bnd (need (modF (PyData.int i28) (.int 4294967279))) fun d29 => (fun d22 => bnd (need (mulF d22 d22)) fun d31 => bnd (fldD a1 (.inr "stirred")) fun d32 => bnd (need (addF d31 d32)) fun d33 => bnd (need (intF [d33])) fun i34 => bnd (need (modF (PyData.int i34) (.int 4294967231))) fun d35 => (fun d30 => bnd (need (fdivF d30 (.int 512))) fun d36 => bnd (need (intF [d36])) fun i37 => bnd (need (modF (PyData.int i37) d2)) fun d38 => pur d38) d35) d29) d21)
theorem cal__law_draw (W : Wd w K mg) (sc : Addr) (ns : List Int) : Cal prog w K mg base "_law_draw" 1 ["bag", "many"] (spC K (SR K sc ns) [false, true] (m__law_draw) R.v) :=
  cal_of (fun _ => lift .no) W.d__law_draw sc__law_draw rfl (.inl rfl) (fun f' cdv A outer s H G J E a hr hgd => by
    obtain ⟨a1, d2, ⟨⟩⟩ := a; exact cs_eq (cs_setO (i := 2) (fun a3 => (cs_ifT (fun _ => (cs_set (i := 4) (fun d4 => (cs_setItO (cs_ifJ (out1 := fun t7 : Unit => [some (.obj a1), some (.val d2), some (.obj a3), none, some (.val d4)]) (fun t7 => (cs_ret (ce_op op_mod p2_mod (fun _ => (ce_name (i := 1) (d := d2))) (ce_to PyData.int (ce_ty call_int1 pc_int W.b_int (by first | exact PySem.boot_int | exact PyProof.Rows.boot_int | exact L2.boot_int | decide +kernel) (cd_cons (fun _ => cd_nil) (ce_name (i := 4) (d := d4)))))))) (fun k8 => (cs_expr (cs_nil (a := ()) (show LeE [some (.obj a1), some (.val d2), some (.obj a3), none, some (.val d4)] [some (.obj a1), some (.val d2), some (.obj a3), none, some (.val d4)] from (le_same (le_same (le_same (le_none (le_same le_nil))))))) (ce_pop0O (ce_obj (i := 2) (a := a3))))) (fun k8 => (cs_nil (a := ()) (show LeE [some (.obj a1), some (.val d2), some (.obj a3), none, some (.val d4)] [some (.obj a1), some (.val d2), some (.obj a3), none, some (.val d4)] from (le_same (le_same (le_same (le_none (le_same le_nil)))))))) (fun k8 => (ct_cmp op_lt (p2_cmpI _) (fun _ => (ce_name (i := 1) (d := d2))) (ce_name (i := 4) (d := d4))))) (fun _ _ => ce_int) (fun _ => (ce_obj (i := 2) (a := a3))) (ce_op op_fdiv p2_fdiv (fun _ => (ce_name (i := 1) (d := d2))) (ce_name (i := 4) (d := d4))))) (ce_ixO (Room.u1 hr) (fun _ => ce_int) (ce_obj (i := 2) (a := a3))) sc__law_draw.nd)) (cs_fldSet (Room.u1 hr) (cs_set (i := 3) (fun d15 => (cs_set (i := 3) (fun d22 => (cs_set (i := 3) (fun d30 => (cs_ret (ce_op op_mod p2_mod (fun _ => (ce_name (i := 1) (d := d2))) (ce_to PyData.int (ce_ty call_int1 pc_int W.b_int (by first | exact PySem.boot_int | exact PyProof.Rows.boot_int | exact L2.boot_int | decide +kernel) (cd_cons (fun _ => cd_nil) (ce_op op_fdiv p2_fdiv (fun _ => ce_int) (ce_name (i := 3) (d := d30))))))))) (ce_op op_mod p2_mod (fun _ => ce_int) (ce_to PyData.int (ce_ty call_int1 pc_int W.b_int (by first | exact PySem.boot_int | exact PyProof.Rows.boot_int | exact L2.boot_int | decide +kernel) (cd_cons (fun _ => cd_nil) (ce_op op_addA p2_add (fun _ => (ce_fldD (Room.u1 hr) (ce_obj (i := 0) (a := a1)))) (ce_op op_mulA p2_mul (fun _ => (ce_name (i := 3) (d := d22))) (ce_name (i := 3) (d := d22)))))))) sc__law_draw.nd)) (ce_op op_mod p2_mod (fun _ => ce_int) (ce_to PyData.int (ce_ty call_int1 pc_int W.b_int (by first | exact PySem.boot_int | exact PyProof.Rows.boot_int | exact L2.boot_int | decide +kernel) (cd_cons (fun _ => cd_nil) (ce_op op_addA p2_add (fun _ => ce_int) (ce_op op_addA p2_add (fun _ => (ce_op op_mulA p2_mul (fun _ => (ce_fldD (Room.u1 hr) (ce_obj (i := 0) (a := a1)))) ce_int)) (ce_op op_mulA p2_mul (fun _ => (ce_name (i := 3) (d := d15))) (ce_name (i := 3) (d := d15))))))))) sc__law_draw.nd)) (ce_op op_mod p2_mod (fun _ => ce_int) (ce_to PyData.int (ce_ty call_int1 pc_int W.b_int (by first | exact PySem.boot_int | exact PyProof.Rows.boot_int | exact L2.boot_int | decide +kernel) (cd_cons (fun _ => cd_nil) (ce_op op_addA p2_add (fun _ => (ce_op op_mulA p2_mul (fun _ => (ce_fldD (Room.u1 hr) (ce_obj (i := 0) (a := a1)))) ce_int)) (ce_fldD (Room.u1 hr) (ce_obj (i := 0) (a := a1)))))))) sc__law_draw.nd) (fun _ => (ce_obj (i := 0) (a := a1))) (ce_op op_addA p2_add (fun _ => ce_int) (ce_fldD (Room.u1 hr) (ce_obj (i := 0) (a := a1))))) (ct_neNil (Room.u64 hr) (ce_obj (i := 2) (a := a3))))) (ce_fldO (Room.u1 hr) (ce_obj (i := 0) (a := a1))) sc__law_draw.nd) rfl)
abbrev s__law_mixed : Stmt := topS 24
theorem sc__law_mixed : FnScope ["bag", "items", "left", "found"] ["bag", "items"] (defScope s__law_mixed) := ⟨rfl, rfl, rfl, by decide +kernel, rfl, by decide +kernel, by decide +kernel⟩
def m__law_mixed : Ar [false, true] → M GH (List D) := fun (a1, d2, ()) =>
  bnd (need (itemsF [d2])) fun l4 => (fun l3 => (fun l5 => bnd (whileL (δ := List D) (τ := List D × List D) 1000 (l3, l5) fun t6 => bnd (need (neF (.list t6.1) (.list []))) fun b12 => (if b12 = true then bnd (need (lenF [(.list t6.1)])) fun i11 => bnd (nox (callM [false, true] (m__law_draw) [.o a1, .v (PyData.int i11)])) fun d10 => bnd (need (flO d10)) fun _ => bnd (need (popAtF t6.1 d10)) fun r8p => bnd (need (appF t6.2 r8p.1)) fun l9 => (fun r8 => pur (.go (r8, l9))) r8p.2 else pur (.out t6))) (lpK (fun t7 => pur t7.2) fun r13 => pur r13)) []) l4
theorem cal__law_mixed (W : Wd w K mg) (sc : Addr) (ns : List Int) : Cal prog w K mg base "_law_mixed" 2 ["bag", "items"] (spC K (SR K sc ns) [false, true] (m__law_mixed) lv) :=
  cal_of (fun _ => lift .no) W.d__law_mixed sc__law_mixed rfl (.inl rfl) (fun f' cdv A outer s H G J E a hr hgd => by
    obtain ⟨a1, d2, ⟨⟩⟩ := a; exact cs_eq (cs_par (i := 2) (j := 3) (r1 := lv) (r2 := lv) (fun l3 l5 => (cs_while (outl := fun t6 : List D × List D => [some (.obj a1), some (.val d2), some (.own (.lst t6.1)), some (.own (.lst t6.2))]) 1000 ((l3, l5) : List D × List D) (fun t7 => (cs_retL (i := 3) (xs := t7.2) rfl)) (fun t6 => (cs_appPop 3 2 (xs := t6.2) (ys := t6.1) rfl rfl (by decide) (fun r8 l9 => (cs_nil (a := (r8, l9)) (show LeE [some (.obj a1), some (.val d2), some (.own (.lst r8)), some (.own (.lst l9))] [some (.obj a1), some (.val d2), some (.own (.lst r8)), some (.own (.lst l9))] from (le_same (le_same (le_same (le_same le_nil))))))) (ce_borrow 2 rfl (ce_callM (cal__law_draw W sc ns) (hr.mono (by decide)) hgd (ca_cons (rk := R.o) (fun _ => (ca_cons (rk := R.v) (fun _ => ca_nil) (ce_to PyData.int (ce_blt call_len pc_len W.b_len (by first | exact PySem.boot_len | exact PyProof.Rows.boot_len | exact L2.boot_len | decide +kernel) (cd_cons (fun _ => cd_nil) (ce_name (i := 2) (d := (.list t6.1)))))))) (ce_obj (i := 0) (a := a1))))))) (fun t6 => (ct_borrow 2 rfl (ct_cmp (op_neA (Room.u64 hr)) p2_ne (fun _ => (ce_show (ce_lst cd_nil))) (ce_name (i := 2) (d := (.list t6.1)))))) (show LeE [some (.obj a1), some (.val d2), some (.own (.lst l3)), some (.own (.lst l5))] [some (.obj a1), some (.val d2), some (.own (.lst l3)), some (.own (.lst l5))] from (le_same (le_same (le_same (le_same le_nil))))))) (fun _ => (ce_lst cd_nil)) (ce_tyL call_list_of pcl_list W.b_list (by first | exact PySem.boot_list | exact PyProof.Rows.boot_list | exact L2.boot_list | decide +kernel) (cd_cons (fun _ => cd_nil) (ce_name (i := 1) (d := d2)))) sc__law_mixed.nd) rfl)
abbrev s__law_pick : Stmt := topS 23
theorem sc__law_pick : FnScope ["bag", "items"] ["bag", "items"] (defScope s__law_pick) := ⟨rfl, rfl, rfl, by decide +kernel, rfl, by decide +kernel, by decide +kernel⟩
def m__law_pick : Ar [false, true] → M GH (D) := fun (a1, d2, ()) =>
  bnd (need (lenF [d2])) fun i4 => bnd (nox (callM [false, true] (m__law_draw) [.o a1, .v (PyData.int i4)])) fun d3 => bnd (need (ixF d2 d3)) fun d5 => pur d5
theorem cal__law_pick (W : Wd w K mg) (sc : Addr) (ns : List Int) : Cal prog w K mg base "_law_pick" 2 ["bag", "items"] (spC K (SR K sc ns) [false, true] (m__law_pick) R.v) :=
  cal_of (fun _ => lift .no) W.d__law_pick sc__law_pick rfl (.inl rfl) (fun f' cdv A outer s H G J E a hr hgd => by
    obtain ⟨a1, d2, ⟨⟩⟩ := a; exact cs_eq (cs_ret (ce_ix (Room.u1 hr) (fun _ => (ce_callM (cal__law_draw W sc ns) (hr.mono (by decide)) hgd (ca_cons (rk := R.o) (fun _ => (ca_cons (rk := R.v) (fun _ => ca_nil) (ce_to PyData.int (ce_blt call_len pc_len W.b_len (by first | exact PySem.boot_len | exact PyProof.Rows.boot_len | exact L2.boot_len | decide +kernel) (cd_cons (fun _ => cd_nil) (ce_name (i := 1) (d := d2))))))) (ce_obj (i := 0) (a := a1))))) (ce_name (i := 1) (d := d2)))) rfl)
abbrev s__law_sort : Stmt := topS 26
theorem sc__law_sort : FnScope ["bag"] ["bag"] (defScope s__law_sort) := ⟨rfl, rfl, rfl, by decide +kernel, rfl, by decide +kernel, by decide +kernel⟩
def m__law_sort : Ar [false] → M GH (D) := fun (a1, ()) =>
  bnd (nox (callM [false, true] (m__law_pick) [.o a1, .v (.list [(.str "like"), (.str "any")])])) fun d2 => bnd (nox (callM [false, true] (m__law_pick) [.o a1, .v (.list [(.str "staying"), (.str "leaving")])])) fun d3 => pur (.tuple [d2, d3])
theorem cal__law_sort (W : Wd w K mg) (sc : Addr) (ns : List Int) : Cal prog w K mg base "_law_sort" 3 ["bag"] (spC K (SR K sc ns) [false] (m__law_sort) R.v) :=
  cal_of (fun _ => lift .no) W.d__law_sort sc__law_sort rfl (.inl rfl) (fun f' cdv A outer s H G J E a hr hgd => by
    obtain ⟨a1, ⟨⟩⟩ := a; exact cs_eq (cs_ret (ce_tup (cd_cons (fun _ => (cd_cons (fun _ => cd_nil) (ce_callM (cal__law_pick W sc ns) (hr.mono (by decide)) hgd (ca_cons (rk := R.o) (fun _ => (ca_cons (rk := R.v) (fun _ => ca_nil) (ce_show (ce_lst (cd_cons (fun _ => (cd_cons (fun _ => cd_nil) ce_str)) ce_str))))) (ce_obj (i := 0) (a := a1)))))) (ce_callM (cal__law_pick W sc ns) (hr.mono (by decide)) hgd (ca_cons (rk := R.o) (fun _ => (ca_cons (rk := R.v) (fun _ => ca_nil) (ce_show (ce_lst (cd_cons (fun _ => (cd_cons (fun _ => cd_nil) ce_str)) ce_str))))) (ce_obj (i := 0) (a := a1))))))) rfl)
abbrev s__law_with : Stmt := topS 28
theorem sc__law_with : FnScope ["book", "spot", "word"] ["book", "spot", "word"] (defScope s__law_with) := ⟨rfl, rfl, rfl, by decide +kernel, rfl, by decide +kernel, by decide +kernel⟩
def m__law_with : Ar [true, true, true] → P (D) := fun (d1, d2, d3, ()) =>
  bnd (need (asI d2)) fun i4 => bnd (need (slF d1 none (some i4))) fun d5 => bnd (need (addF d5 (.tuple [d3]))) fun d6 => bnd (need (addF d2 (.int 1))) fun d8 => bnd (need (asI d8)) fun i7 => bnd (need (slF d1 (some i7) none)) fun d9 => bnd (need (addF d6 d9)) fun d10 => pur d10
theorem cal__law_with (W : Wd w K mg) : Cal prog w K mg base "_law_with" 1 ["book", "spot", "word"] (spC K (S0) [true, true, true] (m__law_with) R.v) :=
  cal_of (fun _ => lift .no) W.d__law_with sc__law_with rfl (.inl rfl) (fun f' cdv A outer s H G J E a hr hgd => by
    obtain ⟨d1, d2, d3, ⟨⟩⟩ := a; exact cs_eq (cs_ret (ce_op op_addA p2_add (fun _ => (ce_slice (fun _ _ => co_none) (fun _ => (co_some (ce_op op_addA p2_add (fun _ => ce_int) (ce_name (i := 1) (d := d2))))) (ce_name (i := 0) (d := d1)))) (ce_op op_addA p2_add (fun _ => (ce_tup (cd_cons (fun _ => cd_nil) (ce_name (i := 2) (d := d3))))) (ce_slice (fun _ _ => (co_some (ce_name (i := 1) (d := d2)))) (fun _ => co_none) (ce_name (i := 0) (d := d1)))))) rfl)
abbrev s__law_missing : Stmt := topS 27
theorem sc__law_missing : FnScope ["book", "sort", "told", "many", "woken", "pass_on", "quits", "order", "is_any", "is_leaving", "is_trying", "word", "is_so"] ["book", "sort"] (defScope s__law_missing) := ⟨rfl, rfl, rfl, by decide +kernel, rfl, by decide +kernel, by decide +kernel⟩
def m__law_missing : Ar [true, true] → P (D) := fun (d1, d2, ()) =>
  bnd (need (ixF d1 (.int 3))) fun d4 => bnd (need (ixF d1 (.int 4))) fun d5 => bnd (need (ixF d1 (.int 6))) fun d6 => bnd (need (ixF d1 (.int 7))) fun d7 => bnd (need (ixF d1 (.int 9))) fun d8 => bnd (need ((unT (unC some (unC some (unC some (unC some (un1 some)))))) (.tuple [d4, d5, d6, d7, d8]))) fun a3 => bnd (need (ixF d2 (.int 0))) fun d10 => bnd (need (eqF d10 (.str "any"))) fun b11 => (fun d9 => bnd (need (ixF d2 (.int 1))) fun d13 => bnd (need (eqF d13 (.str "leaving"))) fun b14 => (fun d12 => bnd (need (eqF a3.2.1 (.str "tries"))) fun b16 => (fun d15 => bnd (need (ixF d1 (.int 0))) fun d18 => bnd (need (eqF d18 (.str "behind"))) fun b19 => bnd (need (ixF d1 (.int 1))) fun d20 => bnd (need (eqF d20 (.str "lost"))) fun b21 => bnd (need (ixF d1 (.int 2))) fun d22 => bnd (need (eqF d22 (.str "last"))) fun b23 => (fun l17 => bnd (need (eqF a3.2.1 (.str "takes"))) fun b25 => bnd (need (ixF d1 (.int 8))) fun d26 => bnd (need (eqF d26 (.str "behind"))) fun b27 => bnd (need (addL (.list l17) (.list [(.tuple [(.str "takes"), (.bool b25)]), (.tuple [(.str "comers"), (.bool b27)])]))) fun l28 => bnd (need (flL l28)) fun _ => (fun l24 => bnd (bnd (need (eqF a3.1 (.str "one"))) fun b31 => (if b31 = true then bnd (need (eqF a3.2.2.1 (.str "never"))) fun b30 => pur b30 else pur false)) fun b32 => bnd (need (appF l24 (.tuple [(.str "one"), (.bool b32)]))) fun l29 => bnd (bnd (need (asB d12)) fun b38 => (if b38 = true then bnd (need (eqF a3.2.2.2.1 (.str "drops"))) fun b37 => (if b37 = true then bnd (bnd (need (eqF a3.1 (.str "all"))) fun b35 => (if b35 = true then bnd (need (asB d15)) fun b34 => pur b34 else pur false)) fun b36 => pur (!b36) else pur false) else pur false)) fun b39 => bnd (need (appF l29 (.tuple [(.str "drops"), (.bool b39)]))) fun l33 => bnd (bnd (need (asB d9)) fun b43 => (if b43 = true then bnd (need (asB d15)) fun b42 => (if b42 = true then bnd (need (eqF a3.2.2.1 (.str "always"))) fun b41 => pur b41 else pur false) else pur false)) fun b44 => bnd (need (appF l33 (.tuple [(.str "always"), (.bool b44)]))) fun l40 => bnd (bnd (need (asB d9)) fun b48 => (if b48 = true then bnd (need (asB d15)) fun b47 => (if b47 = true then bnd (need (neF a3.1 (.str "all"))) fun b46 => pur b46 else pur false) else pur false)) fun b49 => bnd (need (appF l40 (.tuple [(.str "many"), (.bool b49)]))) fun l45 => bnd (bnd (need (asB d9)) fun b53 => (if b53 = true then bnd (need (eqF a3.2.1 (.str "given"))) fun b52 => (if b52 = true then bnd (need (eqF a3.2.2.2.2 (.str "first"))) fun b51 => pur b51 else pur false) else pur false)) fun b54 => bnd (need (appF l45 (.tuple [(.str "first"), (.bool b54)]))) fun l50 => bnd (bnd (need (asB d9)) fun b59 => (if b59 = true then bnd (need (asB d12)) fun b58 => (if b58 = true then bnd (need (eqF a3.2.1 (.str "given"))) fun b57 => (if b57 = true then bnd (need (eqF a3.2.2.1 (.str "never"))) fun b56 => pur b56 else pur false) else pur false) else pur false)) fun b60 => bnd (need (appF l50 (.tuple [(.str "never"), (.bool b60)]))) fun l55 => bnd (need (items (.list l55))) fun l65 => bnd (nox (compL l65 [] fun d62 => bnd (need ((unT (unC some (un1 some))) d62)) fun a61 => bnd (need (asB a61.2)) fun b63 => (if b63 = true then pur (some a61.1) else pur none))) fun l64 => bnd (need (itemsF [(.list l64)])) fun l66 => pur (PyData.tuple l66)) l28) [(.tuple [(.str "note"), (.bool b19)]), (.tuple [(.str "call"), (.bool b21)]), (.tuple [(.str "put"), (.bool b23)])]) (.bool b16)) (.bool b14)) (.bool b11)
theorem cal__law_missing (W : Wd w K mg) : Cal prog w K mg base "_law_missing" 1 ["book", "sort"] (spC K (S0) [true, true] (m__law_missing) R.v) :=
  cal_of (fun _ => lift .no) W.d__law_missing sc__law_missing rfl (.inl rfl) (fun f' cdv A outer s H G J E a hr hgd => by
    obtain ⟨d1, d2, ⟨⟩⟩ := a; exact cs_eq (cs_asg (outT := fun a3 : (D × D × D × D × D) => [some (.val d1), some (.val d2), none, some (.val a3.1), some (.val a3.2.1), some (.val a3.2.2.1), some (.val a3.2.2.2.1), some (.val a3.2.2.2.2), none, none, none, none, none]) (fun a3 => (cs_par3 (i := 8) (j := 9) (l := 10) (r1 := R.v) (r2 := R.v) (r3 := R.v) (fun d9 d12 d15 => (cs_setL (i := 2) (cc := fun l => .lst l) (fun l17 => (cs_setL (i := 2) (cc := fun l => .lst l) (fun l24 => (cs_append 2 (xs := l24) rfl (fun l29 => (cs_append 2 (xs := l29) rfl (fun l33 => (cs_append 2 (xs := l33) rfl (fun l40 => (cs_append 2 (xs := l40) rfl (fun l45 => (cs_append 2 (xs := l45) rfl (fun l50 => (cs_append 2 (xs := l50) rfl (fun l55 => (cs_show 2 (c := .lst l55) rfl (cs_ret (ce_to PyData.tuple (ce_ty call_tuple_of pc_tuple W.b_tuple (by first | exact PySem.boot_tuple | exact PyProof.Rows.boot_tuple | exact L2.boot_tuple | decide +kernel) (cd_cons (fun _ => cd_nil) (ce_show (ce_comp (un := (unT (unC some (un1 some)))) (outT := fun a61 : (D × D) => [some (.val d1), some (.val d2), some (.val (.list l55)), some (.val a3.1), some (.val a3.2.1), some (.val a3.2.2.1), some (.val a3.2.2.2.1), some (.val a3.2.2.2.2), some (.val d9), some (.val d12), some (.val d15), some (.val a61.1), some (.val a61.2)]) (sl := [11, 12]) (own := [("word", 11), ("is_so", 12)]) (fun _ _ _ _ _ a61 => (ce_name (i := 11) (d := a61.1))) (fun _ _ _ _ _ a61 => (cts_one (ct_val (ce_asB (ce_name (i := 12) (d := a61.2)))))) (fun _ _ _ _ _ => (cg_tup (cgs_cons (cg_name 11 (pg_name sc__law_missing.nd rfl (by first | exact .inl rfl | exact .inr rfl))) fun _ => (cgs_one (cg_name 12 (pg_name sc__law_missing.nd rfl (by first | exact .inl rfl | exact .inr rfl))))))) (ci_seq (ce_name (i := 2) (d := (.list l55)))) sc__law_missing.nd (by exact ⟨rfl, of_decide_eq_true (by kernel_rfl), of_decide_eq_true (by kernel_rfl), of_decide_eq_true (by kernel_rfl), of_decide_eq_true (by kernel_rfl)⟩))))))))) (ce_tup (cd_cons (fun _ => (cd_cons (fun _ => cd_nil) (ce_bd (ce_bnd (ce_and (ce_and (ce_and (ce_one (ce_cmp (op_eqA (Room.u64 hr)) p2_eq (fun _ => ce_str) (ce_name (i := 5) (d := a3.2.2.1)))) (ce_cmp (op_eqA (Room.u64 hr)) p2_eq (fun _ => ce_str) (ce_name (i := 4) (d := a3.2.1)))) (ce_asB (ce_name (i := 9) (d := d12)))) (ce_asB (ce_name (i := 8) (d := d9)))))))) ce_str)))) (ce_tup (cd_cons (fun _ => (cd_cons (fun _ => cd_nil) (ce_bd (ce_bnd (ce_and (ce_and (ce_one (ce_cmp (op_eqA (Room.u64 hr)) p2_eq (fun _ => ce_str) (ce_name (i := 7) (d := a3.2.2.2.2)))) (ce_cmp (op_eqA (Room.u64 hr)) p2_eq (fun _ => ce_str) (ce_name (i := 4) (d := a3.2.1)))) (ce_asB (ce_name (i := 8) (d := d9)))))))) ce_str)))) (ce_tup (cd_cons (fun _ => (cd_cons (fun _ => cd_nil) (ce_bd (ce_bnd (ce_and (ce_and (ce_one (ce_cmp (op_neA (Room.u64 hr)) p2_ne (fun _ => ce_str) (ce_name (i := 3) (d := a3.1)))) (ce_asB (ce_name (i := 10) (d := d15)))) (ce_asB (ce_name (i := 8) (d := d9)))))))) ce_str)))) (ce_tup (cd_cons (fun _ => (cd_cons (fun _ => cd_nil) (ce_bd (ce_bnd (ce_and (ce_and (ce_one (ce_cmp (op_eqA (Room.u64 hr)) p2_eq (fun _ => ce_str) (ce_name (i := 5) (d := a3.2.2.1)))) (ce_asB (ce_name (i := 10) (d := d15)))) (ce_asB (ce_name (i := 8) (d := d9)))))))) ce_str)))) (ce_tup (cd_cons (fun _ => (cd_cons (fun _ => cd_nil) (ce_bd (ce_bnd (ce_and (ce_and (ce_one (ce_not (ce_bnd (ce_and (ce_one (ce_asB (ce_name (i := 10) (d := d15)))) (ce_cmp (op_eqA (Room.u64 hr)) p2_eq (fun _ => ce_str) (ce_name (i := 3) (d := a3.1))))))) (ce_cmp (op_eqA (Room.u64 hr)) p2_eq (fun _ => ce_str) (ce_name (i := 6) (d := a3.2.2.2.1)))) (ce_asB (ce_name (i := 9) (d := d12)))))))) ce_str)))) (ce_tup (cd_cons (fun _ => (cd_cons (fun _ => cd_nil) (ce_bd (ce_bnd (ce_and (ce_one (ce_cmp (op_eqA (Room.u64 hr)) p2_eq (fun _ => ce_str) (ce_name (i := 5) (d := a3.2.2.1)))) (ce_cmp (op_eqA (Room.u64 hr)) p2_eq (fun _ => ce_str) (ce_name (i := 3) (d := a3.1)))))))) ce_str)))) (ce_borrowL 2 rfl (ce_opL op_addA p2_addL (fun _ => (ce_show (ce_lst (cd_cons (fun _ => (cd_cons (fun _ => cd_nil) (ce_tup (cd_cons (fun _ => (cd_cons (fun _ => cd_nil) (ce_bd (ce_cmp (op_eqA (Room.u64 hr)) p2_eq (fun _ => ce_str) (ce_ix (Room.u1 hr) (fun _ => ce_int) (ce_name (i := 0) (d := d1))))))) ce_str)))) (ce_tup (cd_cons (fun _ => (cd_cons (fun _ => cd_nil) (ce_bd (ce_cmp (op_eqA (Room.u64 hr)) p2_eq (fun _ => ce_str) (ce_name (i := 4) (d := a3.2.1)))))) ce_str)))))) (ce_name (i := 2) (d := (.list l17))))) sc__law_missing.nd)) (ce_lst (cd_cons (fun _ => (cd_cons (fun _ => (cd_cons (fun _ => cd_nil) (ce_tup (cd_cons (fun _ => (cd_cons (fun _ => cd_nil) (ce_bd (ce_cmp (op_eqA (Room.u64 hr)) p2_eq (fun _ => ce_str) (ce_ix (Room.u1 hr) (fun _ => ce_int) (ce_name (i := 0) (d := d1))))))) ce_str)))) (ce_tup (cd_cons (fun _ => (cd_cons (fun _ => cd_nil) (ce_bd (ce_cmp (op_eqA (Room.u64 hr)) p2_eq (fun _ => ce_str) (ce_ix (Room.u1 hr) (fun _ => ce_int) (ce_name (i := 0) (d := d1))))))) ce_str)))) (ce_tup (cd_cons (fun _ => (cd_cons (fun _ => cd_nil) (ce_bd (ce_cmp (op_eqA (Room.u64 hr)) p2_eq (fun _ => ce_str) (ce_ix (Room.u1 hr) (fun _ => ce_int) (ce_name (i := 0) (d := d1))))))) ce_str)))) sc__law_missing.nd)) (fun _ _ => (ce_bd (ce_cmp (op_eqA (Room.u64 hr)) p2_eq (fun _ => ce_str) (ce_name (i := 4) (d := a3.2.1))))) (fun _ => (ce_bd (ce_cmp (op_eqA (Room.u64 hr)) p2_eq (fun _ => ce_str) (ce_ix (Room.u1 hr) (fun _ => ce_int) (ce_name (i := 1) (d := d2)))))) (ce_bd (ce_cmp (op_eqA (Room.u64 hr)) p2_eq (fun _ => ce_str) (ce_ix (Room.u1 hr) (fun _ => ce_int) (ce_name (i := 1) (d := d2))))) sc__law_missing.nd)) (cg_tup (cgs_cons (cg_name 3 (pg_name sc__law_missing.nd rfl (by first | exact .inl rfl | exact .inr rfl))) fun _ => (cgs_cons (cg_name 4 (pg_name sc__law_missing.nd rfl (by first | exact .inl rfl | exact .inr rfl))) fun _ => (cgs_cons (cg_name 5 (pg_name sc__law_missing.nd rfl (by first | exact .inl rfl | exact .inr rfl))) fun _ => (cgs_cons (cg_name 6 (pg_name sc__law_missing.nd rfl (by first | exact .inl rfl | exact .inr rfl))) fun _ => (cgs_one (cg_name 7 (pg_name sc__law_missing.nd rfl (by first | exact .inl rfl | exact .inr rfl))))))))) (ce_tup (cd_cons (fun _ => (cd_cons (fun _ => (cd_cons (fun _ => (cd_cons (fun _ => (cd_cons (fun _ => cd_nil) (ce_ix (Room.u1 hr) (fun _ => ce_int) (ce_name (i := 0) (d := d1))))) (ce_ix (Room.u1 hr) (fun _ => ce_int) (ce_name (i := 0) (d := d1))))) (ce_ix (Room.u1 hr) (fun _ => ce_int) (ce_name (i := 0) (d := d1))))) (ce_ix (Room.u1 hr) (fun _ => ce_int) (ce_name (i := 0) (d := d1))))) (ce_ix (Room.u1 hr) (fun _ => ce_int) (ce_name (i := 0) (d := d1)))))) rfl)
abbrev s__law_right : Stmt := topS 29
theorem sc__law_right : FnScope ["bag", "sort", "menu", "many", "woken", "pass_on", "quits", "order", "book"] ["bag", "sort"] (defScope s__law_right) := ⟨rfl, rfl, rfl, by decide +kernel, rfl, by decide +kernel, by decide +kernel⟩
def m__law_right : Ar [false, true] → M GH (D) := fun (a1, d2, ()) =>
  (fun d3 => bnd (need (items (.tuple [(.str "one"), (.str "each"), (.str "all")]))) fun l38 => bnd (forP (τ := D) l38 d3 fun d7 t4 => bnd (need (some d7)) fun a6 => bnd (need (items (.tuple [(.str "tries"), (.str "given")]))) fun l34 => bnd (forP (τ := D) l34 t4 fun d11 t8 => bnd (need (some d11)) fun a10 => bnd (need (items (.tuple [(.str "never"), (.str "left"), (.str "always")]))) fun l33 => bnd (forP (τ := D) l33 t8 fun d15 t12 => bnd (need (some d15)) fun a14 => bnd (need (items (.tuple [(.str "passes"), (.str "drops")]))) fun l32 => bnd (forP (τ := D) l32 t12 fun d19 t16 => bnd (need (some d19)) fun a18 => bnd (need (items (.tuple [(.str "first"), (.str "any")]))) fun l31 => bnd (forP (τ := D) l31 t16 fun d23 t20 => bnd (need (some d23)) fun a22 => (fun d24 => bnd (lift (callM [true, true] (m__law_missing) [.v d24, .v d2])) fun d26 => bnd (need (eqF d26 (.tuple []))) fun b27 => bnd (need (intF [(.bool b27)])) fun i28 => bnd (need (mulF (.list [d24]) (PyData.int i28))) fun d29 => bnd (need (addF t20 d29)) fun d30 => (fun d25 => pur d25) d30) (.tuple [(.str "ahead"), (.str "kept"), (.str "first"), a6, a10, (.str "back"), a14, a18, (.str "free"), a22])) fun t21 => pur t21) fun t17 => pur t17) fun t13 => pur t13) fun t9 => pur t9) fun t5 => bnd (nox (callM [false, true] (m__law_pick) [.o a1, .v t5])) fun d36 => bnd (nox (callM [false, true] (m__law_pick) [.o a1, .v (.list [(.str "back"), (.str "front")])])) fun d37 => bnd (lift (callM [true, true, true] (m__law_with) [.v d36, .v (.int 5), .v d37])) fun d35 => pur d35) (.list [])
theorem cal__law_right (W : Wd w K mg) (sc : Addr) (ns : List Int) : Cal prog w K mg base "_law_right" 3 ["bag", "sort"] (spC K (SR K sc ns) [false, true] (m__law_right) R.v) :=
  cal_of (fun _ => lift .no) W.d__law_right sc__law_right rfl (.inl rfl) (fun f' cdv A outer s H G J E a hr hgd => by
    obtain ⟨a1, d2, ⟨⟩⟩ := a; exact cs_eq (cs_set (i := 2) (fun d3 => (cs_forP (outl := fun t4 : D => [some (.obj a1), some (.val d2), some (.val t4), none, none, none, none, none, none]) (un := some) (outT := fun (t4 : D) (a6 : D) => [some (.obj a1), some (.val d2), some (.val t4), some (.val a6), none, none, none, none, none]) (sl := [3]) (d3 : D) (fun t5 => (cs_ret (ce_callP (cal__law_with W) (hr.mono (by decide)) hgd (ca_cons (rk := R.v) (fun _ => (ca_cons (rk := R.v) (fun _ => (ca_cons (rk := R.v) (fun _ => ca_nil) (ce_callM (cal__law_pick W sc ns) (hr.mono (by decide)) hgd (ca_cons (rk := R.o) (fun _ => (ca_cons (rk := R.v) (fun _ => ca_nil) (ce_show (ce_lst (cd_cons (fun _ => (cd_cons (fun _ => cd_nil) ce_str)) ce_str))))) (ce_obj (i := 0) (a := a1)))))) ce_int)) (ce_callM (cal__law_pick W sc ns) (hr.mono (by decide)) hgd (ca_cons (rk := R.o) (fun _ => (ca_cons (rk := R.v) (fun _ => ca_nil) (ce_name (i := 2) (d := t5)))) (ce_obj (i := 0) (a := a1)))))))) (fun a6 t4 => (cs_forP (outl := fun t8 : D => [some (.obj a1), some (.val d2), some (.val t8), some (.val a6), none, none, none, none, none]) (un := some) (outT := fun (t8 : D) (a10 : D) => [some (.obj a1), some (.val d2), some (.val t8), some (.val a6), some (.val a10), none, none, none, none]) (sl := [4]) (t4 : D) (fun t9 => (cs_nil (a := t9) (show LeE [some (.obj a1), some (.val d2), some (.val t9), none, none, none, none, none, none] [some (.obj a1), some (.val d2), some (.val t9), some (.val a6), none, none, none, none, none] from (le_same (le_same (le_same (le_none (le_none (le_none (le_none (le_none (le_none le_nil)))))))))))) (fun a10 t8 => (cs_forP (outl := fun t12 : D => [some (.obj a1), some (.val d2), some (.val t12), some (.val a6), some (.val a10), none, none, none, none]) (un := some) (outT := fun (t12 : D) (a14 : D) => [some (.obj a1), some (.val d2), some (.val t12), some (.val a6), some (.val a10), some (.val a14), none, none, none]) (sl := [5]) (t8 : D) (fun t13 => (cs_nil (a := t13) (show LeE [some (.obj a1), some (.val d2), some (.val t13), some (.val a6), none, none, none, none, none] [some (.obj a1), some (.val d2), some (.val t13), some (.val a6), some (.val a10), none, none, none, none] from (le_same (le_same (le_same (le_same (le_none (le_none (le_none (le_none (le_none le_nil)))))))))))) (fun a14 t12 => (cs_forP (outl := fun t16 : D => [some (.obj a1), some (.val d2), some (.val t16), some (.val a6), some (.val a10), some (.val a14), none, none, none]) (un := some) (outT := fun (t16 : D) (a18 : D) => [some (.obj a1), some (.val d2), some (.val t16), some (.val a6), some (.val a10), some (.val a14), some (.val a18), none, none]) (sl := [6]) (t12 : D) (fun t17 => (cs_nil (a := t17) (show LeE [some (.obj a1), some (.val d2), some (.val t17), some (.val a6), some (.val a10), none, none, none, none] [some (.obj a1), some (.val d2), some (.val t17), some (.val a6), some (.val a10), some (.val a14), none, none, none] from (le_same (le_same (le_same (le_same (le_same (le_none (le_none (le_none (le_none le_nil)))))))))))) (fun a18 t16 => (cs_forP (outl := fun t20 : D => [some (.obj a1), some (.val d2), some (.val t20), some (.val a6), some (.val a10), some (.val a14), some (.val a18), none, none]) (un := some) (outT := fun (t20 : D) (a22 : D) => [some (.obj a1), some (.val d2), some (.val t20), some (.val a6), some (.val a10), some (.val a14), some (.val a18), some (.val a22), none]) (sl := [7]) (t16 : D) (fun t21 => (cs_nil (a := t21) (show LeE [some (.obj a1), some (.val d2), some (.val t21), some (.val a6), some (.val a10), some (.val a14), none, none, none] [some (.obj a1), some (.val d2), some (.val t21), some (.val a6), some (.val a10), some (.val a14), some (.val a18), none, none] from (le_same (le_same (le_same (le_same (le_same (le_same (le_none (le_none (le_none le_nil)))))))))))) (fun a22 t20 => (cs_set (i := 8) (fun d24 => (cs_set (i := 2) (fun d25 => (cs_nil (a := d25) (show LeE [some (.obj a1), some (.val d2), some (.val d25), some (.val a6), some (.val a10), some (.val a14), some (.val a18), none, none] [some (.obj a1), some (.val d2), some (.val d25), some (.val a6), some (.val a10), some (.val a14), some (.val a18), some (.val a22), some (.val d24)] from (le_same (le_same (le_same (le_same (le_same (le_same (le_same (le_none (le_none le_nil)))))))))))) (ce_op op_addA p2_add (fun _ => (ce_op op_mulA p2_mul (fun _ => (ce_to PyData.int (ce_ty call_int1 pc_int W.b_int (by first | exact PySem.boot_int | exact PyProof.Rows.boot_int | exact L2.boot_int | decide +kernel) (cd_cons (fun _ => cd_nil) (ce_bd (ce_cmp (op_eqA (Room.u64 hr)) p2_eq (fun _ => (ce_tup cd_nil)) (ce_callP (cal__law_missing W) (hr.mono (by decide)) hgd (ca_cons (rk := R.v) (fun _ => (ca_cons (rk := R.v) (fun _ => ca_nil) (ce_name (i := 1) (d := d2)))) (ce_name (i := 8) (d := d24)))))))))) (ce_show (ce_lst (cd_cons (fun _ => cd_nil) (ce_name (i := 8) (d := d24))))))) (ce_name (i := 2) (d := t20))) sc__law_right.nd)) (ce_tup (cd_cons (fun _ => (cd_cons (fun _ => (cd_cons (fun _ => (cd_cons (fun _ => (cd_cons (fun _ => (cd_cons (fun _ => (cd_cons (fun _ => (cd_cons (fun _ => (cd_cons (fun _ => (cd_cons (fun _ => cd_nil) (ce_name (i := 7) (d := a22)))) ce_str)) (ce_name (i := 6) (d := a18)))) (ce_name (i := 5) (d := a14)))) ce_str)) (ce_name (i := 4) (d := a10)))) (ce_name (i := 3) (d := a6)))) ce_str)) ce_str)) ce_str)) sc__law_right.nd)) (fun t20 => (cg_name 7 (pg_name sc__law_right.nd rfl (by first | exact .inl rfl | exact .inr rfl)))) (ci_seq (ce_tup (cd_cons (fun _ => (cd_cons (fun _ => cd_nil) ce_str)) ce_str))) (show LeE [some (.obj a1), some (.val d2), some (.val t16), some (.val a6), some (.val a10), some (.val a14), some (.val a18), none, none] [some (.obj a1), some (.val d2), some (.val t16), some (.val a6), some (.val a10), some (.val a14), some (.val a18), none, none] from (le_same (le_same (le_same (le_same (le_same (le_same (le_same (le_none (le_none le_nil)))))))))))) (fun t16 => (cg_name 6 (pg_name sc__law_right.nd rfl (by first | exact .inl rfl | exact .inr rfl)))) (ci_seq (ce_tup (cd_cons (fun _ => (cd_cons (fun _ => cd_nil) ce_str)) ce_str))) (show LeE [some (.obj a1), some (.val d2), some (.val t12), some (.val a6), some (.val a10), some (.val a14), none, none, none] [some (.obj a1), some (.val d2), some (.val t12), some (.val a6), some (.val a10), some (.val a14), none, none, none] from (le_same (le_same (le_same (le_same (le_same (le_same (le_none (le_none (le_none le_nil)))))))))))) (fun t12 => (cg_name 5 (pg_name sc__law_right.nd rfl (by first | exact .inl rfl | exact .inr rfl)))) (ci_seq (ce_tup (cd_cons (fun _ => (cd_cons (fun _ => (cd_cons (fun _ => cd_nil) ce_str)) ce_str)) ce_str))) (show LeE [some (.obj a1), some (.val d2), some (.val t8), some (.val a6), some (.val a10), none, none, none, none] [some (.obj a1), some (.val d2), some (.val t8), some (.val a6), some (.val a10), none, none, none, none] from (le_same (le_same (le_same (le_same (le_same (le_none (le_none (le_none (le_none le_nil)))))))))))) (fun t8 => (cg_name 4 (pg_name sc__law_right.nd rfl (by first | exact .inl rfl | exact .inr rfl)))) (ci_seq (ce_tup (cd_cons (fun _ => (cd_cons (fun _ => cd_nil) ce_str)) ce_str))) (show LeE [some (.obj a1), some (.val d2), some (.val t4), some (.val a6), none, none, none, none, none] [some (.obj a1), some (.val d2), some (.val t4), some (.val a6), none, none, none, none, none] from (le_same (le_same (le_same (le_same (le_none (le_none (le_none (le_none (le_none le_nil)))))))))))) (fun t4 => (cg_name 3 (pg_name sc__law_right.nd rfl (by first | exact .inl rfl | exact .inr rfl)))) (ci_seq (ce_tup (cd_cons (fun _ => (cd_cons (fun _ => (cd_cons (fun _ => cd_nil) ce_str)) ce_str)) ce_str))) (show LeE [some (.obj a1), some (.val d2), some (.val d3), none, none, none, none, none, none] [some (.obj a1), some (.val d2), some (.val d3), none, none, none, none, none, none] from (le_same (le_same (le_same (le_none (le_none (le_none (le_none (le_none (le_none le_nil)))))))))))) (ce_show (ce_lst cd_nil)) sc__law_right.nd) rfl)
abbrev s__law_entries : Stmt := topS 25
theorem sc__law_entries : FnScope ["found"] [] (defScope s__law_entries) := ⟨rfl, rfl, rfl, by decide +kernel, rfl, by decide +kernel, by decide +kernel⟩
def m__law_entries : Ar [] → P (List D) := fun () =>
  (fun d1 => bnd (need (addL d1 (.list [(.tuple [(.str "tries"), (.str "takes"), (.str "given")]), (.tuple [(.str "back"), (.str "front")]), (.tuple [(.str "never"), (.str "left"), (.str "always")])]))) fun l3 => (fun d2 => bnd (need (addL d2 (.list [(.tuple [(.str "passes"), (.str "drops")]), (.tuple [(.str "free"), (.str "behind")]), (.tuple [(.str "first"), (.str "any")])]))) fun l4 => pur l4) (.list l3)) (.list [(.tuple [(.str "ahead"), (.str "behind")]), (.tuple [(.str "kept"), (.str "lost")]), (.tuple [(.str "first"), (.str "last")]), (.tuple [(.str "one"), (.str "each"), (.str "all")])])
theorem cal__law_entries (W : Wd w K mg) : Cal prog w K mg base "_law_entries" 1 [] (spC K (S0) [] (m__law_entries) lv) :=
  cal_of (fun _ => lift .no) W.d__law_entries sc__law_entries rfl (.inl rfl) (fun f' cdv A outer s H G J E a hr hgd => by
    cases a; exact cs_eq (cs_set (i := 0) (fun d1 => (cs_set (i := 0) (fun d2 => (cs_ret (ce_opL op_addA p2_addL (fun _ => (ce_show (ce_lst (cd_cons (fun _ => (cd_cons (fun _ => (cd_cons (fun _ => cd_nil) (ce_tup (cd_cons (fun _ => (cd_cons (fun _ => cd_nil) ce_str)) ce_str)))) (ce_tup (cd_cons (fun _ => (cd_cons (fun _ => cd_nil) ce_str)) ce_str)))) (ce_tup (cd_cons (fun _ => (cd_cons (fun _ => cd_nil) ce_str)) ce_str)))))) (ce_name (i := 0) (d := d2))))) (ce_show (ce_opL op_addA p2_addL (fun _ => (ce_show (ce_lst (cd_cons (fun _ => (cd_cons (fun _ => (cd_cons (fun _ => cd_nil) (ce_tup (cd_cons (fun _ => (cd_cons (fun _ => (cd_cons (fun _ => cd_nil) ce_str)) ce_str)) ce_str)))) (ce_tup (cd_cons (fun _ => (cd_cons (fun _ => cd_nil) ce_str)) ce_str)))) (ce_tup (cd_cons (fun _ => (cd_cons (fun _ => (cd_cons (fun _ => cd_nil) ce_str)) ce_str)) ce_str)))))) (ce_name (i := 0) (d := d1)))) sc__law_entries.nd)) (ce_show (ce_lst (cd_cons (fun _ => (cd_cons (fun _ => (cd_cons (fun _ => (cd_cons (fun _ => cd_nil) (ce_tup (cd_cons (fun _ => (cd_cons (fun _ => (cd_cons (fun _ => cd_nil) ce_str)) ce_str)) ce_str)))) (ce_tup (cd_cons (fun _ => (cd_cons (fun _ => cd_nil) ce_str)) ce_str)))) (ce_tup (cd_cons (fun _ => (cd_cons (fun _ => cd_nil) ce_str)) ce_str)))) (ce_tup (cd_cons (fun _ => (cd_cons (fun _ => cd_nil) ce_str)) ce_str))))) sc__law_entries.nd) rfl)
abbrev s__law_book : Stmt := topS 30
theorem sc__law_book : FnScope ["bag", "sort", "way", "book", "turn", "spot", "words"] ["bag", "sort"] (defScope s__law_book) := ⟨rfl, rfl, rfl, by decide +kernel, rfl, by decide +kernel, by decide +kernel⟩
def m__law_book : Ar [false, true] → M GH (D) := fun (a1, d2, ()) =>
  bnd (nox (callM [false, true] (m__law_draw) [.o a1, .v (.int 4)])) fun d4 => (fun d3 => bnd (need (eqF d3 (.int 0))) fun b27 => (if b27 = true then bnd (lift (m__law_entries ())) fun l9 => bnd (need (items (.list l9))) fun l10 => bnd (nox (compL l10 [] fun d6 => bnd (need (some d6)) fun a5 => (if true = true then bnd (nox (callM [false, true] (m__law_pick) [.o a1, .v a5])) fun d7 => pur (some d7) else pur none))) fun l8 => bnd (need (itemsF [(.list l8)])) fun l11 => pur (PyData.tuple l11) else bnd (nox (callM [false, true] (m__law_right) [.o a1, .v d2])) fun d13 => (fun d12 => bnd (need (subF d3 (.int 1))) fun d25 => bnd (need (rng1 [d25])) fun l26 => bnd (forP (τ := D) l26 d12 fun d17 t14 => bnd (need (some d17)) fun a16 => bnd (nox (callM [false, true] (m__law_draw) [.o a1, .v (.int 10)])) fun d19 => (fun d18 => bnd (lift (m__law_entries ())) fun l23 => bnd (need (ixF (.list l23) d18)) fun d24 => bnd (nox (callM [false, true] (m__law_pick) [.o a1, .v d24])) fun d22 => bnd (lift (callM [true, true, true] (m__law_with) [.v t14, .v d18, .v d22])) fun d21 => (fun d20 => pur d20) d21) d19) fun t15 => pur t15) d13)) d4
theorem cal__law_book (W : Wd w K mg) (sc : Addr) (ns : List Int) : Cal prog w K mg base "_law_book" 4 ["bag", "sort"] (spC K (SR K sc ns) [false, true] (m__law_book) R.v) :=
  cal_of (fun _ => lift .no) W.d__law_book sc__law_book rfl (.inl rfl) (fun f' cdv A outer s H G J E a hr hgd => by
    obtain ⟨a1, d2, ⟨⟩⟩ := a; exact cs_eq (cs_set (i := 2) (fun d3 => (cs_ifT (fun _ => (cs_ret (ce_to PyData.tuple (ce_ty call_tuple_of pc_tuple W.b_tuple (by first | exact PySem.boot_tuple | exact PyProof.Rows.boot_tuple | exact L2.boot_tuple | decide +kernel) (cd_cons (fun _ => cd_nil) (ce_show (ce_comp (un := some) (outT := fun a5 : D => [some (.obj a1), some (.val d2), some (.val d3), none, none, none, some (.val a5)]) (sl := [6]) (own := [("words", 6)]) (fun _ _ _ _ _ a5 => (ce_callM (cal__law_pick W sc ns) (hr.mono (by decide)) hgd (ca_cons (rk := R.o) (fun _ => (ca_cons (rk := R.v) (fun _ => ca_nil) (ce_name (i := 6) (d := a5)))) (ce_obj (i := 0) (a := a1))))) (fun _ _ _ _ _ a5 => cts_nil) (fun _ _ _ _ _ => (cg_name 6 (pg_name sc__law_book.nd rfl (by first | exact .inl rfl | exact .inr rfl)))) (ci_seq (ce_show (ce_callP0 (cal__law_entries W) (hr.mono (by decide)) hgd))) sc__law_book.nd (by exact ⟨rfl, of_decide_eq_true (by kernel_rfl), of_decide_eq_true (by kernel_rfl), of_decide_eq_true (by kernel_rfl), of_decide_eq_true (by kernel_rfl)⟩)))))))) (cs_set (i := 3) (fun d12 => (cs_forP (outl := fun t14 : D => [some (.obj a1), some (.val d2), some (.val d3), some (.val t14), none, none, none]) (un := some) (outT := fun (t14 : D) (a16 : D) => [some (.obj a1), some (.val d2), some (.val d3), some (.val t14), some (.val a16), none, none]) (sl := [4]) (d12 : D) (fun t15 => (cs_ret (ce_name (i := 3) (d := t15)))) (fun a16 t14 => (cs_set (i := 5) (fun d18 => (cs_set (i := 3) (fun d20 => (cs_nil (a := d20) (show LeE [some (.obj a1), some (.val d2), some (.val d3), some (.val d20), none, none, none] [some (.obj a1), some (.val d2), some (.val d3), some (.val d20), some (.val a16), some (.val d18), none] from (le_same (le_same (le_same (le_same (le_none (le_none (le_none le_nil)))))))))) (ce_callP (cal__law_with W) (hr.mono (by decide)) hgd (ca_cons (rk := R.v) (fun _ => (ca_cons (rk := R.v) (fun _ => (ca_cons (rk := R.v) (fun _ => ca_nil) (ce_callM (cal__law_pick W sc ns) (hr.mono (by decide)) hgd (ca_cons (rk := R.o) (fun _ => (ca_cons (rk := R.v) (fun _ => ca_nil) (ce_ix (Room.u1 hr) (fun _ => (ce_name (i := 5) (d := d18))) (ce_show (ce_callP0 (cal__law_entries W) (hr.mono (by decide)) hgd))))) (ce_obj (i := 0) (a := a1)))))) (ce_name (i := 5) (d := d18)))) (ce_name (i := 3) (d := t14)))) sc__law_book.nd)) (ce_callM (cal__law_draw W sc ns) (hr.mono (by decide)) hgd (ca_cons (rk := R.o) (fun _ => (ca_cons (rk := R.v) (fun _ => ca_nil) ce_int)) (ce_obj (i := 0) (a := a1)))) sc__law_book.nd)) (fun t14 => (cg_name 4 (pg_name sc__law_book.nd rfl (by first | exact .inl rfl | exact .inr rfl)))) (ci_range1 W.b_range (cd_cons (fun _ => cd_nil) (ce_op op_sub p2_sub (fun _ => ce_int) (ce_name (i := 2) (d := d3))))) (show LeE [some (.obj a1), some (.val d2), some (.val d3), some (.val d12), none, none, none] [some (.obj a1), some (.val d2), some (.val d3), some (.val d12), none, none, none] from (le_same (le_same (le_same (le_same (le_none (le_none (le_none le_nil)))))))))) (ce_callM (cal__law_right W sc ns) (hr.mono (by decide)) hgd (ca_cons (rk := R.o) (fun _ => (ca_cons (rk := R.v) (fun _ => ca_nil) (ce_name (i := 1) (d := d2)))) (ce_obj (i := 0) (a := a1)))) sc__law_book.nd) (ct_cmp (op_eqA (Room.u64 hr)) p2_eq (fun _ => ce_int) (ce_name (i := 2) (d := d3))))) (ce_callM (cal__law_draw W sc ns) (hr.mono (by decide)) hgd (ca_cons (rk := R.o) (fun _ => (ca_cons (rk := R.v) (fun _ => ca_nil) ce_int)) (ce_obj (i := 0) (a := a1)))) sc__law_book.nd) rfl)
abbrev s_place_of : Stmt := topS 8
theorem sc_place_of : FnScope ["name", "place"] ["name"] (defScope s_place_of) := ⟨rfl, rfl, rfl, by decide +kernel, rfl, by decide +kernel, by decide +kernel⟩
def m_place_of : Ar [true] → P (D) := fun (d1, ()) =>
  bnd (α := D) ((if (isT "str" d1) = true then bnd (need (kgetF G_PLACES d1)) fun d3 => pur d3 else pur .none)) fun d4 => (fun d2 => bnd (need (isNF d2 .none)) fun b5 => (if b5 = true then lift .no else pur d2)) d4
theorem cal_place_of (W : Wd w K mg) : Cal prog w K mg base "place_of" 1 ["name"] (spC K (S0) [true] (m_place_of) R.v) :=
  cal_of (fun _ => lift .no) W.d_place_of sc_place_of rfl (.inl rfl) (fun f' cdv A outer s H G J E a hr hgd => by
    obtain ⟨d1, ⟨⟩⟩ := a; exact cs_eq (cs_set (i := 1) (fun d2 => (cs_ifT (fun _ => cs_never) (cs_ret (ce_name (i := 1) (d := d2))) (ct_cmp op_isN p2_isN (fun _ => ce_none) (ce_name (i := 1) (d := d2))))) (ce_bnd (ce_if (ce_kget W.g_PLACES (ce_name (i := 0) (d := d1))) ce_none (ct_val (ce_isi kit_str W.b_isinstance W.b_str (by first | exact PySem.boot_str | exact PyProof.Rows.boot_str | exact L2.boot_str | decide +kernel) (ce_name (i := 0) (d := d1)))))) sc_place_of.nd) rfl)
abbrev s_word_of : Stmt := topS 9
theorem sc_word_of : FnScope ["book", "name"] ["book", "name"] (defScope s_word_of) := ⟨rfl, rfl, rfl, by decide +kernel, rfl, by decide +kernel, by decide +kernel⟩
def m_word_of : Ar [true, true] → P (D) := fun (d1, d2, ()) =>
  bnd (lift (callM [true] (m_place_of) [.v d2])) fun d3 => bnd (need (ixF d1 d3)) fun d4 => pur d4
theorem cal_word_of (W : Wd w K mg) : Cal prog w K mg base "word_of" 2 ["book", "name"] (spC K (S0) [true, true] (m_word_of) R.v) :=
  cal_of (fun _ => lift .no) W.d_word_of sc_word_of rfl (.inl rfl) (fun f' cdv A outer s H G J E a hr hgd => by
    obtain ⟨d1, d2, ⟨⟩⟩ := a; exact cs_eq (cs_ret (ce_ix (Room.u1 hr) (fun _ => (ce_callP (cal_place_of W) (hr.mono (by decide)) hgd (ca_cons (rk := R.v) (fun _ => ca_nil) (ce_name (i := 1) (d := d2))))) (ce_name (i := 0) (d := d1)))) rfl)
abbrev s_like_lacks : Stmt := topS 12
theorem sc_like_lacks : FnScope ["book", "found", "name", "word", "wrong"] ["book"] (defScope s_like_lacks) := ⟨rfl, rfl, rfl, by decide +kernel, rfl, by decide +kernel, by decide +kernel⟩
def m_like_lacks : Ar [true] → P (List D) := fun (d1, ()) =>
  (fun l2 => bnd (need (items (.tuple [(.tuple [(.str "note"), (.str "note"), (.str "behind")]), (.tuple [(.str "call"), (.str "call"), (.str "lost")]), (.tuple [(.str "put"), (.str "put"), (.str "last")]), (.tuple [(.str "woken"), (.str "takes"), (.str "takes")]), (.tuple [(.str "comers"), (.str "comers"), (.str "behind")])]))) fun l18 => bnd (forP (τ := List D) l18 l2 fun d6 t3 => bnd (need ((unT (unC some (unC some (un1 some)))) d6)) fun a5 => bnd (lift (callM [true, true] (m_word_of) [.v d1, .v a5.1])) fun d8 => bnd (need (eqF d8 a5.2.2)) fun b9 => (if b9 = true then bnd (need (appF t3 a5.2.1)) fun l7 => pur l7 else pur t3)) fun t4 => jn (α := List D) (fun k11 => bnd (bnd (lift (callM [true, true] (m_word_of) [.v d1, .v (.str "many")])) fun d15 => bnd (need (eqF d15 (.str "one"))) fun b16 => (if b16 = true then bnd (lift (callM [true, true] (m_word_of) [.v d1, .v (.str "pass")])) fun d13 => bnd (need (eqF d13 (.str "never"))) fun b14 => pur b14 else pur false)) fun b17 => (if b17 = true then bnd (need (appF t4 (.str "one"))) fun l12 => k11 l12 else k11 t4)) fun t10 => pur t10) []
theorem cal_like_lacks (W : Wd w K mg) : Cal prog w K mg base "like_lacks" 3 ["book"] (spC K (S0) [true] (m_like_lacks) lv) :=
  cal_of (fun _ => lift .no) W.d_like_lacks sc_like_lacks rfl (.inl rfl) (fun f' cdv A outer s H G J E a hr hgd => by
    obtain ⟨d1, ⟨⟩⟩ := a; exact cs_eq (cs_setL (i := 1) (cc := fun l => .lst l) (fun l2 => (cs_forP (outl := fun t3 : List D => [some (.val d1), some (.own (.lst t3)), none, none, none]) (un := (unT (unC some (unC some (un1 some))))) (outT := fun (t3 : List D) (a5 : (D × D × D)) => [some (.val d1), some (.own (.lst t3)), some (.val a5.1), some (.val a5.2.1), some (.val a5.2.2)]) (sl := [2, 3, 4]) (l2 : List D) (fun t4 => (cs_ifJ (out1 := fun t10 : List D => [some (.val d1), some (.own (.lst t10)), none, none, none]) (fun t10 => (cs_retL (i := 1) (xs := t10) rfl)) (fun k11 => (cs_append 1 (xs := t4) rfl (fun l12 => (cs_nil (a := l12) (show LeE [some (.val d1), some (.own (.lst l12)), none, none, none] [some (.val d1), some (.own (.lst l12)), none, none, none] from (le_same (le_same (le_none (le_none (le_none le_nil)))))))) ce_str)) (fun k11 => (cs_nil (a := t4) (show LeE [some (.val d1), some (.own (.lst t4)), none, none, none] [some (.val d1), some (.own (.lst t4)), none, none, none] from (le_same (le_same (le_none (le_none (le_none le_nil)))))))) (fun k11 => (ct_bnd (ct_w (cw_and (cw_and1 (ct_cmp (op_eqA (Room.u64 hr)) p2_eq (fun _ => ce_str) (ce_callP (cal_word_of W) (hr.mono (by decide)) hgd (ca_cons (rk := R.v) (fun _ => (ca_cons (rk := R.v) (fun _ => ca_nil) ce_str)) (ce_name (i := 0) (d := d1)))))) (ct_cmp (op_eqA (Room.u64 hr)) p2_eq (fun _ => ce_str) (ce_callP (cal_word_of W) (hr.mono (by decide)) hgd (ca_cons (rk := R.v) (fun _ => (ca_cons (rk := R.v) (fun _ => ca_nil) ce_str)) (ce_name (i := 0) (d := d1))))))))))) (fun a5 t3 => (cs_ifE (cs_append 1 (xs := t3) rfl (fun l7 => (cs_nil (a := l7) (show LeE [some (.val d1), some (.own (.lst l7)), none, none, none] [some (.val d1), some (.own (.lst l7)), some (.val a5.1), some (.val a5.2.1), some (.val a5.2.2)] from (le_same (le_same (le_none (le_none (le_none le_nil)))))))) (ce_name (i := 3) (d := a5.2.1))) (cs_nil (a := t3) (show LeE [some (.val d1), some (.own (.lst t3)), none, none, none] [some (.val d1), some (.own (.lst t3)), some (.val a5.1), some (.val a5.2.1), some (.val a5.2.2)] from (le_same (le_same (le_none (le_none (le_none le_nil))))))) (ct_cmp (op_eqA (Room.u64 hr)) p2_eq (fun _ => (ce_name (i := 4) (d := a5.2.2))) (ce_callP (cal_word_of W) (hr.mono (by decide)) hgd (ca_cons (rk := R.v) (fun _ => (ca_cons (rk := R.v) (fun _ => ca_nil) (ce_name (i := 2) (d := a5.1)))) (ce_name (i := 0) (d := d1))))))) (fun t3 => (cg_tup (cgs_cons (cg_name 2 (pg_name sc_like_lacks.nd rfl (by first | exact .inl rfl | exact .inr rfl))) fun _ => (cgs_cons (cg_name 3 (pg_name sc_like_lacks.nd rfl (by first | exact .inl rfl | exact .inr rfl))) fun _ => (cgs_one (cg_name 4 (pg_name sc_like_lacks.nd rfl (by first | exact .inl rfl | exact .inr rfl)))))))) (ci_seq (ce_tup (cd_cons (fun _ => (cd_cons (fun _ => (cd_cons (fun _ => (cd_cons (fun _ => (cd_cons (fun _ => cd_nil) (ce_tup (cd_cons (fun _ => (cd_cons (fun _ => (cd_cons (fun _ => cd_nil) ce_str)) ce_str)) ce_str)))) (ce_tup (cd_cons (fun _ => (cd_cons (fun _ => (cd_cons (fun _ => cd_nil) ce_str)) ce_str)) ce_str)))) (ce_tup (cd_cons (fun _ => (cd_cons (fun _ => (cd_cons (fun _ => cd_nil) ce_str)) ce_str)) ce_str)))) (ce_tup (cd_cons (fun _ => (cd_cons (fun _ => (cd_cons (fun _ => cd_nil) ce_str)) ce_str)) ce_str)))) (ce_tup (cd_cons (fun _ => (cd_cons (fun _ => (cd_cons (fun _ => cd_nil) ce_str)) ce_str)) ce_str))))) (show LeE [some (.val d1), some (.own (.lst l2)), none, none, none] [some (.val d1), some (.own (.lst l2)), none, none, none] from (le_same (le_same (le_none (le_none (le_none le_nil)))))))) (ce_lst cd_nil) sc_like_lacks.nd) rfl)
abbrev s_any_lacks : Stmt := topS 13
theorem sc_any_lacks : FnScope ["book", "stay", "found", "passing"] ["book", "stay"] (defScope s_any_lacks) := ⟨rfl, rfl, rfl, by decide +kernel, rfl, by decide +kernel, by decide +kernel⟩
def m_any_lacks : Ar [true, true] → P (List D) := fun (d1, d2, ()) =>
  (fun l3 => bnd (lift (callM [true, true] (m_word_of) [.v d1, .v (.str "pass")])) fun d5 => (fun d4 => jn (α := List D) (fun k7 => bnd (lift (callM [true, true] (m_word_of) [.v d1, .v (.str "woken")])) fun d15 => bnd (need (eqF d15 (.str "tries"))) fun b16 => (if b16 = true then jn (α := List D) (fun k9 => bnd (need (eqF d4 (.str "always"))) fun b11 => (if b11 = true then bnd (need (appF l3 (.str "always"))) fun l10 => k9 l10 else k9 l3)) fun t8 => bnd (lift (callM [true, true] (m_word_of) [.v d1, .v (.str "many")])) fun d13 => bnd (need (neF d13 (.str "all"))) fun b14 => (if b14 = true then bnd (need (appF t8 (.str "many"))) fun l12 => k7 l12 else k7 t8) else k7 l3)) fun t6 => jn (α := List D) (fun k18 => bnd (lift (callM [true, true] (m_word_of) [.v d1, .v (.str "woken")])) fun d28 => bnd (need (eqF d28 (.str "given"))) fun b29 => (if b29 = true then jn (α := List D) (fun k20 => bnd (lift (callM [true, true] (m_word_of) [.v d1, .v (.str "order")])) fun d22 => bnd (need (eqF d22 (.str "first"))) fun b23 => (if b23 = true then bnd (need (appF t6 (.str "first"))) fun l21 => k20 l21 else k20 t6)) fun t19 => bnd (bnd (need (eqF d2 (.str "leaving"))) fun b26 => (if b26 = true then bnd (need (eqF d4 (.str "never"))) fun b25 => pur b25 else pur false)) fun b27 => (if b27 = true then bnd (need (appF t19 (.str "never"))) fun l24 => k18 l24 else k18 t19) else k18 t6)) fun t17 => pur t17) d5) []
theorem cal_any_lacks (W : Wd w K mg) : Cal prog w K mg base "any_lacks" 3 ["book", "stay"] (spC K (S0) [true, true] (m_any_lacks) lv) :=
  cal_of (fun _ => lift .no) W.d_any_lacks sc_any_lacks rfl (.inl rfl) (fun f' cdv A outer s H G J E a hr hgd => by
    obtain ⟨d1, d2, ⟨⟩⟩ := a; exact cs_eq (cs_par (i := 2) (j := 3) (r1 := lv) (r2 := R.v) (fun l3 d4 => (cs_ifJ (out1 := fun t6 : List D => [some (.val d1), some (.val d2), some (.own (.lst t6)), some (.val d4)]) (fun t6 => (cs_ifJ (out1 := fun t17 : List D => [some (.val d1), some (.val d2), some (.own (.lst t17)), some (.val d4)]) (fun t17 => (cs_retL (i := 2) (xs := t17) rfl)) (fun k18 => (cs_ifJ (out1 := fun t19 : List D => [some (.val d1), some (.val d2), some (.own (.lst t19)), some (.val d4)]) (fun t19 => (cs_ifE (cs_append 2 (xs := t19) rfl (fun l24 => (cs_nil (a := l24) (show LeE [some (.val d1), some (.val d2), some (.own (.lst l24)), some (.val d4)] [some (.val d1), some (.val d2), some (.own (.lst l24)), some (.val d4)] from (le_same (le_same (le_same (le_same le_nil))))))) ce_str) (cs_nil (a := t19) (show LeE [some (.val d1), some (.val d2), some (.own (.lst t19)), some (.val d4)] [some (.val d1), some (.val d2), some (.own (.lst t19)), some (.val d4)] from (le_same (le_same (le_same (le_same le_nil)))))) (ct_bnd (ct_w (cw_and (cw_and1 (ct_cmp (op_eqA (Room.u64 hr)) p2_eq (fun _ => ce_str) (ce_name (i := 3) (d := d4)))) (ct_cmp (op_eqA (Room.u64 hr)) p2_eq (fun _ => ce_str) (ce_name (i := 1) (d := d2)))))))) (fun k20 => (cs_append 2 (xs := t6) rfl (fun l21 => (cs_nil (a := l21) (show LeE [some (.val d1), some (.val d2), some (.own (.lst l21)), some (.val d4)] [some (.val d1), some (.val d2), some (.own (.lst l21)), some (.val d4)] from (le_same (le_same (le_same (le_same le_nil))))))) ce_str)) (fun k20 => (cs_nil (a := t6) (show LeE [some (.val d1), some (.val d2), some (.own (.lst t6)), some (.val d4)] [some (.val d1), some (.val d2), some (.own (.lst t6)), some (.val d4)] from (le_same (le_same (le_same (le_same le_nil))))))) (fun k20 => (ct_cmp (op_eqA (Room.u64 hr)) p2_eq (fun _ => ce_str) (ce_callP (cal_word_of W) (hr.mono (by decide)) hgd (ca_cons (rk := R.v) (fun _ => (ca_cons (rk := R.v) (fun _ => ca_nil) ce_str)) (ce_name (i := 0) (d := d1)))))))) (fun k18 => (cs_nil (a := t6) (show LeE [some (.val d1), some (.val d2), some (.own (.lst t6)), some (.val d4)] [some (.val d1), some (.val d2), some (.own (.lst t6)), some (.val d4)] from (le_same (le_same (le_same (le_same le_nil))))))) (fun k18 => (ct_cmp (op_eqA (Room.u64 hr)) p2_eq (fun _ => ce_str) (ce_callP (cal_word_of W) (hr.mono (by decide)) hgd (ca_cons (rk := R.v) (fun _ => (ca_cons (rk := R.v) (fun _ => ca_nil) ce_str)) (ce_name (i := 0) (d := d1)))))))) (fun k7 => (cs_ifJ (out1 := fun t8 : List D => [some (.val d1), some (.val d2), some (.own (.lst t8)), some (.val d4)]) (fun t8 => (cs_ifE (cs_append 2 (xs := t8) rfl (fun l12 => (cs_nil (a := l12) (show LeE [some (.val d1), some (.val d2), some (.own (.lst l12)), some (.val d4)] [some (.val d1), some (.val d2), some (.own (.lst l12)), some (.val d4)] from (le_same (le_same (le_same (le_same le_nil))))))) ce_str) (cs_nil (a := t8) (show LeE [some (.val d1), some (.val d2), some (.own (.lst t8)), some (.val d4)] [some (.val d1), some (.val d2), some (.own (.lst t8)), some (.val d4)] from (le_same (le_same (le_same (le_same le_nil)))))) (ct_cmp (op_neA (Room.u64 hr)) p2_ne (fun _ => ce_str) (ce_callP (cal_word_of W) (hr.mono (by decide)) hgd (ca_cons (rk := R.v) (fun _ => (ca_cons (rk := R.v) (fun _ => ca_nil) ce_str)) (ce_name (i := 0) (d := d1))))))) (fun k9 => (cs_append 2 (xs := l3) rfl (fun l10 => (cs_nil (a := l10) (show LeE [some (.val d1), some (.val d2), some (.own (.lst l10)), some (.val d4)] [some (.val d1), some (.val d2), some (.own (.lst l10)), some (.val d4)] from (le_same (le_same (le_same (le_same le_nil))))))) ce_str)) (fun k9 => (cs_nil (a := l3) (show LeE [some (.val d1), some (.val d2), some (.own (.lst l3)), some (.val d4)] [some (.val d1), some (.val d2), some (.own (.lst l3)), some (.val d4)] from (le_same (le_same (le_same (le_same le_nil))))))) (fun k9 => (ct_cmp (op_eqA (Room.u64 hr)) p2_eq (fun _ => ce_str) (ce_name (i := 3) (d := d4)))))) (fun k7 => (cs_nil (a := l3) (show LeE [some (.val d1), some (.val d2), some (.own (.lst l3)), some (.val d4)] [some (.val d1), some (.val d2), some (.own (.lst l3)), some (.val d4)] from (le_same (le_same (le_same (le_same le_nil))))))) (fun k7 => (ct_cmp (op_eqA (Room.u64 hr)) p2_eq (fun _ => ce_str) (ce_callP (cal_word_of W) (hr.mono (by decide)) hgd (ca_cons (rk := R.v) (fun _ => (ca_cons (rk := R.v) (fun _ => ca_nil) ce_str)) (ce_name (i := 0) (d := d1)))))))) (fun _ => (ce_callP (cal_word_of W) (hr.mono (by decide)) hgd (ca_cons (rk := R.v) (fun _ => (ca_cons (rk := R.v) (fun _ => ca_nil) ce_str)) (ce_name (i := 0) (d := d1))))) (ce_lst cd_nil) sc_any_lacks.nd) rfl)
abbrev s_lacks : Stmt := topS 14
theorem sc_lacks : FnScope ["book", "sort", "found", "wants", "stay"] ["book", "sort"] (defScope s_lacks) := ⟨rfl, rfl, rfl, by decide +kernel, rfl, by decide +kernel, by decide +kernel⟩
def m_lacks : Ar [true, true] → P (D) := fun (d1, d2, ()) =>
  bnd (lift (callM [true] (m_like_lacks) [.v d1])) fun l5 => (fun l3 => bnd (need ((unT (unC some (un1 some))) d2)) fun a4 => jn (α := List D) (fun k7 => bnd (bnd (need (eqF a4.2 (.str "leaving"))) fun b16 => (if b16 = true then bnd (lift (callM [true, true] (m_word_of) [.v d1, .v (.str "quits")])) fun d14 => bnd (need (eqF d14 (.str "drops"))) fun b15 => pur b15 else pur false)) fun b17 => (if b17 = true then bnd (bnd (lift (callM [true, true] (m_word_of) [.v d1, .v (.str "many")])) fun d11 => bnd (need (neF d11 (.str "all"))) fun b12 => (if b12 = true then pur true else bnd (lift (callM [true, true] (m_word_of) [.v d1, .v (.str "woken")])) fun d9 => bnd (need (neF d9 (.str "tries"))) fun b10 => pur b10)) fun b13 => (if b13 = true then bnd (need (appF l3 (.str "drops"))) fun l8 => k7 l8 else k7 l3) else k7 l3)) fun t6 => jn (α := List D) (fun k19 => bnd (need (eqF a4.1 (.str "any"))) fun b22 => (if b22 = true then bnd (lift (callM [true, true] (m_any_lacks) [.v d1, .v a4.2])) fun l21 => bnd (need (extF t6 (.list l21))) fun l20 => k19 l20 else k19 t6)) fun t18 => bnd (need (itemsF [(.list t18)])) fun l23 => pur (PyData.tuple l23)) l5
theorem cal_lacks (W : Wd w K mg) : Cal prog w K mg base "lacks" 4 ["book", "sort"] (spC K (S0) [true, true] (m_lacks) R.v) :=
  cal_of (fun _ => lift .no) W.d_lacks sc_lacks rfl (.inl rfl) (fun f' cdv A outer s H G J E a hr hgd => by
    obtain ⟨d1, d2, ⟨⟩⟩ := a; exact cs_eq (cs_asgL2 (i := 2) (un := (unT (unC some (un1 some)))) (outT := fun l3 (a4 : (D × D)) => [some (.val d1), some (.val d2), some (.own (.lst l3)), some (.val a4.1), some (.val a4.2)]) (fun l3 a4 => (cs_ifJ (out1 := fun t6 : List D => [some (.val d1), some (.val d2), some (.own (.lst t6)), some (.val a4.1), some (.val a4.2)]) (fun t6 => (cs_ifJ (out1 := fun t18 : List D => [some (.val d1), some (.val d2), some (.own (.lst t18)), some (.val a4.1), some (.val a4.2)]) (fun t18 => (cs_show 2 (c := .lst t18) rfl (cs_ret (ce_to PyData.tuple (ce_ty call_tuple_of pc_tuple W.b_tuple (by first | exact PySem.boot_tuple | exact PyProof.Rows.boot_tuple | exact L2.boot_tuple | decide +kernel) (cd_cons (fun _ => cd_nil) (ce_name (i := 2) (d := (.list t18))))))))) (fun k19 => (cs_extend 2 (xs := t6) rfl (fun l20 => (cs_nil (a := l20) (show LeE [some (.val d1), some (.val d2), some (.own (.lst l20)), some (.val a4.1), some (.val a4.2)] [some (.val d1), some (.val d2), some (.own (.lst l20)), some (.val a4.1), some (.val a4.2)] from (le_same (le_same (le_same (le_same (le_same le_nil)))))))) (ce_show (ce_callP (cal_any_lacks W) (hr.mono (by decide)) hgd (ca_cons (rk := R.v) (fun _ => (ca_cons (rk := R.v) (fun _ => ca_nil) (ce_name (i := 4) (d := a4.2)))) (ce_name (i := 0) (d := d1))))))) (fun k19 => (cs_nil (a := t6) (show LeE [some (.val d1), some (.val d2), some (.own (.lst t6)), some (.val a4.1), some (.val a4.2)] [some (.val d1), some (.val d2), some (.own (.lst t6)), some (.val a4.1), some (.val a4.2)] from (le_same (le_same (le_same (le_same (le_same le_nil)))))))) (fun k19 => (ct_cmp (op_eqA (Room.u64 hr)) p2_eq (fun _ => ce_str) (ce_name (i := 3) (d := a4.1)))))) (fun k7 => (cs_ifE (cs_append 2 (xs := l3) rfl (fun l8 => (cs_nil (a := l8) (show LeE [some (.val d1), some (.val d2), some (.own (.lst l8)), some (.val a4.1), some (.val a4.2)] [some (.val d1), some (.val d2), some (.own (.lst l8)), some (.val a4.1), some (.val a4.2)] from (le_same (le_same (le_same (le_same (le_same le_nil)))))))) ce_str) (cs_nil (a := l3) (show LeE [some (.val d1), some (.val d2), some (.own (.lst l3)), some (.val a4.1), some (.val a4.2)] [some (.val d1), some (.val d2), some (.own (.lst l3)), some (.val a4.1), some (.val a4.2)] from (le_same (le_same (le_same (le_same (le_same le_nil))))))) (ct_bnd (ct_w (cw_or (cw_or1 (ct_cmp (op_neA (Room.u64 hr)) p2_ne (fun _ => ce_str) (ce_callP (cal_word_of W) (hr.mono (by decide)) hgd (ca_cons (rk := R.v) (fun _ => (ca_cons (rk := R.v) (fun _ => ca_nil) ce_str)) (ce_name (i := 0) (d := d1)))))) (ct_cmp (op_neA (Room.u64 hr)) p2_ne (fun _ => ce_str) (ce_callP (cal_word_of W) (hr.mono (by decide)) hgd (ca_cons (rk := R.v) (fun _ => (ca_cons (rk := R.v) (fun _ => ca_nil) ce_str)) (ce_name (i := 0) (d := d1)))))))))) (fun k7 => (cs_nil (a := l3) (show LeE [some (.val d1), some (.val d2), some (.own (.lst l3)), some (.val a4.1), some (.val a4.2)] [some (.val d1), some (.val d2), some (.own (.lst l3)), some (.val a4.1), some (.val a4.2)] from (le_same (le_same (le_same (le_same (le_same le_nil)))))))) (fun k7 => (ct_bnd (ct_w (cw_and (cw_and1 (ct_cmp (op_eqA (Room.u64 hr)) p2_eq (fun _ => ce_str) (ce_callP (cal_word_of W) (hr.mono (by decide)) hgd (ca_cons (rk := R.v) (fun _ => (ca_cons (rk := R.v) (fun _ => ca_nil) ce_str)) (ce_name (i := 0) (d := d1)))))) (ct_cmp (op_eqA (Room.u64 hr)) p2_eq (fun _ => ce_str) (ce_name (i := 4) (d := a4.2))))))))) (fun l3 => (cg_tup (cgs_cons (cg_name 3 (pg_name sc_lacks.nd rfl (by first | exact .inl rfl | exact .inr rfl))) fun _ => (cgs_one (cg_name 4 (pg_name sc_lacks.nd rfl (by first | exact .inl rfl | exact .inr rfl))))))) (fun l3 => (ce_name (i := 1) (d := d2))) (ce_callP (cal_like_lacks W) (hr.mono (by decide)) hgd (ca_cons (rk := R.v) (fun _ => ca_nil) (ce_name (i := 0) (d := d1)))) (pg_name sc_lacks.nd rfl (by first | exact .inl rfl | exact .inr rfl))) rfl)
abbrev s_is_good : Stmt := topS 15
theorem sc_is_good : FnScope ["book", "sort"] ["book", "sort"] (defScope s_is_good) := ⟨rfl, rfl, rfl, by decide +kernel, rfl, by decide +kernel, by decide +kernel⟩
def m_is_good : Ar [true, true] → P (Bool) := fun (d1, d2, ()) =>
  bnd (lift (callM [true, true] (m_lacks) [.v d1, .v d2])) fun d3 => bnd (need (eqF d3 (.tuple []))) fun b4 => pur b4
theorem cal_is_good (W : Wd w K mg) : Cal prog w K mg base "is_good" 5 ["book", "sort"] (spC K (S0) [true, true] (m_is_good) bv) :=
  cal_of (fun _ => lift .no) W.d_is_good sc_is_good rfl (.inl rfl) (fun f' cdv A outer s H G J E a hr hgd => by
    obtain ⟨d1, d2, ⟨⟩⟩ := a; exact cs_eq (cs_ret (ce_cmp (op_eqA (Room.u64 hr)) p2_eq (fun _ => (ce_tup cd_nil)) (ce_callP (cal_lacks W) (hr.mono (by decide)) hgd (ca_cons (rk := R.v) (fun _ => (ca_cons (rk := R.v) (fun _ => ca_nil) (ce_name (i := 1) (d := d2)))) (ce_name (i := 0) (d := d1)))))) rfl)
abbrev s_entries : Stmt := topS 6
theorem sc_entries : FnScope [] [] (defScope s_entries) := ⟨rfl, rfl, rfl, by decide +kernel, rfl, by decide +kernel, by decide +kernel⟩
def m_entries : Ar [] → P (D) := fun () =>
  pur G_ENTRIES
theorem cal_entries (W : Wd w K mg) : Cal prog w K mg base "entries" 1 [] (spC K (S0) [] (m_entries) R.v) :=
  cal_of (fun _ => lift .no) W.d_entries sc_entries rfl (.inl rfl) (fun f' cdv A outer s H G J E a hr hgd => by
    cases a; exact cs_eq (cs_ret (ce_glob W.g_ENTRIES)) rfl)
abbrev s_is_word : Stmt := topS 7
theorem sc_is_word : FnScope ["words", "value"] ["words", "value"] (defScope s_is_word) := ⟨rfl, rfl, rfl, by decide +kernel, rfl, by decide +kernel, by decide +kernel⟩
def m_is_word : Ar [true, true] → P (Bool) := fun (d1, d2, ()) =>
  bnd ((if (isT "str" d2) = true then bnd (need (inF d2 d1)) fun b3 => pur b3 else pur false)) fun b4 => pur b4
theorem cal_is_word (W : Wd w K mg) : Cal prog w K mg base "is_word" 1 ["words", "value"] (spC K (S0) [true, true] (m_is_word) bv) :=
  cal_of (fun _ => lift .no) W.d_is_word sc_is_word rfl (.inl rfl) (fun f' cdv A outer s H G J E a hr hgd => by
    obtain ⟨d1, d2, ⟨⟩⟩ := a; exact cs_eq (cs_ret (ce_bnd (ce_and (ce_one (ce_cmp (op_inA (Room.u65 hr)) p2_in (fun _ => (ce_name (i := 0) (d := d1))) (ce_name (i := 1) (d := d2)))) (ce_isi kit_str W.b_isinstance W.b_str (by first | exact PySem.boot_str | exact PyProof.Rows.boot_str | exact L2.boot_str | decide +kernel) (ce_name (i := 1) (d := d2)))))) rfl)
abbrev s_turned : Stmt := topS 10
theorem sc_turned : FnScope ["book", "name", "word", "place"] ["book", "name", "word"] (defScope s_turned) := ⟨rfl, rfl, rfl, by decide +kernel, rfl, by decide +kernel, by decide +kernel⟩
def m_turned : Ar [true, true, true] → P (D) := fun (d1, d2, d3, ()) =>
  bnd (lift (callM [true] (m_place_of) [.v d2])) fun d5 => (fun d4 => bnd (need (ixF G_ENTRIES d4)) fun d14 => bnd (need (ixF d14 (.int 1))) fun d15 => bnd (lift (callM [true, true] (m_is_word) [.v d15, .v d3])) fun b13 => (if (!b13) = true then lift .no else bnd (need (asI d4)) fun i6 => bnd (need (slF d1 none (some i6))) fun d7 => bnd (need (addF d7 (.tuple [d3]))) fun d8 => bnd (need (addF d4 (.int 1))) fun d10 => bnd (need (asI d10)) fun i9 => bnd (need (slF d1 (some i9) none)) fun d11 => bnd (need (addF d8 d11)) fun d12 => pur d12)) d5
theorem cal_turned (W : Wd w K mg) : Cal prog w K mg base "turned" 2 ["book", "name", "word"] (spC K (S0) [true, true, true] (m_turned) R.v) :=
  cal_of (fun _ => lift .no) W.d_turned sc_turned rfl (.inl rfl) (fun f' cdv A outer s H G J E a hr hgd => by
    obtain ⟨d1, d2, d3, ⟨⟩⟩ := a; exact cs_eq (cs_set (i := 3) (fun d4 => (cs_ifT (fun _ => cs_never) (cs_ret (ce_op op_addA p2_add (fun _ => (ce_slice (fun _ _ => co_none) (fun _ => (co_some (ce_op op_addA p2_add (fun _ => ce_int) (ce_name (i := 3) (d := d4))))) (ce_name (i := 0) (d := d1)))) (ce_op op_addA p2_add (fun _ => (ce_tup (cd_cons (fun _ => cd_nil) (ce_name (i := 2) (d := d3))))) (ce_slice (fun _ _ => (co_some (ce_name (i := 3) (d := d4)))) (fun _ => co_none) (ce_name (i := 0) (d := d1)))))) (ct_not (ct_val (ce_callP (cal_is_word W) (hr.mono (by decide)) hgd (ca_cons (rk := R.v) (fun _ => (ca_cons (rk := R.v) (fun _ => ca_nil) (ce_name (i := 2) (d := d3)))) (ce_ix (Room.u1 hr) (fun _ => ce_int) (ce_ix (Room.u1 hr) (fun _ => (ce_name (i := 3) (d := d4))) (ce_glob W.g_ENTRIES))))))))) (ce_callP (cal_place_of W) (hr.mono (by decide)) hgd (ca_cons (rk := R.v) (fun _ => ca_nil) (ce_name (i := 1) (d := d2)))) sc_turned.nd) rfl)
abbrev s_idle : Stmt := topS 18
theorem sc_idle : FnScope ["book", "sort", "due", "found", "name", "words", "word"] ["book", "sort"] (defScope s_idle) := ⟨rfl, rfl, rfl, by decide +kernel, rfl, by decide +kernel, by decide +kernel⟩
def m_idle : Ar [true, true] → P (D) := fun (d1, d2, ()) =>
  bnd (lift (callM [true, true] (m_lacks) [.v d1, .v d2])) fun d5 => (fun d3 => (fun l4 => bnd (lift (m_entries ())) fun d20 => bnd (need (items d20)) fun l21 => bnd (forP (τ := List D) l21 l4 fun d9 t6 => bnd (need ((unT (unC some (un1 some))) d9)) fun a8 => bnd (need (items a8.2)) fun l17 => bnd (nox (compL l17 [] fun d12 => bnd (need (some d12)) fun a11 => bnd (lift (callM [true, true, true] (m_turned) [.v d1, .v a8.1, .v a11])) fun d14 => bnd (lift (callM [true, true] (m_lacks) [.v d14, .v d2])) fun d13 => bnd (need (neF d13 d3)) fun b15 => (if b15 = true then pur (some a11) else pur none))) fun l16 => bnd (need (eqF (.list l16) (.list []))) fun b18 => (if b18 = true then bnd (need (appF t6 a8.1)) fun l10 => pur l10 else pur t6)) fun t7 => bnd (need (itemsF [(.list t7)])) fun l19 => pur (PyData.tuple l19)) []) d5
theorem cal_idle (W : Wd w K mg) : Cal prog w K mg base "idle" 5 ["book", "sort"] (spC K (S0) [true, true] (m_idle) R.v) :=
  cal_of (fun _ => lift .no) W.d_idle sc_idle rfl (.inl rfl) (fun f' cdv A outer s H G J E a hr hgd => by
    obtain ⟨d1, d2, ⟨⟩⟩ := a; exact cs_eq (cs_asgR2 (i := 2) (j := 3) (fun d3 l4 => (cs_forP (outl := fun t6 : List D => [some (.val d1), some (.val d2), some (.val d3), some (.own (.lst t6)), none, none, none]) (un := (unT (unC some (un1 some)))) (outT := fun (t6 : List D) (a8 : (D × D)) => [some (.val d1), some (.val d2), some (.val d3), some (.own (.lst t6)), some (.val a8.1), some (.val a8.2), none]) (sl := [4, 5]) (l4 : List D) (fun t7 => (cs_show 3 (c := .lst t7) rfl (cs_ret (ce_to PyData.tuple (ce_ty call_tuple_of pc_tuple W.b_tuple (by first | exact PySem.boot_tuple | exact PyProof.Rows.boot_tuple | exact L2.boot_tuple | decide +kernel) (cd_cons (fun _ => cd_nil) (ce_name (i := 3) (d := (.list t7))))))))) (fun a8 t6 => (cs_ifE (cs_append 3 (xs := t6) rfl (fun l10 => (cs_nil (a := l10) (show LeE [some (.val d1), some (.val d2), some (.val d3), some (.own (.lst l10)), none, none, none] [some (.val d1), some (.val d2), some (.val d3), some (.own (.lst l10)), some (.val a8.1), some (.val a8.2), none] from (le_same (le_same (le_same (le_same (le_none (le_none (le_none le_nil)))))))))) (ce_name (i := 4) (d := a8.1))) (cs_nil (a := t6) (show LeE [some (.val d1), some (.val d2), some (.val d3), some (.own (.lst t6)), none, none, none] [some (.val d1), some (.val d2), some (.val d3), some (.own (.lst t6)), some (.val a8.1), some (.val a8.2), none] from (le_same (le_same (le_same (le_same (le_none (le_none (le_none le_nil))))))))) (ct_cmp (op_eqA (Room.u64 hr)) p2_eq (fun _ => (ce_show (ce_lst cd_nil))) (ce_show (ce_comp (un := some) (outT := fun a11 : D => [some (.val d1), some (.val d2), some (.val d3), some (.own (.lst t6)), some (.val a8.1), some (.val a8.2), some (.val a11)]) (sl := [6]) (own := [("word", 6)]) (fun _ _ _ _ _ a11 => (ce_name (i := 6) (d := a11))) (fun _ _ _ _ _ a11 => (cts_one (ct_cmp (op_neA (Room.u64 hr)) p2_ne (fun _ => (ce_name (i := 2) (d := d3))) (ce_callP (cal_lacks W) (hr.mono (by decide)) hgd (ca_cons (rk := R.v) (fun _ => (ca_cons (rk := R.v) (fun _ => ca_nil) (ce_name (i := 1) (d := d2)))) (ce_callP (cal_turned W) (hr.mono (by decide)) hgd (ca_cons (rk := R.v) (fun _ => (ca_cons (rk := R.v) (fun _ => (ca_cons (rk := R.v) (fun _ => ca_nil) (ce_name (i := 6) (d := a11)))) (ce_name (i := 4) (d := a8.1)))) (ce_name (i := 0) (d := d1))))))))) (fun _ _ _ _ _ => (cg_name 6 (pg_name sc_idle.nd rfl (by first | exact .inl rfl | exact .inr rfl)))) (ci_seq (ce_name (i := 5) (d := a8.2))) sc_idle.nd (by exact ⟨rfl, of_decide_eq_true (by kernel_rfl), of_decide_eq_true (by kernel_rfl), of_decide_eq_true (by kernel_rfl), of_decide_eq_true (by kernel_rfl)⟩)))))) (fun t6 => (cg_tup (cgs_cons (cg_name 4 (pg_name sc_idle.nd rfl (by first | exact .inl rfl | exact .inr rfl))) fun _ => (cgs_one (cg_name 5 (pg_name sc_idle.nd rfl (by first | exact .inl rfl | exact .inr rfl))))))) (ci_seq (ce_callP0 (cal_entries W) (hr.mono (by decide)) hgd)) (show LeE [some (.val d1), some (.val d2), some (.val d3), some (.own (.lst l4)), none, none, none] [some (.val d1), some (.val d2), some (.val d3), some (.own (.lst l4)), none, none, none] from (le_same (le_same (le_same (le_same (le_none (le_none (le_none le_nil)))))))))) (fun d3 => (ce_lst cd_nil)) (ce_callP (cal_lacks W) (hr.mono (by decide)) hgd (ca_cons (rk := R.v) (fun _ => (ca_cons (rk := R.v) (fun _ => ca_nil) (ce_name (i := 1) (d := d2)))) (ce_name (i := 0) (d := d1)))) (pg_name sc_idle.nd rfl (by first | exact .inl rfl | exact .inr rfl)) (pg_name sc_idle.nd rfl (by first | exact .inl rfl | exact .inr rfl))) rfl)
abbrev s_with_words : Stmt := topS 16
theorem sc_with_words : FnScope ["books", "name", "words", "found", "book", "word"] ["books", "name", "words"] (defScope s_with_words) := ⟨rfl, rfl, rfl, by decide +kernel, rfl, by decide +kernel, by decide +kernel⟩
def m_with_words : Ar [true, true, true] → P (List D) := fun (d1, d2, d3, ()) =>
  (fun l4 => bnd (need (items d1)) fun l15 => bnd (forP (τ := List D) l15 l4 fun d8 t5 => bnd (need (some d8)) fun a7 => bnd (need (items d3)) fun l14 => bnd (nox (compL l14 [] fun d11 => bnd (need (some d11)) fun a10 => (if true = true then bnd (lift (callM [true, true, true] (m_turned) [.v a7, .v d2, .v a10])) fun d12 => pur (some d12) else pur none))) fun l13 => bnd (need (extF t5 (.list l13))) fun l9 => pur l9) fun t6 => pur t6) []
theorem cal_with_words (W : Wd w K mg) : Cal prog w K mg base "with_words" 3 ["books", "name", "words"] (spC K (S0) [true, true, true] (m_with_words) lv) :=
  cal_of (fun _ => lift .no) W.d_with_words sc_with_words rfl (.inl rfl) (fun f' cdv A outer s H G J E a hr hgd => by
    obtain ⟨d1, d2, d3, ⟨⟩⟩ := a; exact cs_eq (cs_setL (i := 3) (cc := fun l => .lst l) (fun l4 => (cs_forP (outl := fun t5 : List D => [some (.val d1), some (.val d2), some (.val d3), some (.own (.lst t5)), none, none]) (un := some) (outT := fun (t5 : List D) (a7 : D) => [some (.val d1), some (.val d2), some (.val d3), some (.own (.lst t5)), some (.val a7), none]) (sl := [4]) (l4 : List D) (fun t6 => (cs_retL (i := 3) (xs := t6) rfl)) (fun a7 t5 => (cs_extend 3 (xs := t5) rfl (fun l9 => (cs_nil (a := l9) (show LeE [some (.val d1), some (.val d2), some (.val d3), some (.own (.lst l9)), none, none] [some (.val d1), some (.val d2), some (.val d3), some (.own (.lst l9)), some (.val a7), none] from (le_same (le_same (le_same (le_same (le_none (le_none le_nil))))))))) (ce_show (ce_comp (un := some) (outT := fun a10 : D => [some (.val d1), some (.val d2), some (.val d3), some (.own (.lst t5)), some (.val a7), some (.val a10)]) (sl := [5]) (own := [("word", 5)]) (fun _ _ _ _ _ a10 => (ce_callP (cal_turned W) (hr.mono (by decide)) hgd (ca_cons (rk := R.v) (fun _ => (ca_cons (rk := R.v) (fun _ => (ca_cons (rk := R.v) (fun _ => ca_nil) (ce_name (i := 5) (d := a10)))) (ce_name (i := 1) (d := d2)))) (ce_name (i := 4) (d := a7))))) (fun _ _ _ _ _ a10 => cts_nil) (fun _ _ _ _ _ => (cg_name 5 (pg_name sc_with_words.nd rfl (by first | exact .inl rfl | exact .inr rfl)))) (ci_seq (ce_name (i := 2) (d := d3))) sc_with_words.nd (by exact ⟨rfl, of_decide_eq_true (by kernel_rfl), of_decide_eq_true (by kernel_rfl), of_decide_eq_true (by kernel_rfl), of_decide_eq_true (by kernel_rfl)⟩))))) (fun t5 => (cg_name 4 (pg_name sc_with_words.nd rfl (by first | exact .inl rfl | exact .inr rfl)))) (ci_seq (ce_name (i := 0) (d := d1))) (show LeE [some (.val d1), some (.val d2), some (.val d3), some (.own (.lst l4)), none, none] [some (.val d1), some (.val d2), some (.val d3), some (.own (.lst l4)), none, none] from (le_same (le_same (le_same (le_same (le_none (le_none le_nil))))))))) (ce_lst cd_nil) sc_with_words.nd) rfl)
abbrev s_candidates : Stmt := topS 17
theorem sc_candidates : FnScope ["book", "found", "name", "word", "words"] ["book"] (defScope s_candidates) := ⟨rfl, rfl, rfl, by decide +kernel, rfl, by decide +kernel, by decide +kernel⟩
def m_candidates : Ar [true] → P (D) := fun (d1, ()) =>
  (fun d2 => bnd (need (items (.tuple [(.tuple [(.str "note"), (.str "ahead")]), (.tuple [(.str "call"), (.str "kept")]), (.tuple [(.str "put"), (.str "first")]), (.tuple [(.str "comers"), (.str "free")])]))) fun l24 => bnd (forP (τ := D) l24 d2 fun d6 t3 => bnd (need ((unT (unC some (un1 some))) d6)) fun a5 => bnd (lift (callM [true, true, true] (m_with_words) [.v t3, .v a5.1, .v (.tuple [a5.2])])) fun l8 => (fun d7 => pur d7) (.list l8)) fun t4 => bnd (lift (m_entries ())) fun d22 => bnd (need (items d22)) fun l23 => bnd (forP (τ := D) l23 t4 fun d12 t9 => bnd (need ((unT (unC some (un1 some))) d12)) fun a11 => bnd (need (inF a11.1 (.tuple [(.str "many"), (.str "woken"), (.str "pass"), (.str "quits"), (.str "order")]))) fun b21 => (if b21 = true then bnd (need (items a11.2)) fun l19 => bnd (nox (compL l19 [] fun d16 => bnd (need (some d16)) fun a15 => bnd (need (neF a15 (.str "takes"))) fun b17 => (if b17 = true then pur (some a15) else pur none))) fun l18 => bnd (need (itemsF [(.list l18)])) fun l20 => bnd (lift (callM [true, true, true] (m_with_words) [.v t9, .v a11.1, .v (PyData.tuple l20)])) fun l14 => (fun d13 => pur d13) (.list l14) else pur t9)) fun t10 => pur t10) (.list [d1])
theorem cal_candidates (W : Wd w K mg) : Cal prog w K mg base "candidates" 4 ["book"] (spC K (S0) [true] (m_candidates) R.v) :=
  cal_of (fun _ => lift .no) W.d_candidates sc_candidates rfl (.inl rfl) (fun f' cdv A outer s H G J E a hr hgd => by
    obtain ⟨d1, ⟨⟩⟩ := a; exact cs_eq (cs_set (i := 1) (fun d2 => (cs_forP (outl := fun t3 : D => [some (.val d1), some (.val t3), none, none, none]) (un := (unT (unC some (un1 some)))) (outT := fun (t3 : D) (a5 : (D × D)) => [some (.val d1), some (.val t3), some (.val a5.1), some (.val a5.2), none]) (sl := [2, 3]) (d2 : D) (fun t4 => (cs_forP (outl := fun t9 : D => [some (.val d1), some (.val t9), none, none, none]) (un := (unT (unC some (un1 some)))) (outT := fun (t9 : D) (a11 : (D × D)) => [some (.val d1), some (.val t9), some (.val a11.1), none, some (.val a11.2)]) (sl := [2, 4]) (t4 : D) (fun t10 => (cs_ret (ce_name (i := 1) (d := t10)))) (fun a11 t9 => (cs_ifE (cs_set (i := 1) (fun d13 => (cs_nil (a := d13) (show LeE [some (.val d1), some (.val d13), none, none, none] [some (.val d1), some (.val d13), some (.val a11.1), none, some (.val a11.2)] from (le_same (le_same (le_none (le_none (le_none le_nil)))))))) (ce_show (ce_callP (cal_with_words W) (hr.mono (by decide)) hgd (ca_cons (rk := R.v) (fun _ => (ca_cons (rk := R.v) (fun _ => (ca_cons (rk := R.v) (fun _ => ca_nil) (ce_to PyData.tuple (ce_ty call_tuple_of pc_tuple W.b_tuple (by first | exact PySem.boot_tuple | exact PyProof.Rows.boot_tuple | exact L2.boot_tuple | decide +kernel) (cd_cons (fun _ => cd_nil) (ce_show (ce_comp (un := some) (outT := fun a15 : D => [some (.val d1), some (.val t9), some (.val a11.1), some (.val a15), some (.val a11.2)]) (sl := [3]) (own := [("word", 3)]) (fun _ _ _ _ _ a15 => (ce_name (i := 3) (d := a15))) (fun _ _ _ _ _ a15 => (cts_one (ct_cmp (op_neA (Room.u64 hr)) p2_ne (fun _ => ce_str) (ce_name (i := 3) (d := a15))))) (fun _ _ _ _ _ => (cg_name 3 (pg_name sc_candidates.nd rfl (by first | exact .inl rfl | exact .inr rfl)))) (ci_seq (ce_name (i := 4) (d := a11.2))) sc_candidates.nd (by exact ⟨rfl, of_decide_eq_true (by kernel_rfl), of_decide_eq_true (by kernel_rfl), of_decide_eq_true (by kernel_rfl), of_decide_eq_true (by kernel_rfl)⟩)))))))) (ce_name (i := 2) (d := a11.1)))) (ce_name (i := 1) (d := t9))))) sc_candidates.nd) (cs_nil (a := t9) (show LeE [some (.val d1), some (.val t9), none, none, none] [some (.val d1), some (.val t9), some (.val a11.1), none, some (.val a11.2)] from (le_same (le_same (le_none (le_none (le_none le_nil))))))) (ct_cmp (op_inA (Room.u65 hr)) p2_in (fun _ => (ce_tup (cd_cons (fun _ => (cd_cons (fun _ => (cd_cons (fun _ => (cd_cons (fun _ => (cd_cons (fun _ => cd_nil) ce_str)) ce_str)) ce_str)) ce_str)) ce_str))) (ce_name (i := 2) (d := a11.1))))) (fun t9 => (cg_tup (cgs_cons (cg_name 2 (pg_name sc_candidates.nd rfl (by first | exact .inl rfl | exact .inr rfl))) fun _ => (cgs_one (cg_name 4 (pg_name sc_candidates.nd rfl (by first | exact .inl rfl | exact .inr rfl))))))) (ci_seq (ce_callP0 (cal_entries W) (hr.mono (by decide)) hgd)) (show LeE [some (.val d1), some (.val t4), none, none, none] [some (.val d1), some (.val t4), none, none, none] from (le_same (le_same (le_none (le_none (le_none le_nil)))))))) (fun a5 t3 => (cs_set (i := 1) (fun d7 => (cs_nil (a := d7) (show LeE [some (.val d1), some (.val d7), none, none, none] [some (.val d1), some (.val d7), some (.val a5.1), some (.val a5.2), none] from (le_same (le_same (le_none (le_none (le_none le_nil)))))))) (ce_show (ce_callP (cal_with_words W) (hr.mono (by decide)) hgd (ca_cons (rk := R.v) (fun _ => (ca_cons (rk := R.v) (fun _ => (ca_cons (rk := R.v) (fun _ => ca_nil) (ce_tup (cd_cons (fun _ => cd_nil) (ce_name (i := 3) (d := a5.2)))))) (ce_name (i := 2) (d := a5.1)))) (ce_name (i := 1) (d := t3))))) sc_candidates.nd)) (fun t3 => (cg_tup (cgs_cons (cg_name 2 (pg_name sc_candidates.nd rfl (by first | exact .inl rfl | exact .inr rfl))) fun _ => (cgs_one (cg_name 3 (pg_name sc_candidates.nd rfl (by first | exact .inl rfl | exact .inr rfl))))))) (ci_seq (ce_tup (cd_cons (fun _ => (cd_cons (fun _ => (cd_cons (fun _ => (cd_cons (fun _ => cd_nil) (ce_tup (cd_cons (fun _ => (cd_cons (fun _ => cd_nil) ce_str)) ce_str)))) (ce_tup (cd_cons (fun _ => (cd_cons (fun _ => cd_nil) ce_str)) ce_str)))) (ce_tup (cd_cons (fun _ => (cd_cons (fun _ => cd_nil) ce_str)) ce_str)))) (ce_tup (cd_cons (fun _ => (cd_cons (fun _ => cd_nil) ce_str)) ce_str))))) (show LeE [some (.val d1), some (.val d2), none, none, none] [some (.val d1), some (.val d2), none, none, none] from (le_same (le_same (le_none (le_none (le_none le_nil)))))))) (ce_show (ce_lst (cd_cons (fun _ => cd_nil) (ce_name (i := 0) (d := d1))))) sc_candidates.nd) rfl)
abbrev s_mended : Stmt := topS 19
theorem sc_mended : FnScope ["book", "sort", "other", "least", "nearest", "turns", "own", "word"] ["book", "sort"] (defScope s_mended) := ⟨rfl, rfl, rfl, by decide +kernel, rfl, by decide +kernel, by decide +kernel⟩
def m_mended : Ar [true, true] → P (D) := fun (d1, d2, ()) =>
  bnd (need (lenF [d1])) fun i4 => bnd (need (addF (PyData.int i4) (.int 1))) fun d5 => (fun d3 => (fun d6 => bnd (lift (callM [true] (m_candidates) [.v d1])) fun d22 => bnd (need (items d22)) fun l23 => bnd (forP (τ := D × D) l23 (d3, d6) fun d10 t7 => bnd (need (some d10)) fun a9 => bnd (lift (callM [true, true] (m_is_good) [.v a9, .v d2])) fun b21 => (if b21 = true then bnd (need (zipF [d1, a9])) fun l16 => bnd (nox (compL l16 [] fun d13 => bnd (need ((unT (unC some (un1 some))) d13)) fun a12 => bnd (need (neF a12.1 a12.2)) fun b14 => (if b14 = true then pur (some (.int 1)) else pur none))) fun l15 => bnd (need (lenF [(.list l15)])) fun i17 => (fun d11 => bnd (need (ltF d11 t7.1)) fun b20 => (if b20 = true then (fun d18 => (fun d19 => pur (d18, d19)) a9) d11 else pur (t7.1, t7.2))) (PyData.int i17) else pur (t7.1, t7.2))) fun t8 => pur (.tuple [t8.1, t8.2])) d1) d5
theorem cal_mended (W : Wd w K mg) : Cal prog w K mg base "mended" 6 ["book", "sort"] (spC K (S0) [true, true] (m_mended) R.v) :=
  cal_of (fun _ => lift .no) W.d_mended sc_mended rfl (.inl rfl) (fun f' cdv A outer s H G J E a hr hgd => by
    obtain ⟨d1, d2, ⟨⟩⟩ := a; exact cs_eq (cs_par (i := 3) (j := 4) (r1 := R.v) (r2 := R.v) (fun d3 d6 => (cs_forP (outl := fun t7 : D × D => [some (.val d1), some (.val d2), none, some (.val t7.1), some (.val t7.2), none, none, none]) (un := some) (outT := fun (t7 : D × D) (a9 : D) => [some (.val d1), some (.val d2), some (.val a9), some (.val t7.1), some (.val t7.2), none, none, none]) (sl := [2]) ((d3, d6) : D × D) (fun t8 => (cs_ret (ce_tup (cd_cons (fun _ => (cd_cons (fun _ => cd_nil) (ce_name (i := 4) (d := t8.2)))) (ce_name (i := 3) (d := t8.1)))))) (fun a9 t7 => (cs_ifE (cs_set (i := 5) (fun d11 => (cs_ifE (cs_par (i := 3) (j := 4) (r1 := R.v) (r2 := R.v) (fun d18 d19 => (cs_nil (a := (d18, d19)) (show LeE [some (.val d1), some (.val d2), none, some (.val d18), some (.val d19), none, none, none] [some (.val d1), some (.val d2), some (.val a9), some (.val d18), some (.val d19), some (.val d11), none, none] from (le_same (le_same (le_none (le_same (le_same (le_none (le_none (le_none le_nil))))))))))) (fun _ => (ce_name (i := 2) (d := a9))) (ce_name (i := 5) (d := d11)) sc_mended.nd) (cs_nil (a := (t7.1, t7.2)) (show LeE [some (.val d1), some (.val d2), none, some (.val t7.1), some (.val t7.2), none, none, none] [some (.val d1), some (.val d2), some (.val a9), some (.val t7.1), some (.val t7.2), some (.val d11), none, none] from (le_same (le_same (le_none (le_same (le_same (le_none (le_none (le_none le_nil)))))))))) (ct_cmp op_lt (p2_cmpI _) (fun _ => (ce_name (i := 3) (d := t7.1))) (ce_name (i := 5) (d := d11))))) (ce_to PyData.int (ce_blt call_len pc_len W.b_len (by first | exact PySem.boot_len | exact PyProof.Rows.boot_len | exact L2.boot_len | decide +kernel) (cd_cons (fun _ => cd_nil) (ce_show (ce_comp (un := (unT (unC some (un1 some)))) (outT := fun a12 : (D × D) => [some (.val d1), some (.val d2), some (.val a9), some (.val t7.1), some (.val t7.2), none, some (.val a12.1), some (.val a12.2)]) (sl := [6, 7]) (own := [("own", 6), ("word", 7)]) (fun _ _ _ _ _ a12 => ce_int) (fun _ _ _ _ _ a12 => (cts_one (ct_cmp (op_neA (Room.u64 hr)) p2_ne (fun _ => (ce_name (i := 7) (d := a12.2))) (ce_name (i := 6) (d := a12.1))))) (fun _ _ _ _ _ => (cg_tup (cgs_cons (cg_name 6 (pg_name sc_mended.nd rfl (by first | exact .inl rfl | exact .inr rfl))) fun _ => (cgs_one (cg_name 7 (pg_name sc_mended.nd rfl (by first | exact .inl rfl | exact .inr rfl))))))) (ci_zip W.b_zip (cd_cons (fun _ => (cd_cons (fun _ => cd_nil) (ce_name (i := 2) (d := a9)))) (ce_name (i := 0) (d := d1)))) sc_mended.nd (by exact ⟨rfl, of_decide_eq_true (by kernel_rfl), of_decide_eq_true (by kernel_rfl), of_decide_eq_true (by kernel_rfl), of_decide_eq_true (by kernel_rfl)⟩)))))) sc_mended.nd) (cs_nil (a := (t7.1, t7.2)) (show LeE [some (.val d1), some (.val d2), none, some (.val t7.1), some (.val t7.2), none, none, none] [some (.val d1), some (.val d2), some (.val a9), some (.val t7.1), some (.val t7.2), none, none, none] from (le_same (le_same (le_none (le_same (le_same (le_none (le_none (le_none le_nil)))))))))) (ct_val (ce_callP (cal_is_good W) (hr.mono (by decide)) hgd (ca_cons (rk := R.v) (fun _ => (ca_cons (rk := R.v) (fun _ => ca_nil) (ce_name (i := 1) (d := d2)))) (ce_name (i := 2) (d := a9))))))) (fun t7 => (cg_name 2 (pg_name sc_mended.nd rfl (by first | exact .inl rfl | exact .inr rfl)))) (ci_seq (ce_callP (cal_candidates W) (hr.mono (by decide)) hgd (ca_cons (rk := R.v) (fun _ => ca_nil) (ce_name (i := 0) (d := d1))))) (show LeE [some (.val d1), some (.val d2), none, some (.val d3), some (.val d6), none, none, none] [some (.val d1), some (.val d2), none, some (.val d3), some (.val d6), none, none, none] from (le_same (le_same (le_none (le_same (le_same (le_none (le_none (le_none le_nil))))))))))) (fun _ => (ce_name (i := 0) (d := d1))) (ce_op op_addA p2_add (fun _ => ce_int) (ce_to PyData.int (ce_blt call_len pc_len W.b_len (by first | exact PySem.boot_len | exact PyProof.Rows.boot_len | exact L2.boot_len | decide +kernel) (cd_cons (fun _ => cd_nil) (ce_name (i := 0) (d := d1)))))) sc_mended.nd) rfl)
abbrev s__law_asked : Stmt := topS 31
theorem sc__law_asked : FnScope ["spot", "book", "sort", "is_named"] ["spot", "book", "sort", "is_named"] (defScope s__law_asked) := ⟨rfl, rfl, rfl, by decide +kernel, rfl, by decide +kernel, by decide +kernel⟩
def m__law_asked : Ar [true, true, true, true] → P (D) := fun (d1, d2, d3, d4, ()) =>
  bnd (need (eqF d1 (.int 0))) fun b23 => (if b23 = true then bnd (α := D) (bnd (need (asB d4)) fun b7 => (if b7 = true then bnd (lift (callM [true, true] m_lacks (pick (R.v .none) [1, 0] [.v d3, .v d2]))) fun d5 => pur d5 else bnd (lift (callM [true, true] (m_lacks) [.v d2, .v d3])) fun d6 => pur d6)) fun d8 => pur d8 else bnd (need (eqF d1 (.int 1))) fun b22 => (if b22 = true then bnd (α := Bool) (bnd (need (asB d4)) fun b11 => (if b11 = true then bnd (lift (callM [true, true] m_is_good (pick (R.v .none) [1, 0] [.v d3, .v d2]))) fun b9 => pur b9 else bnd (lift (callM [true, true] (m_is_good) [.v d2, .v d3])) fun b10 => pur b10)) fun d12 => pur (.bool d12) else bnd (need (eqF d1 (.int 2))) fun b21 => (if b21 = true then bnd (α := D) (bnd (need (asB d4)) fun b15 => (if b15 = true then bnd (lift (callM [true, true] m_idle (pick (R.v .none) [1, 0] [.v d3, .v d2]))) fun d13 => pur d13 else bnd (lift (callM [true, true] (m_idle) [.v d2, .v d3])) fun d14 => pur d14)) fun d16 => pur d16 else bnd (α := D) (bnd (need (asB d4)) fun b19 => (if b19 = true then bnd (lift (callM [true, true] m_mended (pick (R.v .none) [1, 0] [.v d3, .v d2]))) fun d17 => pur d17 else bnd (lift (callM [true, true] (m_mended) [.v d2, .v d3])) fun d18 => pur d18)) fun d20 => pur d20)))
theorem cal__law_asked (W : Wd w K mg) : Cal prog w K mg base "_law_asked" 7 ["spot", "book", "sort", "is_named"] (spC K (S0) [true, true, true, true] (m__law_asked) R.v) :=
  cal_of (fun _ => lift .no) W.d__law_asked sc__law_asked rfl (.inl rfl) (fun f' cdv A outer s H G J E a hr hgd => by
    obtain ⟨d1, d2, d3, d4, ⟨⟩⟩ := a; exact cs_eq (cs_ifT (fun _ => (cs_ret (ce_bnd (ce_if (ce_callPK0 (cal_lacks W) W.kw_lacks_0_sort_book (hr.mono (by decide)) hgd (ck_cons (rk := R.v) (fun _ => (ck_cons (rk := R.v) (fun _ => ck_nil) (ce_name (i := 1) (d := d2)))) (ce_name (i := 2) (d := d3)))) (ce_callP (cal_lacks W) (hr.mono (by decide)) hgd (ca_cons (rk := R.v) (fun _ => (ca_cons (rk := R.v) (fun _ => ca_nil) (ce_name (i := 2) (d := d3)))) (ce_name (i := 1) (d := d2)))) (ct_val (ce_asB (ce_name (i := 3) (d := d4)))))))) (cs_ifT (fun _ => (cs_ret (ce_bd (ce_bnd (ce_if (ce_callPK0 (cal_is_good W) W.kw_is_good_0_sort_book (hr.mono (by decide)) hgd (ck_cons (rk := R.v) (fun _ => (ck_cons (rk := R.v) (fun _ => ck_nil) (ce_name (i := 1) (d := d2)))) (ce_name (i := 2) (d := d3)))) (ce_callP (cal_is_good W) (hr.mono (by decide)) hgd (ca_cons (rk := R.v) (fun _ => (ca_cons (rk := R.v) (fun _ => ca_nil) (ce_name (i := 2) (d := d3)))) (ce_name (i := 1) (d := d2)))) (ct_val (ce_asB (ce_name (i := 3) (d := d4))))))))) (cs_ifT (fun _ => (cs_ret (ce_bnd (ce_if (ce_callPK0 (cal_idle W) W.kw_idle_0_sort_book (hr.mono (by decide)) hgd (ck_cons (rk := R.v) (fun _ => (ck_cons (rk := R.v) (fun _ => ck_nil) (ce_name (i := 1) (d := d2)))) (ce_name (i := 2) (d := d3)))) (ce_callP (cal_idle W) (hr.mono (by decide)) hgd (ca_cons (rk := R.v) (fun _ => (ca_cons (rk := R.v) (fun _ => ca_nil) (ce_name (i := 2) (d := d3)))) (ce_name (i := 1) (d := d2)))) (ct_val (ce_asB (ce_name (i := 3) (d := d4)))))))) (cs_ret (ce_bnd (ce_if (ce_callPK0 (cal_mended W) W.kw_mended_0_sort_book (hr.mono (by decide)) hgd (ck_cons (rk := R.v) (fun _ => (ck_cons (rk := R.v) (fun _ => ck_nil) (ce_name (i := 1) (d := d2)))) (ce_name (i := 2) (d := d3)))) (ce_callP (cal_mended W) (hr.mono (by decide)) hgd (ca_cons (rk := R.v) (fun _ => (ca_cons (rk := R.v) (fun _ => ca_nil) (ce_name (i := 2) (d := d3)))) (ce_name (i := 1) (d := d2)))) (ct_val (ce_asB (ce_name (i := 3) (d := d4))))))) (ct_cmp (op_eqA (Room.u64 hr)) p2_eq (fun _ => ce_int) (ce_name (i := 0) (d := d1)))) (ct_cmp (op_eqA (Room.u64 hr)) p2_eq (fun _ => ce_int) (ce_name (i := 0) (d := d1)))) (ct_cmp (op_eqA (Room.u64 hr)) p2_eq (fun _ => ce_int) (ce_name (i := 0) (d := d1)))) rfl)
abbrev s_law : Stmt := topS 32
theorem sc_law : FnScope ["script", "bag", "turn", "kept", "calls", "told", "seldom", "sort", "book", "spot", "answer", "text", "is_named"] ["script"] (defScope s_law) := ⟨rfl, rfl, rfl, by decide +kernel, rfl, by decide +kernel, by decide +kernel⟩
def m_law (sc : Addr) (ns : List Int) : Ar [false] → M GH (Bool) := fun (a1, ()) =>
  bnd (nox (callM [false] (m__law_bag sc ns) [.o a1])) fun a2 => (fun l3 => (fun l4 => bnd (nox (callM [false, true] (m__law_draw) [.o a2, .v (.int 8)])) fun d6 => (fun d5 => bnd (need (rng1 [(.int 2)])) fun l65 => bnd (forP (τ := List D) l65 l3 fun d10 t7 => bnd (need (some d10)) fun a9 => bnd (nox (callM [false] (m__law_sort) [.o a2])) fun d12 => (fun d11 => bnd (nox (callM [false, true] (m__law_book) [.o a2, .v d11])) fun d14 => (fun d13 => bnd (need (rng1 [(.int 3)])) fun l26 => bnd (forP (τ := List D) l26 t7 fun d18 t15 => bnd (need (some d18)) fun a17 => bnd (need (appF t15 (.tuple [a17, d13, d11]))) fun l19 => pur l19) fun t16 => bnd (bnd (need (eqF d5 (.int 0))) fun b24 => (if b24 = true then bnd (need (eqF a9 (.int 0))) fun b23 => pur b23 else pur false)) fun b25 => (if b25 = true then bnd (nox (callM [false, true] (m__law_right) [.o a2, .v d11])) fun d22 => bnd (lift (callM [true, true, true] (m__law_with) [.v d22, .v (.int 0), .v (.str "behind")])) fun d21 => (fun l20 => pur l20) [(.tuple [(.int 3), d21, d11])] else pur t16)) d14) d12) fun t8 => bnd (need (reprF [(.list t8)])) fun s28 => bnd (need (flO (PyData.str s28))) fun _ => (fun d27 => bnd (nox (callM [false, true] (m__law_mixed) [.o a2, .v (.list t8)])) fun l63 => bnd (need (flL l63)) fun _ => bnd (need (items (.list l63))) fun l64 => bnd (forP (τ := List D) l64 l4 fun d32 t29 => bnd (need ((unT (unC some (unC some (un1 some)))) d32)) fun a31 => bnd (nox (callM [false, true] (m__law_draw) [.o a2, .v (.int 2)])) fun d35 => bnd (need (eqF d35 (.int 0))) fun b36 => bnd (lift (callM [true, true, true, true] (m__law_asked) [.v a31.1, .v a31.2.1, .v a31.2.2, .v (.bool b36)])) fun d34 => (fun d33 => bnd (need (reprF [d33])) fun s38 => bnd (need (appF t29 (.tuple [a31.1, a31.2.1, a31.2.2, d33, (PyData.str s38)]))) fun l37 => pur l37) d34) fun t30 => bnd (nox (callM [false, true] (m__law_mixed) [.o a2, .v (.list t30)])) fun l61 => bnd (need (flL l61)) fun _ => bnd (need (items (.list l61))) fun l62 => bnd (forL (δ := Bool) (τ := Unit) l62 () fun d42 t39 => bnd (need ((unT (unC some (unC some (unC some (unC some (un1 some)))))) d42)) fun a41 => bnd (need (items (.tuple [(.bool true), (.bool false)]))) fun l57 => bnd (forL (δ := Bool) (τ := Unit) l57 () fun d46 t43 => bnd (need (some d46)) fun a45 => bnd (bnd (bnd (need (ltF a41.1 (.int 3))) fun b53 => (if b53 = true then pur true else bnd (need (asB a45)) fun b52 => pur b52)) fun b54 => (if b54 = true then bnd (lift (callM [true, true, true, true] (m__law_asked) [.v a41.1, .v a41.2.1, .v a41.2.2.1, .v a45])) fun d49 => bnd (need (reprF [d49])) fun s50 => bnd (need (neF (PyData.str s50) a41.2.2.2.2)) fun b51 => pur b51 else pur false)) fun b55 => (if b55 = true then pur (.rt false) else bnd (need (reprF [a41.2.2.2.1])) fun s47 => bnd (need (neF (PyData.str s47) a41.2.2.2.2)) fun b48 => (if b48 = true then pur (.rt false) else pur (.nx ())))) (lpK (fun t44 => pur (.nx ())) fun r56 => pur (.rt r56))) (lpK (fun t40 => bnd (need (reprF [(.list t8)])) fun s58 => bnd (need (eqF (PyData.str s58) d27)) fun b59 => pur b59) fun r60 => pur r60)) (PyData.str s28)) d6) []) []
theorem cal_law (W : Wd w K mg) (sc : Addr) (ns : List Int) : Cal prog w K mg base "law" 8 ["script"] (spC K (SR K sc ns) [false] (m_law sc ns) bv) :=
  cal_of (fun _ => lift .no) W.d_law sc_law rfl (.inl rfl) (fun f' cdv A outer s H G J E a hr hgd => by
    obtain ⟨a1, ⟨⟩⟩ := a; exact cs_eq (cs_setO (i := 1) (fun a2 => (cs_par3 (i := 4) (j := 5) (l := 6) (r1 := lv) (r2 := lv) (r3 := R.v) (fun l3 l4 d5 => (cs_forP (outl := fun t7 : List D => [some (.obj a1), some (.obj a2), none, none, some (.own (.lst t7)), some (.own (.lst l4)), some (.val d5), none, none, none, none, none, none]) (un := some) (outT := fun (t7 : List D) (a9 : D) => [some (.obj a1), some (.obj a2), some (.val a9), none, some (.own (.lst t7)), some (.own (.lst l4)), some (.val d5), none, none, none, none, none, none]) (sl := [2]) (l3 : List D) (fun t8 => (cs_set (i := 3) (fun d27 => (cs_forP (outl := fun t29 : List D => [some (.obj a1), some (.obj a2), none, some (.val d27), some (.own (.lst t8)), some (.own (.lst t29)), some (.val d5), none, none, none, none, none, none]) (un := (unT (unC some (unC some (un1 some))))) (outT := fun (t29 : List D) (a31 : (D × D × D)) => [some (.obj a1), some (.obj a2), none, some (.val d27), some (.own (.lst t8)), some (.own (.lst t29)), some (.val d5), some (.val a31.2.2), some (.val a31.2.1), some (.val a31.1), none, none, none]) (sl := [9, 8, 7]) (l4 : List D) (fun t30 => (cs_for (outl := fun t39 : Unit => [some (.obj a1), some (.obj a2), none, some (.val d27), some (.own (.lst t8)), some (.own (.lst t30)), some (.val d5), none, none, none, none, none, none]) (un := (unT (unC some (unC some (unC some (unC some (un1 some))))))) (outT := fun (t39 : Unit) (a41 : (D × D × D × D × D)) => [some (.obj a1), some (.obj a2), none, some (.val d27), some (.own (.lst t8)), some (.own (.lst t30)), some (.val d5), some (.val a41.2.2.1), some (.val a41.2.1), some (.val a41.1), some (.val a41.2.2.2.1), some (.val a41.2.2.2.2), none]) (sl := [9, 8, 7, 10, 11]) (() : Unit) (fun t40 => (cs_show 4 (c := .lst t8) rfl (cs_ret (ce_cmp (op_eqA (Room.u64 hr)) p2_eq (fun _ => (ce_name (i := 3) (d := d27))) (ce_to PyData.str (ce_blt (call_repr hgd (Room.u65 hr)) pc_repr W.b_repr (by first | exact PySem.boot_repr | exact PyProof.Rows.boot_repr | exact L2.boot_repr | decide +kernel) (cd_cons (fun _ => cd_nil) (ce_name (i := 4) (d := (.list t8)))))))))) (fun a41 t39 => (cs_for (outl := fun t43 : Unit => [some (.obj a1), some (.obj a2), none, some (.val d27), some (.own (.lst t8)), some (.own (.lst t30)), some (.val d5), some (.val a41.2.2.1), some (.val a41.2.1), some (.val a41.1), some (.val a41.2.2.2.1), some (.val a41.2.2.2.2), none]) (un := some) (outT := fun (t43 : Unit) (a45 : D) => [some (.obj a1), some (.obj a2), none, some (.val d27), some (.own (.lst t8)), some (.own (.lst t30)), some (.val d5), some (.val a41.2.2.1), some (.val a41.2.1), some (.val a41.1), some (.val a41.2.2.2.1), some (.val a41.2.2.2.2), some (.val a45)]) (sl := [12]) (() : Unit) (fun t44 => (cs_nil (a := ()) (show LeE [some (.obj a1), some (.obj a2), none, some (.val d27), some (.own (.lst t8)), some (.own (.lst t30)), some (.val d5), none, none, none, none, none, none] [some (.obj a1), some (.obj a2), none, some (.val d27), some (.own (.lst t8)), some (.own (.lst t30)), some (.val d5), some (.val a41.2.2.1), some (.val a41.2.1), some (.val a41.1), some (.val a41.2.2.2.1), some (.val a41.2.2.2.2), none] from (le_same (le_same (le_none (le_same (le_same (le_same (le_same (le_none (le_none (le_none (le_none (le_none (le_none le_nil)))))))))))))))) (fun a45 t43 => (cs_ifT (fun _ => (cs_ret ce_boolB)) (cs_ifT (fun _ => (cs_ret ce_boolB)) (cs_nil (a := ()) (show LeE [some (.obj a1), some (.obj a2), none, some (.val d27), some (.own (.lst t8)), some (.own (.lst t30)), some (.val d5), some (.val a41.2.2.1), some (.val a41.2.1), some (.val a41.1), some (.val a41.2.2.2.1), some (.val a41.2.2.2.2), none] [some (.obj a1), some (.obj a2), none, some (.val d27), some (.own (.lst t8)), some (.own (.lst t30)), some (.val d5), some (.val a41.2.2.1), some (.val a41.2.1), some (.val a41.1), some (.val a41.2.2.2.1), some (.val a41.2.2.2.2), some (.val a45)] from (le_same (le_same (le_none (le_same (le_same (le_same (le_same (le_same (le_same (le_same (le_same (le_same (le_none le_nil))))))))))))))) (ct_cmp (op_neA (Room.u64 hr)) p2_ne (fun _ => (ce_name (i := 11) (d := a41.2.2.2.2))) (ce_to PyData.str (ce_blt (call_repr hgd (Room.u65 hr)) pc_repr W.b_repr (by first | exact PySem.boot_repr | exact PyProof.Rows.boot_repr | exact L2.boot_repr | decide +kernel) (cd_cons (fun _ => cd_nil) (ce_name (i := 10) (d := a41.2.2.2.1))))))) (ct_bnd (ct_w (cw_and (cw_and1 (ct_cmp (op_neA (Room.u64 hr)) p2_ne (fun _ => (ce_name (i := 11) (d := a41.2.2.2.2))) (ce_to PyData.str (ce_blt (call_repr hgd (Room.u65 hr)) pc_repr W.b_repr (by first | exact PySem.boot_repr | exact PyProof.Rows.boot_repr | exact L2.boot_repr | decide +kernel) (cd_cons (fun _ => cd_nil) (ce_callP (cal__law_asked W) (hr.mono (by decide)) hgd (ca_cons (rk := R.v) (fun _ => (ca_cons (rk := R.v) (fun _ => (ca_cons (rk := R.v) (fun _ => (ca_cons (rk := R.v) (fun _ => ca_nil) (ce_name (i := 12) (d := a45)))) (ce_name (i := 7) (d := a41.2.2.1)))) (ce_name (i := 8) (d := a41.2.1)))) (ce_name (i := 9) (d := a41.1))))))))) (ct_bnd (ct_w (cw_or (cw_or1 (ct_val (ce_asB (ce_name (i := 12) (d := a45))))) (ct_cmp op_lt (p2_cmpI _) (fun _ => ce_int) (ce_name (i := 9) (d := a41.1))))))))))) (fun t43 => (cg_name 12 (pg_name sc_law.nd rfl (by first | exact .inl rfl | exact .inr rfl)))) (ci_seq (ce_tup (cd_cons (fun _ => (cd_cons (fun _ => cd_nil) (ce_bd ce_boolB))) (ce_bd ce_boolB)))) (show LeE [some (.obj a1), some (.obj a2), none, some (.val d27), some (.own (.lst t8)), some (.own (.lst t30)), some (.val d5), some (.val a41.2.2.1), some (.val a41.2.1), some (.val a41.1), some (.val a41.2.2.2.1), some (.val a41.2.2.2.2), none] [some (.obj a1), some (.obj a2), none, some (.val d27), some (.own (.lst t8)), some (.own (.lst t30)), some (.val d5), some (.val a41.2.2.1), some (.val a41.2.1), some (.val a41.1), some (.val a41.2.2.2.1), some (.val a41.2.2.2.2), none] from (le_same (le_same (le_none (le_same (le_same (le_same (le_same (le_same (le_same (le_same (le_same (le_same (le_none le_nil)))))))))))))))) (fun t39 => (cg_tup (cgs_cons (cg_name 9 (pg_name sc_law.nd rfl (by first | exact .inl rfl | exact .inr rfl))) fun _ => (cgs_cons (cg_name 8 (pg_name sc_law.nd rfl (by first | exact .inl rfl | exact .inr rfl))) fun _ => (cgs_cons (cg_name 7 (pg_name sc_law.nd rfl (by first | exact .inl rfl | exact .inr rfl))) fun _ => (cgs_cons (cg_name 10 (pg_name sc_law.nd rfl (by first | exact .inl rfl | exact .inr rfl))) fun _ => (cgs_one (cg_name 11 (pg_name sc_law.nd rfl (by first | exact .inl rfl | exact .inr rfl)))))))))) (ci_seq (ce_show (ce_borrowL 5 rfl (ce_callM (cal__law_mixed W sc ns) (hr.mono (by decide)) hgd (ca_cons (rk := R.o) (fun _ => (ca_cons (rk := R.v) (fun _ => ca_nil) (ce_name (i := 5) (d := (.list t30))))) (ce_obj (i := 1) (a := a2))))))) (show LeE [some (.obj a1), some (.obj a2), none, some (.val d27), some (.own (.lst t8)), some (.own (.lst t30)), some (.val d5), none, none, none, none, none, none] [some (.obj a1), some (.obj a2), none, some (.val d27), some (.own (.lst t8)), some (.own (.lst t30)), some (.val d5), none, none, none, none, none, none] from (le_same (le_same (le_none (le_same (le_same (le_same (le_same (le_none (le_none (le_none (le_none (le_none (le_none le_nil)))))))))))))))) (fun a31 t29 => (cs_set (i := 10) (fun d33 => (cs_append 5 (xs := t29) rfl (fun l37 => (cs_nil (a := l37) (show LeE [some (.obj a1), some (.obj a2), none, some (.val d27), some (.own (.lst t8)), some (.own (.lst l37)), some (.val d5), none, none, none, none, none, none] [some (.obj a1), some (.obj a2), none, some (.val d27), some (.own (.lst t8)), some (.own (.lst l37)), some (.val d5), some (.val a31.2.2), some (.val a31.2.1), some (.val a31.1), some (.val d33), none, none] from (le_same (le_same (le_none (le_same (le_same (le_same (le_same (le_none (le_none (le_none (le_none (le_none (le_none le_nil)))))))))))))))) (ce_tup (cd_cons (fun _ => (cd_cons (fun _ => (cd_cons (fun _ => (cd_cons (fun _ => (cd_cons (fun _ => cd_nil) (ce_to PyData.str (ce_blt (call_repr hgd (Room.u65 hr)) pc_repr W.b_repr (by first | exact PySem.boot_repr | exact PyProof.Rows.boot_repr | exact L2.boot_repr | decide +kernel) (cd_cons (fun _ => cd_nil) (ce_name (i := 10) (d := d33))))))) (ce_name (i := 10) (d := d33)))) (ce_name (i := 7) (d := a31.2.2)))) (ce_name (i := 8) (d := a31.2.1)))) (ce_name (i := 9) (d := a31.1)))))) (ce_callP (cal__law_asked W) (hr.mono (by decide)) hgd (ca_cons (rk := R.v) (fun _ => (ca_cons (rk := R.v) (fun _ => (ca_cons (rk := R.v) (fun _ => (ca_cons (rk := R.v) (fun _ => ca_nil) (ce_bd (ce_cmp (op_eqA (Room.u64 hr)) p2_eq (fun _ => ce_int) (ce_callM (cal__law_draw W sc ns) (hr.mono (by decide)) hgd (ca_cons (rk := R.o) (fun _ => (ca_cons (rk := R.v) (fun _ => ca_nil) ce_int)) (ce_obj (i := 1) (a := a2)))))))) (ce_name (i := 7) (d := a31.2.2)))) (ce_name (i := 8) (d := a31.2.1)))) (ce_name (i := 9) (d := a31.1)))) sc_law.nd)) (fun t29 => (cg_tup (cgs_cons (cg_name 9 (pg_name sc_law.nd rfl (by first | exact .inl rfl | exact .inr rfl))) fun _ => (cgs_cons (cg_name 8 (pg_name sc_law.nd rfl (by first | exact .inl rfl | exact .inr rfl))) fun _ => (cgs_one (cg_name 7 (pg_name sc_law.nd rfl (by first | exact .inl rfl | exact .inr rfl)))))))) (ci_seq (ce_show (ce_borrowL 4 rfl (ce_callM (cal__law_mixed W sc ns) (hr.mono (by decide)) hgd (ca_cons (rk := R.o) (fun _ => (ca_cons (rk := R.v) (fun _ => ca_nil) (ce_name (i := 4) (d := (.list t8))))) (ce_obj (i := 1) (a := a2))))))) (show LeE [some (.obj a1), some (.obj a2), none, some (.val d27), some (.own (.lst t8)), some (.own (.lst l4)), some (.val d5), none, none, none, none, none, none] [some (.obj a1), some (.obj a2), none, some (.val d27), some (.own (.lst t8)), some (.own (.lst l4)), some (.val d5), none, none, none, none, none, none] from (le_same (le_same (le_none (le_same (le_same (le_same (le_same (le_none (le_none (le_none (le_none (le_none (le_none le_nil)))))))))))))))) (ce_borrow 4 rfl (ce_to PyData.str (ce_blt (call_repr hgd (Room.u65 hr)) pc_repr W.b_repr (by first | exact PySem.boot_repr | exact PyProof.Rows.boot_repr | exact L2.boot_repr | decide +kernel) (cd_cons (fun _ => cd_nil) (ce_name (i := 4) (d := (.list t8))))))) sc_law.nd)) (fun a9 t7 => (cs_set (i := 7) (fun d11 => (cs_set (i := 8) (fun d13 => (cs_forP (outl := fun t15 : List D => [some (.obj a1), some (.obj a2), some (.val a9), none, some (.own (.lst t15)), some (.own (.lst l4)), some (.val d5), some (.val d11), some (.val d13), none, none, none, none]) (un := some) (outT := fun (t15 : List D) (a17 : D) => [some (.obj a1), some (.obj a2), some (.val a9), none, some (.own (.lst t15)), some (.own (.lst l4)), some (.val d5), some (.val d11), some (.val d13), some (.val a17), none, none, none]) (sl := [9]) (t7 : List D) (fun t16 => (cs_ifE (cs_setL (i := 4) (cc := fun l => .lst l) (fun l20 => (cs_nil (a := l20) (show LeE [some (.obj a1), some (.obj a2), none, none, some (.own (.lst l20)), some (.own (.lst l4)), some (.val d5), none, none, none, none, none, none] [some (.obj a1), some (.obj a2), some (.val a9), none, some (.own (.lst l20)), some (.own (.lst l4)), some (.val d5), some (.val d11), some (.val d13), none, none, none, none] from (le_same (le_same (le_none (le_none (le_same (le_same (le_same (le_none (le_none (le_none (le_none (le_none (le_none le_nil)))))))))))))))) (ce_lst (cd_cons (fun _ => cd_nil) (ce_tup (cd_cons (fun _ => (cd_cons (fun _ => (cd_cons (fun _ => cd_nil) (ce_name (i := 7) (d := d11)))) (ce_callP (cal__law_with W) (hr.mono (by decide)) hgd (ca_cons (rk := R.v) (fun _ => (ca_cons (rk := R.v) (fun _ => (ca_cons (rk := R.v) (fun _ => ca_nil) ce_str)) ce_int)) (ce_callM (cal__law_right W sc ns) (hr.mono (by decide)) hgd (ca_cons (rk := R.o) (fun _ => (ca_cons (rk := R.v) (fun _ => ca_nil) (ce_name (i := 7) (d := d11)))) (ce_obj (i := 1) (a := a2)))))))) ce_int)))) sc_law.nd) (cs_nil (a := t16) (show LeE [some (.obj a1), some (.obj a2), none, none, some (.own (.lst t16)), some (.own (.lst l4)), some (.val d5), none, none, none, none, none, none] [some (.obj a1), some (.obj a2), some (.val a9), none, some (.own (.lst t16)), some (.own (.lst l4)), some (.val d5), some (.val d11), some (.val d13), none, none, none, none] from (le_same (le_same (le_none (le_none (le_same (le_same (le_same (le_none (le_none (le_none (le_none (le_none (le_none le_nil))))))))))))))) (ct_bnd (ct_w (cw_and (cw_and1 (ct_cmp (op_eqA (Room.u64 hr)) p2_eq (fun _ => ce_int) (ce_name (i := 2) (d := a9)))) (ct_cmp (op_eqA (Room.u64 hr)) p2_eq (fun _ => ce_int) (ce_name (i := 6) (d := d5)))))))) (fun a17 t15 => (cs_append 4 (xs := t15) rfl (fun l19 => (cs_nil (a := l19) (show LeE [some (.obj a1), some (.obj a2), some (.val a9), none, some (.own (.lst l19)), some (.own (.lst l4)), some (.val d5), some (.val d11), some (.val d13), none, none, none, none] [some (.obj a1), some (.obj a2), some (.val a9), none, some (.own (.lst l19)), some (.own (.lst l4)), some (.val d5), some (.val d11), some (.val d13), some (.val a17), none, none, none] from (le_same (le_same (le_same (le_none (le_same (le_same (le_same (le_same (le_same (le_none (le_none (le_none (le_none le_nil)))))))))))))))) (ce_tup (cd_cons (fun _ => (cd_cons (fun _ => (cd_cons (fun _ => cd_nil) (ce_name (i := 7) (d := d11)))) (ce_name (i := 8) (d := d13)))) (ce_name (i := 9) (d := a17)))))) (fun t15 => (cg_name 9 (pg_name sc_law.nd rfl (by first | exact .inl rfl | exact .inr rfl)))) (ci_range1 W.b_range (cd_cons (fun _ => cd_nil) ce_int)) (show LeE [some (.obj a1), some (.obj a2), some (.val a9), none, some (.own (.lst t7)), some (.own (.lst l4)), some (.val d5), some (.val d11), some (.val d13), none, none, none, none] [some (.obj a1), some (.obj a2), some (.val a9), none, some (.own (.lst t7)), some (.own (.lst l4)), some (.val d5), some (.val d11), some (.val d13), none, none, none, none] from (le_same (le_same (le_same (le_none (le_same (le_same (le_same (le_same (le_same (le_none (le_none (le_none (le_none le_nil)))))))))))))))) (ce_callM (cal__law_book W sc ns) (hr.mono (by decide)) hgd (ca_cons (rk := R.o) (fun _ => (ca_cons (rk := R.v) (fun _ => ca_nil) (ce_name (i := 7) (d := d11)))) (ce_obj (i := 1) (a := a2)))) sc_law.nd)) (ce_callM (cal__law_sort W sc ns) (hr.mono (by decide)) hgd (ca_cons (rk := R.o) (fun _ => ca_nil) (ce_obj (i := 1) (a := a2)))) sc_law.nd)) (fun t7 => (cg_name 2 (pg_name sc_law.nd rfl (by first | exact .inl rfl | exact .inr rfl)))) (ci_range1 W.b_range (cd_cons (fun _ => cd_nil) ce_int)) (show LeE [some (.obj a1), some (.obj a2), none, none, some (.own (.lst l3)), some (.own (.lst l4)), some (.val d5), none, none, none, none, none, none] [some (.obj a1), some (.obj a2), none, none, some (.own (.lst l3)), some (.own (.lst l4)), some (.val d5), none, none, none, none, none, none] from (le_same (le_same (le_none (le_none (le_same (le_same (le_same (le_none (le_none (le_none (le_none (le_none (le_none le_nil)))))))))))))))) (fun _ _ => (ce_callM (cal__law_draw W sc ns) (hr.mono (by decide)) hgd (ca_cons (rk := R.o) (fun _ => (ca_cons (rk := R.v) (fun _ => ca_nil) ce_int)) (ce_obj (i := 1) (a := a2))))) (fun _ => (ce_lst cd_nil)) (ce_lst cd_nil) sc_law.nd)) (ce_callM (cal__law_bag W sc ns) (hr.mono (by decide)) hgd (ca_cons (rk := R.o) (fun _ => ca_nil) (ce_obj (i := 0) (a := a1)))) sc_law.nd) rfl)
theorem wd_mk {h : Heap} (X : K.In h) (G : h.Ns mainGlobals mg)
    {f0 : Addr} {od0 an0 : Option Addr} {sl0 : Array (Option Value)} {oc0 kV0 dc0 pm0 cd0 ct0 : Value}
    (a0 : PySem.W.nsIn K mainGlobals "_law_bag" = some (some (.ref f0))) (l0 : K.lookup f0 = some ⟨oc0, od0, .func (PySem.W.fnOf "_law_bag" "_law_bag" (defArgs (topS 21)) (defBody (topS 21)) (defScope (topS 21)) .none kV0 dc0 pm0 an0 cd0 ct0), sl0⟩) (c0 : PySem.W.codeIn K cd0 "_law_bag" = true) (k0 : PySem.W.keepIn K (.ref f0) = true)
    {f1 : Addr} {od1 an1 : Option Addr} {sl1 : Array (Option Value)} {oc1 kV1 dc1 pm1 cd1 ct1 : Value}
    (a1 : PySem.W.nsIn K mainGlobals "_law_draw" = some (some (.ref f1))) (l1 : K.lookup f1 = some ⟨oc1, od1, .func (PySem.W.fnOf "_law_draw" "_law_draw" (defArgs (topS 22)) (defBody (topS 22)) (defScope (topS 22)) .none kV1 dc1 pm1 an1 cd1 ct1), sl1⟩) (c1 : PySem.W.codeIn K cd1 "_law_draw" = true) (k1 : PySem.W.keepIn K (.ref f1) = true)
    {f2 : Addr} {od2 an2 : Option Addr} {sl2 : Array (Option Value)} {oc2 kV2 dc2 pm2 cd2 ct2 : Value}
    (a2 : PySem.W.nsIn K mainGlobals "_law_mixed" = some (some (.ref f2))) (l2 : K.lookup f2 = some ⟨oc2, od2, .func (PySem.W.fnOf "_law_mixed" "_law_mixed" (defArgs (topS 24)) (defBody (topS 24)) (defScope (topS 24)) .none kV2 dc2 pm2 an2 cd2 ct2), sl2⟩) (c2 : PySem.W.codeIn K cd2 "_law_mixed" = true) (k2 : PySem.W.keepIn K (.ref f2) = true)
    {f3 : Addr} {od3 an3 : Option Addr} {sl3 : Array (Option Value)} {oc3 kV3 dc3 pm3 cd3 ct3 : Value}
    (a3 : PySem.W.nsIn K mainGlobals "_law_pick" = some (some (.ref f3))) (l3 : K.lookup f3 = some ⟨oc3, od3, .func (PySem.W.fnOf "_law_pick" "_law_pick" (defArgs (topS 23)) (defBody (topS 23)) (defScope (topS 23)) .none kV3 dc3 pm3 an3 cd3 ct3), sl3⟩) (c3 : PySem.W.codeIn K cd3 "_law_pick" = true) (k3 : PySem.W.keepIn K (.ref f3) = true)
    {f4 : Addr} {od4 an4 : Option Addr} {sl4 : Array (Option Value)} {oc4 kV4 dc4 pm4 cd4 ct4 : Value}
    (a4 : PySem.W.nsIn K mainGlobals "_law_sort" = some (some (.ref f4))) (l4 : K.lookup f4 = some ⟨oc4, od4, .func (PySem.W.fnOf "_law_sort" "_law_sort" (defArgs (topS 26)) (defBody (topS 26)) (defScope (topS 26)) .none kV4 dc4 pm4 an4 cd4 ct4), sl4⟩) (c4 : PySem.W.codeIn K cd4 "_law_sort" = true) (k4 : PySem.W.keepIn K (.ref f4) = true)
    {f5 : Addr} {od5 an5 : Option Addr} {sl5 : Array (Option Value)} {oc5 kV5 dc5 pm5 cd5 ct5 : Value}
    (a5 : PySem.W.nsIn K mainGlobals "_law_with" = some (some (.ref f5))) (l5 : K.lookup f5 = some ⟨oc5, od5, .func (PySem.W.fnOf "_law_with" "_law_with" (defArgs (topS 28)) (defBody (topS 28)) (defScope (topS 28)) .none kV5 dc5 pm5 an5 cd5 ct5), sl5⟩) (c5 : PySem.W.codeIn K cd5 "_law_with" = true) (k5 : PySem.W.keepIn K (.ref f5) = true)
    {f6 : Addr} {od6 an6 : Option Addr} {sl6 : Array (Option Value)} {oc6 kV6 dc6 pm6 cd6 ct6 : Value}
    (a6 : PySem.W.nsIn K mainGlobals "_law_missing" = some (some (.ref f6))) (l6 : K.lookup f6 = some ⟨oc6, od6, .func (PySem.W.fnOf "_law_missing" "_law_missing" (defArgs (topS 27)) (defBody (topS 27)) (defScope (topS 27)) .none kV6 dc6 pm6 an6 cd6 ct6), sl6⟩) (c6 : PySem.W.codeIn K cd6 "_law_missing" = true) (k6 : PySem.W.keepIn K (.ref f6) = true)
    {f7 : Addr} {od7 an7 : Option Addr} {sl7 : Array (Option Value)} {oc7 kV7 dc7 pm7 cd7 ct7 : Value}
    (a7 : PySem.W.nsIn K mainGlobals "_law_right" = some (some (.ref f7))) (l7 : K.lookup f7 = some ⟨oc7, od7, .func (PySem.W.fnOf "_law_right" "_law_right" (defArgs (topS 29)) (defBody (topS 29)) (defScope (topS 29)) .none kV7 dc7 pm7 an7 cd7 ct7), sl7⟩) (c7 : PySem.W.codeIn K cd7 "_law_right" = true) (k7 : PySem.W.keepIn K (.ref f7) = true)
    {f8 : Addr} {od8 an8 : Option Addr} {sl8 : Array (Option Value)} {oc8 kV8 dc8 pm8 cd8 ct8 : Value}
    (a8 : PySem.W.nsIn K mainGlobals "_law_entries" = some (some (.ref f8))) (l8 : K.lookup f8 = some ⟨oc8, od8, .func (PySem.W.fnOf "_law_entries" "_law_entries" (defArgs (topS 25)) (defBody (topS 25)) (defScope (topS 25)) .none kV8 dc8 pm8 an8 cd8 ct8), sl8⟩) (c8 : PySem.W.codeIn K cd8 "_law_entries" = true) (k8 : PySem.W.keepIn K (.ref f8) = true)
    {f9 : Addr} {od9 an9 : Option Addr} {sl9 : Array (Option Value)} {oc9 kV9 dc9 pm9 cd9 ct9 : Value}
    (a9 : PySem.W.nsIn K mainGlobals "_law_book" = some (some (.ref f9))) (l9 : K.lookup f9 = some ⟨oc9, od9, .func (PySem.W.fnOf "_law_book" "_law_book" (defArgs (topS 30)) (defBody (topS 30)) (defScope (topS 30)) .none kV9 dc9 pm9 an9 cd9 ct9), sl9⟩) (c9 : PySem.W.codeIn K cd9 "_law_book" = true) (k9 : PySem.W.keepIn K (.ref f9) = true)
    {f10 : Addr} {od10 an10 : Option Addr} {sl10 : Array (Option Value)} {oc10 kV10 dc10 pm10 cd10 ct10 : Value}
    (a10 : PySem.W.nsIn K mainGlobals "place_of" = some (some (.ref f10))) (l10 : K.lookup f10 = some ⟨oc10, od10, .func (PySem.W.fnOf "place_of" "place_of" (defArgs (topS 8)) (defBody (topS 8)) (defScope (topS 8)) .none kV10 dc10 pm10 an10 cd10 ct10), sl10⟩) (c10 : PySem.W.codeIn K cd10 "place_of" = true) (k10 : PySem.W.keepIn K (.ref f10) = true)
    {f11 : Addr} {od11 an11 : Option Addr} {sl11 : Array (Option Value)} {oc11 kV11 dc11 pm11 cd11 ct11 : Value}
    (a11 : PySem.W.nsIn K mainGlobals "word_of" = some (some (.ref f11))) (l11 : K.lookup f11 = some ⟨oc11, od11, .func (PySem.W.fnOf "word_of" "word_of" (defArgs (topS 9)) (defBody (topS 9)) (defScope (topS 9)) .none kV11 dc11 pm11 an11 cd11 ct11), sl11⟩) (c11 : PySem.W.codeIn K cd11 "word_of" = true) (k11 : PySem.W.keepIn K (.ref f11) = true)
    {f12 : Addr} {od12 an12 : Option Addr} {sl12 : Array (Option Value)} {oc12 kV12 dc12 pm12 cd12 ct12 : Value}
    (a12 : PySem.W.nsIn K mainGlobals "like_lacks" = some (some (.ref f12))) (l12 : K.lookup f12 = some ⟨oc12, od12, .func (PySem.W.fnOf "like_lacks" "like_lacks" (defArgs (topS 12)) (defBody (topS 12)) (defScope (topS 12)) .none kV12 dc12 pm12 an12 cd12 ct12), sl12⟩) (c12 : PySem.W.codeIn K cd12 "like_lacks" = true) (k12 : PySem.W.keepIn K (.ref f12) = true)
    {f13 : Addr} {od13 an13 : Option Addr} {sl13 : Array (Option Value)} {oc13 kV13 dc13 pm13 cd13 ct13 : Value}
    (a13 : PySem.W.nsIn K mainGlobals "any_lacks" = some (some (.ref f13))) (l13 : K.lookup f13 = some ⟨oc13, od13, .func (PySem.W.fnOf "any_lacks" "any_lacks" (defArgs (topS 13)) (defBody (topS 13)) (defScope (topS 13)) .none kV13 dc13 pm13 an13 cd13 ct13), sl13⟩) (c13 : PySem.W.codeIn K cd13 "any_lacks" = true) (k13 : PySem.W.keepIn K (.ref f13) = true)
    {f14 : Addr} {od14 an14 : Option Addr} {sl14 : Array (Option Value)} {oc14 kV14 dc14 pm14 cd14 ct14 : Value}
    (a14 : PySem.W.nsIn K mainGlobals "lacks" = some (some (.ref f14))) (l14 : K.lookup f14 = some ⟨oc14, od14, .func (PySem.W.fnOf "lacks" "lacks" (defArgs (topS 14)) (defBody (topS 14)) (defScope (topS 14)) .none kV14 dc14 pm14 an14 cd14 ct14), sl14⟩) (c14 : PySem.W.codeIn K cd14 "lacks" = true) (k14 : PySem.W.keepIn K (.ref f14) = true)
    {f15 : Addr} {od15 an15 : Option Addr} {sl15 : Array (Option Value)} {oc15 kV15 dc15 pm15 cd15 ct15 : Value}
    (a15 : PySem.W.nsIn K mainGlobals "is_good" = some (some (.ref f15))) (l15 : K.lookup f15 = some ⟨oc15, od15, .func (PySem.W.fnOf "is_good" "is_good" (defArgs (topS 15)) (defBody (topS 15)) (defScope (topS 15)) .none kV15 dc15 pm15 an15 cd15 ct15), sl15⟩) (c15 : PySem.W.codeIn K cd15 "is_good" = true) (k15 : PySem.W.keepIn K (.ref f15) = true)
    {f16 : Addr} {od16 an16 : Option Addr} {sl16 : Array (Option Value)} {oc16 kV16 dc16 pm16 cd16 ct16 : Value}
    (a16 : PySem.W.nsIn K mainGlobals "entries" = some (some (.ref f16))) (l16 : K.lookup f16 = some ⟨oc16, od16, .func (PySem.W.fnOf "entries" "entries" (defArgs (topS 6)) (defBody (topS 6)) (defScope (topS 6)) .none kV16 dc16 pm16 an16 cd16 ct16), sl16⟩) (c16 : PySem.W.codeIn K cd16 "entries" = true) (k16 : PySem.W.keepIn K (.ref f16) = true)
    {f17 : Addr} {od17 an17 : Option Addr} {sl17 : Array (Option Value)} {oc17 kV17 dc17 pm17 cd17 ct17 : Value}
    (a17 : PySem.W.nsIn K mainGlobals "is_word" = some (some (.ref f17))) (l17 : K.lookup f17 = some ⟨oc17, od17, .func (PySem.W.fnOf "is_word" "is_word" (defArgs (topS 7)) (defBody (topS 7)) (defScope (topS 7)) .none kV17 dc17 pm17 an17 cd17 ct17), sl17⟩) (c17 : PySem.W.codeIn K cd17 "is_word" = true) (k17 : PySem.W.keepIn K (.ref f17) = true)
    {f18 : Addr} {od18 an18 : Option Addr} {sl18 : Array (Option Value)} {oc18 kV18 dc18 pm18 cd18 ct18 : Value}
    (a18 : PySem.W.nsIn K mainGlobals "turned" = some (some (.ref f18))) (l18 : K.lookup f18 = some ⟨oc18, od18, .func (PySem.W.fnOf "turned" "turned" (defArgs (topS 10)) (defBody (topS 10)) (defScope (topS 10)) .none kV18 dc18 pm18 an18 cd18 ct18), sl18⟩) (c18 : PySem.W.codeIn K cd18 "turned" = true) (k18 : PySem.W.keepIn K (.ref f18) = true)
    {f19 : Addr} {od19 an19 : Option Addr} {sl19 : Array (Option Value)} {oc19 kV19 dc19 pm19 cd19 ct19 : Value}
    (a19 : PySem.W.nsIn K mainGlobals "idle" = some (some (.ref f19))) (l19 : K.lookup f19 = some ⟨oc19, od19, .func (PySem.W.fnOf "idle" "idle" (defArgs (topS 18)) (defBody (topS 18)) (defScope (topS 18)) .none kV19 dc19 pm19 an19 cd19 ct19), sl19⟩) (c19 : PySem.W.codeIn K cd19 "idle" = true) (k19 : PySem.W.keepIn K (.ref f19) = true)
    {f20 : Addr} {od20 an20 : Option Addr} {sl20 : Array (Option Value)} {oc20 kV20 dc20 pm20 cd20 ct20 : Value}
    (a20 : PySem.W.nsIn K mainGlobals "with_words" = some (some (.ref f20))) (l20 : K.lookup f20 = some ⟨oc20, od20, .func (PySem.W.fnOf "with_words" "with_words" (defArgs (topS 16)) (defBody (topS 16)) (defScope (topS 16)) .none kV20 dc20 pm20 an20 cd20 ct20), sl20⟩) (c20 : PySem.W.codeIn K cd20 "with_words" = true) (k20 : PySem.W.keepIn K (.ref f20) = true)
    {f21 : Addr} {od21 an21 : Option Addr} {sl21 : Array (Option Value)} {oc21 kV21 dc21 pm21 cd21 ct21 : Value}
    (a21 : PySem.W.nsIn K mainGlobals "candidates" = some (some (.ref f21))) (l21 : K.lookup f21 = some ⟨oc21, od21, .func (PySem.W.fnOf "candidates" "candidates" (defArgs (topS 17)) (defBody (topS 17)) (defScope (topS 17)) .none kV21 dc21 pm21 an21 cd21 ct21), sl21⟩) (c21 : PySem.W.codeIn K cd21 "candidates" = true) (k21 : PySem.W.keepIn K (.ref f21) = true)
    {f22 : Addr} {od22 an22 : Option Addr} {sl22 : Array (Option Value)} {oc22 kV22 dc22 pm22 cd22 ct22 : Value}
    (a22 : PySem.W.nsIn K mainGlobals "mended" = some (some (.ref f22))) (l22 : K.lookup f22 = some ⟨oc22, od22, .func (PySem.W.fnOf "mended" "mended" (defArgs (topS 19)) (defBody (topS 19)) (defScope (topS 19)) .none kV22 dc22 pm22 an22 cd22 ct22), sl22⟩) (c22 : PySem.W.codeIn K cd22 "mended" = true) (k22 : PySem.W.keepIn K (.ref f22) = true)
    {f23 : Addr} {od23 an23 : Option Addr} {sl23 : Array (Option Value)} {oc23 kV23 dc23 pm23 cd23 ct23 : Value}
    (a23 : PySem.W.nsIn K mainGlobals "_law_asked" = some (some (.ref f23))) (l23 : K.lookup f23 = some ⟨oc23, od23, .func (PySem.W.fnOf "_law_asked" "_law_asked" (defArgs (topS 31)) (defBody (topS 31)) (defScope (topS 31)) .none kV23 dc23 pm23 an23 cd23 ct23), sl23⟩) (c23 : PySem.W.codeIn K cd23 "_law_asked" = true) (k23 : PySem.W.keepIn K (.ref f23) = true)
    {f24 : Addr} {od24 an24 : Option Addr} {sl24 : Array (Option Value)} {oc24 kV24 dc24 pm24 cd24 ct24 : Value}
    (a24 : PySem.W.nsIn K mainGlobals "law" = some (some (.ref f24))) (l24 : K.lookup f24 = some ⟨oc24, od24, .func (PySem.W.fnOf "law" "law" (defArgs (topS 32)) (defBody (topS 32)) (defScope (topS 32)) .none kV24 dc24 pm24 an24 cd24 ct24), sl24⟩) (c24 : PySem.W.codeIn K cd24 "law" = true) (k24 : PySem.W.keepIn K (.ref f24) = true)
    (z_abs : PySem.W.nsIn K mainGlobals "abs" = some none)
    (z_int : PySem.W.nsIn K mainGlobals "int" = some none)
    (z_isinstance : PySem.W.nsIn K mainGlobals "isinstance" = some none)
    (z_len : PySem.W.nsIn K mainGlobals "len" = some none)
    (z_list : PySem.W.nsIn K mainGlobals "list" = some none)
    (z_range : PySem.W.nsIn K mainGlobals "range" = some none)
    (z_repr : PySem.W.nsIn K mainGlobals "repr" = some none)
    (z_str : PySem.W.nsIn K mainGlobals "str" = some none)
    (z_tuple : PySem.W.nsIn K mainGlobals "tuple" = some none)
    (z_zip : PySem.W.nsIn K mainGlobals "zip" = some none)
    {u_ENTRIES : Value} (y_ENTRIES : PySem.W.nsIn K mainGlobals "ENTRIES" = some (some u_ENTRIES)) (v_ENTRIES : kData K 8 u_ENTRIES = some G_ENTRIES)
    {p_PLACES : Addr} (y_PLACES : PySem.W.nsIn K mainGlobals "PLACES" = some (some (.ref p_PLACES))) (h_PLACES : He.dicW K p_PLACES = some (He.keysIn w.params ["note", "call", "put", "many", "woken", "fails", "pass", "quits", "comers", "order"])) (v_PLACES : kDictD K p_PLACES = some G_PLACES)
    : Wd w K mg := by
  have D0 : Dfd K mg "_law_bag" "_law_bag" (topS 21) ["script"] := dfd_mk X G a0 l0 c0 k0 (fun _ _ _ _ _ _ us hl => match us, hl with | [_], _ => rfl)
  have D1 : Dfd K mg "_law_draw" "_law_draw" (topS 22) ["bag", "many"] := dfd_mk X G a1 l1 c1 k1 (fun _ _ _ _ _ _ us hl => match us, hl with | [_, _], _ => rfl)
  have D2 : Dfd K mg "_law_mixed" "_law_mixed" (topS 24) ["bag", "items"] := dfd_mk X G a2 l2 c2 k2 (fun _ _ _ _ _ _ us hl => match us, hl with | [_, _], _ => rfl)
  have D3 : Dfd K mg "_law_pick" "_law_pick" (topS 23) ["bag", "items"] := dfd_mk X G a3 l3 c3 k3 (fun _ _ _ _ _ _ us hl => match us, hl with | [_, _], _ => rfl)
  have D4 : Dfd K mg "_law_sort" "_law_sort" (topS 26) ["bag"] := dfd_mk X G a4 l4 c4 k4 (fun _ _ _ _ _ _ us hl => match us, hl with | [_], _ => rfl)
  have D5 : Dfd K mg "_law_with" "_law_with" (topS 28) ["book", "spot", "word"] := dfd_mk X G a5 l5 c5 k5 (fun _ _ _ _ _ _ us hl => match us, hl with | [_, _, _], _ => rfl)
  have D6 : Dfd K mg "_law_missing" "_law_missing" (topS 27) ["book", "sort"] := dfd_mk X G a6 l6 c6 k6 (fun _ _ _ _ _ _ us hl => match us, hl with | [_, _], _ => rfl)
  have D7 : Dfd K mg "_law_right" "_law_right" (topS 29) ["bag", "sort"] := dfd_mk X G a7 l7 c7 k7 (fun _ _ _ _ _ _ us hl => match us, hl with | [_, _], _ => rfl)
  have D8 : Dfd K mg "_law_entries" "_law_entries" (topS 25) [] := dfd_mk X G a8 l8 c8 k8 (fun _ _ _ _ _ _ us hl => match us, hl with | [], _ => rfl)
  have D9 : Dfd K mg "_law_book" "_law_book" (topS 30) ["bag", "sort"] := dfd_mk X G a9 l9 c9 k9 (fun _ _ _ _ _ _ us hl => match us, hl with | [_, _], _ => rfl)
  have D10 : Dfd K mg "place_of" "place_of" (topS 8) ["name"] := dfd_mk X G a10 l10 c10 k10 (fun _ _ _ _ _ _ us hl => match us, hl with | [_], _ => rfl)
  have D11 : Dfd K mg "word_of" "word_of" (topS 9) ["book", "name"] := dfd_mk X G a11 l11 c11 k11 (fun _ _ _ _ _ _ us hl => match us, hl with | [_, _], _ => rfl)
  have D12 : Dfd K mg "like_lacks" "like_lacks" (topS 12) ["book"] := dfd_mk X G a12 l12 c12 k12 (fun _ _ _ _ _ _ us hl => match us, hl with | [_], _ => rfl)
  have D13 : Dfd K mg "any_lacks" "any_lacks" (topS 13) ["book", "stay"] := dfd_mk X G a13 l13 c13 k13 (fun _ _ _ _ _ _ us hl => match us, hl with | [_, _], _ => rfl)
  have D14 : Dfd K mg "lacks" "lacks" (topS 14) ["book", "sort"] := dfd_mk X G a14 l14 c14 k14 (fun _ _ _ _ _ _ us hl => match us, hl with | [_, _], _ => rfl)
  have D15 : Dfd K mg "is_good" "is_good" (topS 15) ["book", "sort"] := dfd_mk X G a15 l15 c15 k15 (fun _ _ _ _ _ _ us hl => match us, hl with | [_, _], _ => rfl)
  have D16 : Dfd K mg "entries" "entries" (topS 6) [] := dfd_mk X G a16 l16 c16 k16 (fun _ _ _ _ _ _ us hl => match us, hl with | [], _ => rfl)
  have D17 : Dfd K mg "is_word" "is_word" (topS 7) ["words", "value"] := dfd_mk X G a17 l17 c17 k17 (fun _ _ _ _ _ _ us hl => match us, hl with | [_, _], _ => rfl)
  have D18 : Dfd K mg "turned" "turned" (topS 10) ["book", "name", "word"] := dfd_mk X G a18 l18 c18 k18 (fun _ _ _ _ _ _ us hl => match us, hl with | [_, _, _], _ => rfl)
  have D19 : Dfd K mg "idle" "idle" (topS 18) ["book", "sort"] := dfd_mk X G a19 l19 c19 k19 (fun _ _ _ _ _ _ us hl => match us, hl with | [_, _], _ => rfl)
  have D20 : Dfd K mg "with_words" "with_words" (topS 16) ["books", "name", "words"] := dfd_mk X G a20 l20 c20 k20 (fun _ _ _ _ _ _ us hl => match us, hl with | [_, _, _], _ => rfl)
  have D21 : Dfd K mg "candidates" "candidates" (topS 17) ["book"] := dfd_mk X G a21 l21 c21 k21 (fun _ _ _ _ _ _ us hl => match us, hl with | [_], _ => rfl)
  have D22 : Dfd K mg "mended" "mended" (topS 19) ["book", "sort"] := dfd_mk X G a22 l22 c22 k22 (fun _ _ _ _ _ _ us hl => match us, hl with | [_, _], _ => rfl)
  have D23 : Dfd K mg "_law_asked" "_law_asked" (topS 31) ["spot", "book", "sort", "is_named"] := dfd_mk X G a23 l23 c23 k23 (fun _ _ _ _ _ _ us hl => match us, hl with | [_, _, _, _], _ => rfl)
  have D24 : Dfd K mg "law" "law" (topS 32) ["script"] := dfd_mk X G a24 l24 c24 k24 (fun _ _ _ _ _ _ us hl => match us, hl with | [_], _ => rfl)
  exact ⟨D0, D1, D2, D3, D4, D5, D6, D7, D8, D9, D10, D11, D12, D13, D14, D15, D16, D17, D18, D19, D20, D21, D22, D23, D24, PySem.W.mg_none_of X G z_abs, PySem.W.mg_none_of X G z_int, PySem.W.mg_none_of X G z_isinstance, PySem.W.mg_none_of X G z_len, PySem.W.mg_none_of X G z_list, PySem.W.mg_none_of X G z_range, PySem.W.mg_none_of X G z_repr, PySem.W.mg_none_of X G z_str, PySem.W.mg_none_of X G z_tuple, PySem.W.mg_none_of X G z_zip, glo_mk X G y_ENTRIES 8 v_ENTRIES, glod_mk X G y_PLACES h_PLACES v_PLACES, kwb_of D19 (fun _ _ _ _ _ _ us ws hu hw => match us, ws, hu, hw with | [], [_, _], _, _ => rfl), kwb_of D15 (fun _ _ _ _ _ _ us ws hu hw => match us, ws, hu, hw with | [], [_, _], _, _ => rfl), kwb_of D14 (fun _ _ _ _ _ _ us ws hu hw => match us, ws, hu, hw with | [], [_, _], _, _ => rfl), kwb_of D22 (fun _ _ _ _ _ _ us ws hu hw => match us, ws, hu, hw with | [], [_, _], _, _ => rfl)⟩
end
-- CASES a0 l0 c0 k0 a1 l1 c1 k1 a2 l2 c2 k2 a3 l3 c3 k3 a4 l4 c4 k4 a5 l5 c5 k5 a6 l6 c6 k6 a7 l7 c7 k7 a8 l8 c8 k8 a9 l9 c9 k9 a10 l10 c10 k10 a11 l11 c11 k11 a12 l12 c12 k12 a13 l13 c13 k13 a14 l14 c14 k14 a15 l15 c15 k15 a16 l16 c16 k16 a17 l17 c17 k17 a18 l18 c18 k18 a19 l19 c19 k19 a20 l20 c20 k20 a21 l21 c21 k21 a22 l22 c22 k22 a23 l23 c23 k23 a24 l24 c24 k24 z_abs z_int z_isinstance z_len z_list z_range z_repr z_str z_tuple z_zip y_ENTRIES v_ENTRIES y_PLACES h_PLACES v_PLACES
-- LEVEL 8
end LawX

set_option Elab.async false
set_option linter.all false
set_option autoImplicit false
set_option maxRecDepth 100000
set_option maxHeartbeats 400000
set_option pp.maxSteps 600
namespace LawX
open PySem PySem.Spec PyProof.Rows L2 Cl
open MO
/-- the drawing object, good for m draws more -/
def Bag (m : Nat) (g : GH) (p : Addr) : Prop := ∃ (q : Addr) (fs : List Int) (st cnt : Int), g p = some (.dct [(.inr "far", .r q), (.inr "stirred", .d (.int st)), (.inr "count", .d (.int cnt))]) ∧
  g q = some (.lst (fs.map PyData.int)) ∧ fs.length ≤ 64 ∧ 0 ≤ cnt ∧ cnt + m ≤ 1000000000000
theorem Bag.mono {m n : Nat} {g : GH} {p : Addr} (h : Bag n g p) (l : m ≤ n) : Bag m g p := by
  obtain ⟨q, fs, st, cnt, e1, e2, e6, e7, e8⟩ := h
  exact ⟨q, fs, st, cnt, e1, e2, e6, e7, by omega⟩
theorem ix0 {n : Nat} : ixN (n + 1) 0 = some 0 := by
  unfold ixN
  rw [if_pos (by decide), if_pos (by omega)]
  rfl
theorem at0 (f : Int) (fs : List Int) : atF (.int 0) ((f :: fs).map PyData.int) = some (.int f) := by
  show (ixN ((f :: fs).map PyData.int).length 0).bind (fun j => ((f :: fs).map PyData.int)[j]?) = _
  rw [List.length_map, List.length_cons, ix0]
  rfl
theorem set0 (f : Int) (fs : List Int) (d : D) : setOF (.int 0) d ((f :: fs).map PyData.int) = some ((), d :: fs.map PyData.int) := by
  show ((ixN ((f :: fs).map PyData.int).length 0).map fun j => ((f :: fs).map PyData.int).set j d).map (fun r => ((), r)) = _
  rw [List.length_map, List.length_cons, ix0]
  rfl
theorem draw_ok {m : Nat} {g : GH} {p : Addr} {n : Int} {Q : D → GH → Prop} {E : Xc → GH → Prop} (h : Bag (m + 1) g p) (h0 : 0 < n) (h1 : n < 1073741824) (hq : ∀ i g', Bag m g' p → 0 ≤ i → i < n → Q (.int i) g') :
    (m__law_draw (p, .int n, ())).wp g Q E := by
  obtain ⟨q, fs, st, cnt, e1, e2, e6, e7, e8⟩ := h
  have npq : p ≠ q := fun z => by rw [z, e2] at e1; cases e1
  refine w_fldO e1 rfl ?_
  refine w_rd e2 (neNil_ints fs) ?_
  cases fs with
  | cons f fs =>
    refine w_rd e2 (x := .int f) (at0 f fs) ?_
    refine w_need (fdivF_i ⟨h0, h1⟩) ?_
    refine w_mt e2 (x := ()) (ds' := (f / n :: fs).map PyData.int) (set0 f fs _) (flatL_ints (f / n :: fs)) ?_
    rw [List.length_cons] at e6
    have last : ∀ (ys : List Int) (g2 : GH), ys.length ≤ 64 → g2 q = some (.lst (ys.map PyData.int)) → (∀ b, b ≠ q → g2 b = g b) → Bag m g2 p := fun ys g2 hy h2 h3 =>
      ⟨q, ys, st, cnt, by rw [h3 p npq]; exact e1, h2, hy, e7, by omega⟩
    refine w_jn (w_need (a := decide (f < n)) rfl (w_ite (fun _ => ?_) (fun _ => ?_)))
    · refine w_mt gset_same (x := .int (f / n)) (ds' := fs.map PyData.int) rfl (flatL_ints fs) ?_
      exact w_need intF_i (w_need (modF_i h0) (hq _ _ (last fs _ (by omega) gset_same fun b hb => by rw [gset_ne hb, gset_ne hb]) (Int.emod_nonneg _ (by omega)) (Int.emod_lt_of_pos _ h0)))
    · exact w_need intF_i (w_need (modF_i h0) (hq _ _ (last (f / n :: fs) _ (by rw [List.length_cons]; omega) gset_same fun b hb => by rw [gset_ne hb]) (Int.emod_nonneg _ (by omega)) (Int.emod_lt_of_pos _ h0)))
  | nil =>
    refine w_fldD e1 rfl ?_
    refine w_need addF_i ?_
    refine w_put e1 (by have := sizeLine_eq; show 3 < sizeLine; omega) rfl ?_
    have e1' : gset g p (.dct (putR [(.inr "far", .r q), (.inr "stirred", .d (.int st)), (.inr "count", .d (.int cnt))] (.inr "count") (.d (.int (cnt + 1))))) p = some (.dct [(.inr "far", .r q), (.inr "stirred", .d (.int st)), (.inr "count", .d (.int (cnt + 1)))]) := gset_same
    have e2' : gset g p (.dct (putR [(.inr "far", .r q), (.inr "stirred", .d (.int st)), (.inr "count", .d (.int cnt))] (.inr "count") (.d (.int (cnt + 1))))) q = some (.lst (([] : List Int).map PyData.int)) := by rw [gset_ne (Ne.symm npq)]; exact e2
    generalize gset g p _ = g1 at e1' e2' ⊢
    have jr : Bag m g1 p := ⟨q, [], st, cnt + 1, e1', e2', by decide, by omega, by omega⟩
    refine w_fldD e1' rfl (w_fldD e1' rfl ?_)
    refine w_need (mulF_l (by decide) (by decide)) (w_need addF_i (w_need intF_i (w_need (modF_i (by decide)) ?_)))
    have b1 : ∀ a : Int, -(2 ^ 64) < a % 4294967291 ∧ a % 4294967291 < 2 ^ 64 := fun a => by omega
    have b2 : ∀ a : Int, -(2 ^ 64) < a % 4294967279 ∧ a % 4294967279 < 2 ^ 64 := fun a => by omega
    refine w_need (mulF_l (b1 _).1 (b1 _).2) (w_fldD e1' rfl (w_need (mulF_l (by decide) (by decide)) (w_need addF_i (w_need addF_i (w_need intF_i (w_need (modF_i (by decide)) ?_))))))
    refine w_need (mulF_l (b2 _).1 (b2 _).2) (w_fldD e1' rfl (w_need addF_i (w_need intF_i (w_need (modF_i (by decide)) ?_))))
    exact w_need (fdivF_i ⟨by decide, by decide⟩) (w_need intF_i (w_need (modF_i h0) (hq _ _ jr (Int.emod_nonneg _ (by omega)) (Int.emod_lt_of_pos _ h0))))
theorem ints_of : ∀ {xs : List D}, (∀ d ∈ xs, ∃ k, d = .int k) → ∃ ks : List Int, xs = ks.map PyData.int
  | [], _ => ⟨[], rfl⟩
  | d :: xs, h => by
    obtain ⟨k, rfl⟩ := h d List.mem_cons_self
    obtain ⟨ks, rfl⟩ := ints_of fun e he => h e (List.mem_cons_of_mem _ he)
    exact ⟨k :: ks, rfl⟩
theorem all2_ints {S : D → D → Prop} (hS : ∀ d e, S d e → ∃ k, e = .int k) : ∀ {ds es : List D}, All2 S ds es → (∃ ks : List Int, es = ks.map PyData.int) ∧ es.length = ds.length
  | _, _, .nil => ⟨⟨[], rfl⟩, rfl⟩
  | _, _, .cons h t => by
    obtain ⟨k, rfl⟩ := hS _ _ h
    obtain ⟨⟨ks, rfl⟩, e⟩ := all2_ints hS t
    exact ⟨⟨k :: ks, rfl⟩, by rw [List.length_cons, List.length_cons, e]⟩
theorem cut_ints (ns : List Int) (hi : Option Int) : ∃ ks : List Int, Cl.cutD (ns.map PyData.int) none hi = ks.map PyData.int ∧ ks.length ≤ ns.length := by
  unfold Cl.cutD
  rw [← List.map_drop, ← List.map_take]
  exact ⟨_, rfl, by rw [List.length_take, List.length_drop]; omega⟩
theorem bag_ok {sc : Addr} {ns : List Int} {g : GH} {Q : Addr → GH → Prop} {E : Xc → GH → Prop} (hl : ns.length ≤ 63) (hq : ∀ p g', Bag 1000000000000 g' p → Q p g') : (m__law_bag sc ns (sc, ())).wp g Q E := by
  have big := sizeLine_eq
  refine w_need rfl (w_sc (w_need rfl ?_))
  obtain ⟨ks, ek, hk⟩ := cut_ints ns (some 63)
  rw [ek]
  refine w_nox (M.mono _ (w_compL (fun g' => g' = g) (fun _ e => ∃ k, e = .int k) (fun d hd g' hg => ?_) (by rw [List.length_map, List.length_nil]; omega) rfl) fun xs g' hx => ?_)
  · obtain ⟨k, _, rfl⟩ := List.mem_map.mp hd
    refine w_need rfl (w_ite (fun _ => ?_) (fun z => absurd rfl z))
    exact w_need rfl (w_need (mulF_l (by decide) (by decide)) (w_need rfl (w_need rfl (w_need addF_i (w_pur ⟨_, rfl, ⟨_, rfl⟩, hg⟩)))))
  obtain ⟨rfl, es, rfl, al⟩ := hx
  obtain ⟨⟨cs, rfl⟩, hc⟩ := all2_ints (fun _ _ z => z) al
  rw [List.length_map, List.length_map] at hc
  try rw [List.nil_append]
  refine w_sc (w_need (mulF_l (by decide) (by decide)) (w_need addF_i (w_need rfl ?_)))
  refine w_bnd (M.mono _ (w_forP (fun t g2 => (∃ k, t = .int k) ∧ g2 = g') (fun d hd t g2 ht => ?_) ⟨⟨_, rfl⟩, rfl⟩) fun t g2 ht => ?_)
  · obtain ⟨k, _, rfl⟩ := List.mem_map.mp hd
    obtain ⟨⟨j, rfl⟩, rfl⟩ := ht
    exact w_need rfl (w_need (mulF_r (by decide) (by decide)) (w_need addF_i (w_need addF_i (w_need intF_i (w_need (modF_i (by decide)) (w_pur ⟨⟨_, rfl⟩, rfl⟩))))))
  obtain ⟨⟨sl0, rfl⟩, rfl⟩ := ht
  refine w_need rfl (w_nox (M.mono _ (w_compF (fun g3 => g3 = g2) (fun e => ∃ k, e = .int k) (fun d hd g3 hg => ?_) (by rw [List.length_map, List.length_nil]; omega) (fun _ z => by simp at z) rfl) fun xs g3 hx => ?_))
  · obtain ⟨k, _, rfl⟩ := List.mem_map.mp hd
    refine w_need rfl (w_need (a := .int 1000000000000000) rfl (w_need (a := decide (1000000000000000 < k)) rfl (w_ite (fun _ => ?_) (fun _ => ?_))))
    · exact w_pur ⟨fun e z => by cases z; exact ⟨k, rfl⟩, hg⟩
    · exact w_pur ⟨(fun e z => by cases z), hg⟩
  obtain ⟨rfl, hxs, hxl⟩ := hx
  obtain ⟨fs, rfl⟩ := ints_of hxs
  rw [List.length_map, List.length_map, List.length_nil] at hxl
  refine w_nw (show ([.inr "far", .inr "stirred", .inr "count"] : List Key).Nodup by decide) (show 3 ≤ 15 by decide) ?_
  refine ⟨flatL_ints _, fun q hq0 => ⟨rfl, rfl, fun p hp => ?_⟩⟩
  have npq : p ≠ q := fun z => by rw [z, gset_same] at hp; cases hp
  exact w_pur (hq p _ ⟨q, fs, sl0, 0, gset_same, by rw [gset_ne (Ne.symm npq), gset_same], by omega, by omega, by omega⟩)
theorem pick_ok {m : Nat} {g : GH} {p : Addr} {d : D} {xs : List D} {Q : D → GH → Prop} {E : Xc → GH → Prop} (h : Bag (m + 1) g p) (hd : d = .list xs ∨ d = .tuple xs) (h0 : xs ≠ []) (h1 : xs.length ≤ 100000) (hq : ∀ x g', x ∈ xs → Bag m g' p → Q x g') :
    (m__law_pick (p, d, ())).wp g Q E := by
  have hp := List.length_pos_iff.mpr h0
  have e1 : ((xs.length : Nat) : Int) < 1073741824 := by omega
  have e2 : 0 < ((xs.length : Nat) : Int) := by omega
  refine w_need (a := ((xs.length : Nat) : Int)) (by rcases hd with rfl | rfl <;> rfl) ?_
  refine w_call (f := m__law_draw) (a := (p, .int (xs.length : Nat), ())) rfl ?_
  refine draw_ok h e2 e1 fun i g' jr hi hi2 => ?_
  have h3 : i.toNat < xs.length := by omega
  obtain ⟨x, hx⟩ : ∃ x, xs[i.toNat]? = some x := ⟨_, List.getElem?_eq_getElem h3⟩
  have e3 : ixF d (.int i) = some x := by
    have : (ixN xs.length i).bind (fun j => xs[j]?) = some x := by
      unfold ixN
      rw [if_pos hi, if_pos hi2]
      exact hx
    rcases hd with rfl | rfl <;> exact this
  exact w_need e3 (w_pur (hq x g' (List.mem_of_getElem? hx) jr))
end LawX

set_option Elab.async false
set_option linter.all false
set_option autoImplicit false
set_option maxRecDepth 100000
set_option maxHeartbeats 400000
set_option pp.maxSteps 600
namespace LawX
open PySem PySem.Spec PyProof.Rows L2 Cl
open MO
def entr : Nat → List Str
  | 0 => ["ahead", "behind"]
  | 1 => ["kept", "lost"]
  | 2 => ["first", "last"]
  | 3 => ["one", "each", "all"]
  | 4 => ["tries", "takes", "given"]
  | 5 => ["back", "front"]
  | 6 => ["never", "left", "always"]
  | 7 => ["passes", "drops"]
  | 8 => ["free", "behind"]
  | 9 => ["first", "any"]
  | _ => []
abbrev bk (w0 w1 w2 w3 w4 w5 w6 w7 w8 w9 : Str) : D := .tuple [.str w0, .str w1, .str w2, .str w3, .str w4, .str w5, .str w6, .str w7, .str w8, .str w9]
inductive Bk : D → Prop
  | mk {w0 w1 w2 w3 w4 w5 w6 w7 w8 w9 : Str} (h0 : w0 ∈ entr 0) (h1 : w1 ∈ entr 1) (h2 : w2 ∈ entr 2) (h3 : w3 ∈ entr 3) (h4 : w4 ∈ entr 4) (h5 : w5 ∈ entr 5) (h6 : w6 ∈ entr 6) (h7 : w7 ∈ entr 7) (h8 : w8 ∈ entr 8) (h9 : w9 ∈ entr 9) : Bk (bk w0 w1 w2 w3 w4 w5 w6 w7 w8 w9)
def isBk : D → Bool
  | .tuple [.str w0, .str w1, .str w2, .str w3, .str w4, .str w5, .str w6, .str w7, .str w8, .str w9] => (decide (w0 ∈ entr 0) && (decide (w1 ∈ entr 1) && (decide (w2 ∈ entr 2) && (decide (w3 ∈ entr 3) && (decide (w4 ∈ entr 4) && (decide (w5 ∈ entr 5) && (decide (w6 ∈ entr 6) && (decide (w7 ∈ entr 7) && (decide (w8 ∈ entr 8) && decide (w9 ∈ entr 9))))))))))
  | _ => false
theorem bk_of {d : D} (h : isBk d = true) : Bk d := by
  unfold isBk at h
  split at h
  · simp only [Bool.and_eq_true, decide_eq_true_eq] at h
    obtain ⟨h0, h1, h2, h3, h4, h5, h6, h7, h8, h9⟩ := h
    exact .mk h0 h1 h2 h3 h4 h5 h6 h7 h8 h9
  · cases h
variable {w0 w1 w2 w3 w4 w5 w6 w7 w8 w9 s0 s1 : Str}
theorem wo0 : m_word_of (bk w0 w1 w2 w3 w4 w5 w6 w7 w8 w9, .str "note", ()) = .ok (.str w0) := by kernel_rfl
theorem wo1 : m_word_of (bk w0 w1 w2 w3 w4 w5 w6 w7 w8 w9, .str "call", ()) = .ok (.str w1) := by kernel_rfl
theorem wo2 : m_word_of (bk w0 w1 w2 w3 w4 w5 w6 w7 w8 w9, .str "put", ()) = .ok (.str w2) := by kernel_rfl
theorem wo3 : m_word_of (bk w0 w1 w2 w3 w4 w5 w6 w7 w8 w9, .str "many", ()) = .ok (.str w3) := by kernel_rfl
theorem wo4 : m_word_of (bk w0 w1 w2 w3 w4 w5 w6 w7 w8 w9, .str "woken", ()) = .ok (.str w4) := by kernel_rfl
theorem wo5 : m_word_of (bk w0 w1 w2 w3 w4 w5 w6 w7 w8 w9, .str "fails", ()) = .ok (.str w5) := by kernel_rfl
theorem wo6 : m_word_of (bk w0 w1 w2 w3 w4 w5 w6 w7 w8 w9, .str "pass", ()) = .ok (.str w6) := by kernel_rfl
theorem wo7 : m_word_of (bk w0 w1 w2 w3 w4 w5 w6 w7 w8 w9, .str "quits", ()) = .ok (.str w7) := by kernel_rfl
theorem wo8 : m_word_of (bk w0 w1 w2 w3 w4 w5 w6 w7 w8 w9, .str "comers", ()) = .ok (.str w8) := by kernel_rfl
theorem wo9 : m_word_of (bk w0 w1 w2 w3 w4 w5 w6 w7 w8 w9, .str "order", ()) = .ok (.str w9) := by kernel_rfl
theorem wi0 {v : Str} : m__law_with (bk w0 w1 w2 w3 w4 w5 w6 w7 w8 w9, .int 0, .str v, ()) = .ok (bk v w1 w2 w3 w4 w5 w6 w7 w8 w9) := by kernel_rfl
theorem wi1 {v : Str} : m__law_with (bk w0 w1 w2 w3 w4 w5 w6 w7 w8 w9, .int 1, .str v, ()) = .ok (bk w0 v w2 w3 w4 w5 w6 w7 w8 w9) := by kernel_rfl
theorem wi2 {v : Str} : m__law_with (bk w0 w1 w2 w3 w4 w5 w6 w7 w8 w9, .int 2, .str v, ()) = .ok (bk w0 w1 v w3 w4 w5 w6 w7 w8 w9) := by kernel_rfl
theorem wi3 {v : Str} : m__law_with (bk w0 w1 w2 w3 w4 w5 w6 w7 w8 w9, .int 3, .str v, ()) = .ok (bk w0 w1 w2 v w4 w5 w6 w7 w8 w9) := by kernel_rfl
theorem wi4 {v : Str} : m__law_with (bk w0 w1 w2 w3 w4 w5 w6 w7 w8 w9, .int 4, .str v, ()) = .ok (bk w0 w1 w2 w3 v w5 w6 w7 w8 w9) := by kernel_rfl
theorem wi5 {v : Str} : m__law_with (bk w0 w1 w2 w3 w4 w5 w6 w7 w8 w9, .int 5, .str v, ()) = .ok (bk w0 w1 w2 w3 w4 v w6 w7 w8 w9) := by kernel_rfl
theorem wi6 {v : Str} : m__law_with (bk w0 w1 w2 w3 w4 w5 w6 w7 w8 w9, .int 6, .str v, ()) = .ok (bk w0 w1 w2 w3 w4 w5 v w7 w8 w9) := by kernel_rfl
theorem wi7 {v : Str} : m__law_with (bk w0 w1 w2 w3 w4 w5 w6 w7 w8 w9, .int 7, .str v, ()) = .ok (bk w0 w1 w2 w3 w4 w5 w6 v w8 w9) := by kernel_rfl
theorem wi8 {v : Str} : m__law_with (bk w0 w1 w2 w3 w4 w5 w6 w7 w8 w9, .int 8, .str v, ()) = .ok (bk w0 w1 w2 w3 w4 w5 w6 w7 v w9) := by kernel_rfl
theorem wi9 {v : Str} : m__law_with (bk w0 w1 w2 w3 w4 w5 w6 w7 w8 w9, .int 9, .str v, ()) = .ok (bk w0 w1 w2 w3 w4 w5 w6 w7 w8 v) := by kernel_rfl
theorem ten {i : Int} (h0 : 0 ≤ i) (h1 : i < 10) : i = 0 ∨ i = 1 ∨ i = 2 ∨ i = 3 ∨ i = 4 ∨ i = 5 ∨ i = 6 ∨ i = 7 ∨ i = 8 ∨ i = 9 := by omega
theorem with_ok {b : D} (hb : Bk b) {i : Int} (i0 : 0 ≤ i) (i1 : i < 10) {v : Str} (hv : v ∈ entr i.toNat) : ∃ c, m__law_with (b, .int i, .str v, ()) = .ok c ∧ Bk c := by
  cases hb with
  | mk h0 h1 h2 h3 h4 h5 h6 h7 h8 h9 =>
    rcases ten i0 i1 with rfl | rfl | rfl | rfl | rfl | rfl | rfl | rfl | rfl | rfl
    · exact ⟨_, wi0, .mk hv h1 h2 h3 h4 h5 h6 h7 h8 h9⟩
    · exact ⟨_, wi1, .mk h0 hv h2 h3 h4 h5 h6 h7 h8 h9⟩
    · exact ⟨_, wi2, .mk h0 h1 hv h3 h4 h5 h6 h7 h8 h9⟩
    · exact ⟨_, wi3, .mk h0 h1 h2 hv h4 h5 h6 h7 h8 h9⟩
    · exact ⟨_, wi4, .mk h0 h1 h2 h3 hv h5 h6 h7 h8 h9⟩
    · exact ⟨_, wi5, .mk h0 h1 h2 h3 h4 hv h6 h7 h8 h9⟩
    · exact ⟨_, wi6, .mk h0 h1 h2 h3 h4 h5 hv h7 h8 h9⟩
    · exact ⟨_, wi7, .mk h0 h1 h2 h3 h4 h5 h6 hv h8 h9⟩
    · exact ⟨_, wi8, .mk h0 h1 h2 h3 h4 h5 h6 h7 hv h9⟩
    · exact ⟨_, wi9, .mk h0 h1 h2 h3 h4 h5 h6 h7 h8 hv⟩
def told (w0 w1 w2 w3 w4 w5 w6 w7 w8 w9 s0 s1 : Str) : List (Str × Bool) := [("note", decide (w0 = "behind")), ("call", decide (w1 = "lost")), ("put", decide (w2 = "last")), ("takes", decide (w4 = "takes")), ("comers", decide (w8 = "behind")), ("one", decide (w3 = "one") && decide (w6 = "never")), ("drops", decide (s1 = "leaving") && (decide (w7 = "drops") && !(decide (w3 = "all") && decide (w4 = "tries")))), ("always", decide (s0 = "any") && (decide (w4 = "tries") && decide (w6 = "always"))), ("many", decide (s0 = "any") && (decide (w4 = "tries") && !decide (w3 = "all"))), ("first", decide (s0 = "any") && (decide (w4 = "given") && decide (w9 = "first"))), ("never", decide (s0 = "any") && (decide (s1 = "leaving") && (decide (w4 = "given") && decide (w6 = "never"))))]
def miss (w0 w1 w2 w3 w4 w5 w6 w7 w8 w9 s0 s1 : Str) : List Str := opts (told w0 w1 w2 w3 w4 w5 w6 w7 w8 w9 s0 s1)
abbrev so (s0 s1 : Str) : D := .tuple [.str s0, .str s1]
def tD (x : Str × Bool) : D := .tuple [.str x.1, .bool x.2]
theorem missing_ok : m__law_missing (bk w0 w1 w2 w3 w4 w5 w6 w7 w8 w9, so s0 s1, ()) = .ok (.tuple ((miss w0 w1 w2 w3 w4 w5 w6 w7 w8 w9 s0 s1).map PyData.str)) := by
  refine p_need rfl (p_need rfl (p_need rfl (p_need rfl (p_need rfl (p_need rfl ?_)))))
  refine p_need rfl (p_need (a := decide (s0 = "any")) rfl (p_need rfl (p_need (a := decide (s1 = "leaving")) rfl (p_need (a := decide (w4 = "tries")) rfl ?_))))
  refine p_need rfl (p_need (a := decide (w0 = "behind")) rfl (p_need rfl (p_need (a := decide (w1 = "lost")) rfl (p_need rfl (p_need (a := decide (w2 = "last")) rfl ?_)))))
  refine p_need (a := decide (w4 = "takes")) rfl (p_need rfl (p_need (a := decide (w8 = "behind")) rfl (p_need (a := ((told w0 w1 w2 w3 w4 w5 w6 w7 w8 w9 s0 s1).take 5).map tD) rfl (p_need rfl ?_))))
  refine p_bnd (p_and (x := decide (w3 = "one")) (y := decide (w6 = "never")) rfl fun _ => p_last rfl) (p_need (a := ((told w0 w1 w2 w3 w4 w5 w6 w7 w8 w9 s0 s1).take 6).map tD) rfl ?_)
  refine p_bnd (p_and (x := decide (s1 = "leaving")) rfl fun _ => p_and (x := decide (w7 = "drops")) (y := !(decide (w3 = "all") && decide (w4 = "tries"))) rfl fun _ => p_bnd (p_and (x := decide (w3 = "all")) (y := decide (w4 = "tries")) rfl fun _ => p_last rfl) rfl) (p_need (a := ((told w0 w1 w2 w3 w4 w5 w6 w7 w8 w9 s0 s1).take 7).map tD) rfl ?_)
  refine p_bnd (p_and (x := decide (s0 = "any")) rfl fun _ => p_and (x := decide (w4 = "tries")) (y := decide (w6 = "always")) rfl fun _ => p_last rfl) (p_need (a := ((told w0 w1 w2 w3 w4 w5 w6 w7 w8 w9 s0 s1).take 8).map tD) rfl ?_)
  refine p_bnd (p_and (x := decide (s0 = "any")) rfl fun _ => p_and (x := decide (w4 = "tries")) (y := !decide (w3 = "all")) rfl fun _ => p_last rfl) (p_need (a := ((told w0 w1 w2 w3 w4 w5 w6 w7 w8 w9 s0 s1).take 9).map tD) rfl ?_)
  refine p_bnd (p_and (x := decide (s0 = "any")) rfl fun _ => p_and (x := decide (w4 = "given")) (y := decide (w9 = "first")) rfl fun _ => p_last rfl) (p_need (a := ((told w0 w1 w2 w3 w4 w5 w6 w7 w8 w9 s0 s1).take 10).map tD) rfl ?_)
  refine p_bnd (p_and (x := decide (s0 = "any")) rfl fun _ => p_and (x := decide (s1 = "leaving")) rfl fun _ => p_and (x := decide (w4 = "given")) (y := decide (w6 = "never")) rfl fun _ => p_last rfl) (p_need (a := (told w0 w1 w2 w3 w4 w5 w6 w7 w8 w9 s0 s1).map tD) rfl ?_)
  refine p_need (a := (told w0 w1 w2 w3 w4 w5 w6 w7 w8 w9 s0 s1).map tD) rfl (p_nox (p_filt (t := fun x : Str × Bool => x.2) (h := fun x => .str x.1) (acc := []) (fun x hx => ?_) (by show 0 + 11 ≤ 100000; decide)) (p_need (a := (miss w0 w1 w2 w3 w4 w5 w6 w7 w8 w9 s0 s1).map PyData.str) ?_ rfl))
  · exact p_need rfl (p_need (a := x.2) rfl (by cases x.2 <;> rfl))
  · show some (((told w0 w1 w2 w3 w4 w5 w6 w7 w8 w9 s0 s1).filter fun x => x.2).map fun x => PyData.str x.1) = _
    unfold miss opts
    rw [List.map_map]
    rfl
def la (w0 w1 w2 w3 w4 w5 w6 w7 w8 w9 : Str) : List (Str × Bool) := [("note", decide (w0 = "behind")), ("call", decide (w1 = "lost")), ("put", decide (w2 = "last")), ("takes", decide (w4 = "takes")), ("comers", decide (w8 = "behind")), ("one", decide (w3 = "one") && decide (w6 = "never"))]
theorem like_ok : m_like_lacks (bk w0 w1 w2 w3 w4 w5 w6 w7 w8 w9, ()) = .ok ((opts (la w0 w1 w2 w3 w4 w5 w6 w7 w8 w9)).map PyData.str) := by
  refine p_need rfl (p_bnd (a := (opts ((la w0 w1 w2 w3 w4 w5 w6 w7 w8 w9).take 5)).map PyData.str) (p_forS (t' := (opts ((la w0 w1 w2 w3 w4 w5 w6 w7 w8 w9).take 1)).map PyData.str) ?_ (p_forS (t' := (opts ((la w0 w1 w2 w3 w4 w5 w6 w7 w8 w9).take 2)).map PyData.str) ?_ (p_forS (t' := (opts ((la w0 w1 w2 w3 w4 w5 w6 w7 w8 w9).take 3)).map PyData.str) ?_ (p_forS (t' := (opts ((la w0 w1 w2 w3 w4 w5 w6 w7 w8 w9).take 4)).map PyData.str) ?_ (p_forS (t' := (opts ((la w0 w1 w2 w3 w4 w5 w6 w7 w8 w9).take 5)).map PyData.str) ?_ rfl))))) ?_)
  · exact p_need rfl (p_callP rfl wo0 (p_need (a := decide (w0 = "behind")) rfl (app_opts (l := []) (c := decide (w0 = "behind")) rfl rfl)))
  · exact p_need rfl (p_callP rfl wo1 (p_need (a := decide (w1 = "lost")) rfl (app_opts (l := (la w0 w1 w2 w3 w4 w5 w6 w7 w8 w9).take 1) (c := decide (w1 = "lost")) rfl rfl)))
  · exact p_need rfl (p_callP rfl wo2 (p_need (a := decide (w2 = "last")) rfl (app_opts (l := (la w0 w1 w2 w3 w4 w5 w6 w7 w8 w9).take 2) (c := decide (w2 = "last")) rfl rfl)))
  · exact p_need rfl (p_callP rfl wo4 (p_need (a := decide (w4 = "takes")) rfl (app_opts (l := (la w0 w1 w2 w3 w4 w5 w6 w7 w8 w9).take 3) (c := decide (w4 = "takes")) rfl rfl)))
  · exact p_need rfl (p_callP rfl wo8 (p_need (a := decide (w8 = "behind")) rfl (app_opts (l := (la w0 w1 w2 w3 w4 w5 w6 w7 w8 w9).take 4) (c := decide (w8 = "behind")) rfl rfl)))
  · refine p_jn (p_bnd (a := decide (w3 = "one") && decide (w6 = "never")) (p_callP rfl wo3 (p_and (x := decide (w3 = "one")) rfl fun _ => p_callP rfl wo6 (p_last rfl))) ?_)
    exact app_opts (l := (la w0 w1 w2 w3 w4 w5 w6 w7 w8 w9).take 5) (c := decide (w3 = "one") && decide (w6 = "never")) rfl rfl
def anyl (w0 w1 w2 w3 w4 w5 w6 w7 w8 w9 s1 : Str) : List (Str × Bool) := [("always", decide (w4 = "tries") && decide (w6 = "always")), ("many", decide (w4 = "tries") && !decide (w3 = "all")), ("first", decide (w4 = "given") && decide (w9 = "first")), ("never", decide (s1 = "leaving") && (decide (w4 = "given") && decide (w6 = "never")))]
theorem any_ok : m_any_lacks (bk w0 w1 w2 w3 w4 w5 w6 w7 w8 w9, .str s1, ()) = .ok ((opts (anyl w0 w1 w2 w3 w4 w5 w6 w7 w8 w9 s1)).map PyData.str) := by
  unfold anyl
  refine p_callP rfl wo6 (p_jn (p_callP rfl wo4 (p_need (a := decide (w4 = "tries")) rfl ?_)))
  have tail : (jn (α := List D) (fun k18 => bnd (lift (callM [true, true] (m_word_of) [.v (bk w0 w1 w2 w3 w4 w5 w6 w7 w8 w9), .v (.str "woken")])) fun d28 => bnd (need (eqF d28 (.str "given"))) fun b29 => (if b29 = true then jn (α := List D) (fun k20 => bnd (lift (callM [true, true] (m_word_of) [.v (bk w0 w1 w2 w3 w4 w5 w6 w7 w8 w9), .v (.str "order")])) fun d22 => bnd (need (eqF d22 (.str "first"))) fun b23 => (if b23 = true then bnd (need (appF ((opts ((anyl w0 w1 w2 w3 w4 w5 w6 w7 w8 w9 s1).take 2)).map PyData.str) (.str "first"))) fun l21 => k20 l21 else k20 ((opts ((anyl w0 w1 w2 w3 w4 w5 w6 w7 w8 w9 s1).take 2)).map PyData.str))) fun t19 => bnd (bnd (need (eqF (.str s1) (.str "leaving"))) fun b26 => (if b26 = true then bnd (need (eqF (.str w6) (.str "never"))) fun b25 => pur b25 else pur false)) fun b27 => (if b27 = true then bnd (need (appF t19 (.str "never"))) fun l24 => k18 l24 else k18 t19) else k18 ((opts ((anyl w0 w1 w2 w3 w4 w5 w6 w7 w8 w9 s1).take 2)).map PyData.str))) fun t17 => pur t17 : P (List D)) = .ok ((opts (anyl w0 w1 w2 w3 w4 w5 w6 w7 w8 w9 s1)).map PyData.str) := by
    refine p_jn (p_callP rfl wo4 (p_need (a := decide (w4 = "given")) rfl (p_ite (fun z => ?_) (fun z => ?_))))
    · refine p_jn (p_callP rfl wo9 (p_need (a := decide (w9 = "first")) rfl (app_opts (l := (anyl w0 w1 w2 w3 w4 w5 w6 w7 w8 w9 s1).take 2) (c := decide (w9 = "first")) rfl ?_)))
      refine p_bnd (p_and (x := decide (s1 = "leaving")) (y := decide (w6 = "never")) rfl fun _ => p_last rfl) ?_
      refine app_opts (l := (anyl w0 w1 w2 w3 w4 w5 w6 w7 w8 w9 s1).take 2 ++ ([("first", decide (w9 = "first"))] : List (Str × Bool))) (c := decide (s1 = "leaving") && decide (w6 = "never")) rfl ?_
      unfold anyl
      rw [z]
      rfl
    · have e : opts (anyl w0 w1 w2 w3 w4 w5 w6 w7 w8 w9 s1) = opts ((anyl w0 w1 w2 w3 w4 w5 w6 w7 w8 w9 s1).take 2) := by
        have : anyl w0 w1 w2 w3 w4 w5 w6 w7 w8 w9 s1 = (anyl w0 w1 w2 w3 w4 w5 w6 w7 w8 w9 s1).take 2 ++ ([("first", false)] : List (Str × Bool)) ++ ([("never", false)] : List (Str × Bool)) := by
          unfold anyl
          rw [z, Bool.false_and, Bool.false_and, Bool.and_false]
          rfl
        rw [this, opts_f, opts_f]
        rfl
      rw [e]
      rfl
  unfold anyl at tail
  refine p_ite (fun z => ?_) (fun z => ?_)
  · rw [z] at tail ⊢
    refine p_jn (p_need (a := decide (w6 = "always")) rfl (app_opts (l := []) (c := decide (w6 = "always")) rfl ?_))
    exact p_callP rfl wo3 (p_need (a := !decide (w3 = "all")) rfl (app_opts (l := [("always", decide (w6 = "always"))]) (c := !decide (w3 = "all")) rfl tail))
  · rw [z] at tail ⊢
    exact tail
theorem lacks_ok : m_lacks (bk w0 w1 w2 w3 w4 w5 w6 w7 w8 w9, so s0 s1, ()) = .ok (.tuple ((miss w0 w1 w2 w3 w4 w5 w6 w7 w8 w9 s0 s1).map PyData.str)) := by
  refine p_callP rfl like_ok (p_need rfl (p_jn (p_bnd (a := decide (s1 = "leaving") && decide (w7 = "drops")) (p_and (x := decide (s1 = "leaving")) rfl fun _ => p_callP rfl wo7 (p_last rfl)) ?_)))
  have tail : ∀ t6, t6 = (opts ((told w0 w1 w2 w3 w4 w5 w6 w7 w8 w9 s0 s1).take 7)).map PyData.str → (jn (α := List D) (fun k19 => bnd (need (eqF (.str s0) (.str "any"))) fun b22 => (if b22 = true then bnd (lift (callM [true, true] (m_any_lacks) [.v (bk w0 w1 w2 w3 w4 w5 w6 w7 w8 w9), .v (.str s1)])) fun l21 => bnd (need (extF t6 (.list l21))) fun l20 => k19 l20 else k19 t6)) fun t18 => bnd (need (itemsF [(.list t18)])) fun l23 => pur (PyData.tuple l23) : P D) = .ok (.tuple ((miss w0 w1 w2 w3 w4 w5 w6 w7 w8 w9 s0 s1).map PyData.str)) := by
    intro t6 ht
    subst ht
    have e : told w0 w1 w2 w3 w4 w5 w6 w7 w8 w9 s0 s1 = (told w0 w1 w2 w3 w4 w5 w6 w7 w8 w9 s0 s1).take 7 ++ (told w0 w1 w2 w3 w4 w5 w6 w7 w8 w9 s0 s1).drop 7 := (List.take_append_drop 7 _).symm
    refine p_jn (p_need (a := decide (s0 = "any")) rfl (p_ite (fun z => ?_) (fun z => ?_)))
    · refine p_callP rfl any_ok (p_need (ext_ok ?_) (p_need rfl ?_))
      · have h1 := opts_len ((told w0 w1 w2 w3 w4 w5 w6 w7 w8 w9 s0 s1).take 7)
        have h2 := opts_len (anyl w0 w1 w2 w3 w4 w5 w6 w7 w8 w9 s1)
        have h3 : ((told w0 w1 w2 w3 w4 w5 w6 w7 w8 w9 s0 s1).take 7).length = 7 := rfl
        have h4 : (anyl w0 w1 w2 w3 w4 w5 w6 w7 w8 w9 s1).length = 4 := rfl
        omega
      · have e2 : (told w0 w1 w2 w3 w4 w5 w6 w7 w8 w9 s0 s1).drop 7 = anyl w0 w1 w2 w3 w4 w5 w6 w7 w8 w9 s1 := by
          unfold told
          rw [z]
          rfl
        unfold miss
        rw [e, opts_append, e2]
        rfl
    · refine p_need rfl ?_
      have e2 : opts ((told w0 w1 w2 w3 w4 w5 w6 w7 w8 w9 s0 s1).drop 7) = [] := by
        unfold told
        rw [z]
        rfl
      unfold miss
      rw [e, opts_append, e2, List.append_nil]
      rfl
  refine p_ite (fun z => ?_) (fun z => ?_)
  · refine p_bnd (a := !decide (w3 = "all") || !decide (w4 = "tries")) (p_callP rfl wo3 (p_or (x := !decide (w3 = "all")) rfl fun _ => p_callP rfl wo4 (p_last rfl))) ?_
    refine app_opts (l := la w0 w1 w2 w3 w4 w5 w6 w7 w8 w9) (c := !decide (w3 = "all") || !decide (w4 = "tries")) rfl (tail _ ?_)
    rw [Bool.and_eq_true] at z
    show _ = (opts (la w0 w1 w2 w3 w4 w5 w6 w7 w8 w9 ++ ([("drops", decide (s1 = "leaving") && (decide (w7 = "drops") && !(decide (w3 = "all") && decide (w4 = "tries"))))] : List (Str × Bool)))).map PyData.str
    rw [z.1, z.2, Bool.true_and, Bool.true_and, Bool.not_and]
  · refine tail _ ?_
    show _ = (opts (la w0 w1 w2 w3 w4 w5 w6 w7 w8 w9 ++ ([("drops", decide (s1 = "leaving") && (decide (w7 = "drops") && !(decide (w3 = "all") && decide (w4 = "tries"))))] : List (Str × Bool)))).map PyData.str
    rw [← Bool.and_assoc, z, Bool.false_and, opts_f]
def W11 : List Str := ["note", "call", "put", "takes", "comers", "one", "drops", "always", "many", "first", "never"]
theorem wd11 : ∀ w ∈ W11, wordy 20 w = true := by decide +kernel
theorem rep_miss : Rep 1 300 (.tuple ((miss w0 w1 w2 w3 w4 w5 w6 w7 w8 w9 s0 s1).map PyData.str)) := by
  have hl := opts_len (told w0 w1 w2 w3 w4 w5 w6 w7 w8 w9 s0 s1)
  have h3 : (told w0 w1 w2 w3 w4 w5 w6 w7 w8 w9 s0 s1).length = 11 := rfl
  refine (Rep.tup (k := 0) (n := 20) fun d hd => ?_).mono (by decide) ?_
  · obtain ⟨s, hs, rfl⟩ := List.mem_map.mp hd
    obtain ⟨p, hp, rfl⟩ := List.mem_map.mp hs
    have hp := (List.mem_filter.mp hp).1
    exact Rep.str (wd11 p.1 (show p.1 ∈ W11 from (List.mem_map_of_mem (f := fun p : Str × Bool => p.1) hp : p.1 ∈ (told w0 w1 w2 w3 w4 w5 w6 w7 w8 w9 s0 s1).map fun p => p.1)))
  · rw [List.length_map]
    unfold miss
    have := Nat.mul_le_mul_right (20 + 2) (show (opts (told w0 w1 w2 w3 w4 w5 w6 w7 w8 w9 s0 s1)).length ≤ 11 by omega)
    omega
theorem is_good_ok : m_is_good (bk w0 w1 w2 w3 w4 w5 w6 w7 w8 w9, so s0 s1, ()) = .ok (miss w0 w1 w2 w3 w4 w5 w6 w7 w8 w9 s0 s1).isEmpty := by
  refine p_callP rfl lacks_ok (p_need (eqT_nil rep_miss (by decide)) ?_)
  rw [List.isEmpty_map]
  rfl
theorem wdall : ∀ k : Fin 10, ∀ w ∈ entr k.val, wordy 20 w = true := by decide +kernel
theorem rep_bk {b : D} (hb : Bk b) : Rep 1 300 b := by
  cases hb with
  | mk h0 h1 h2 h3 h4 h5 h6 h7 h8 h9 =>
    refine (Rep.tup (k := 0) (n := 20) fun d hd => ?_).mono (by decide) (by show 10 * (20 + 2) + 3 ≤ 300; decide)
    simp only [List.mem_cons, List.not_mem_nil, or_false] at hd
    rcases hd with rfl | rfl | rfl | rfl | rfl | rfl | rfl | rfl | rfl | rfl
    · exact Rep.str (wdall 0 _ h0)
    · exact Rep.str (wdall 1 _ h1)
    · exact Rep.str (wdall 2 _ h2)
    · exact Rep.str (wdall 3 _ h3)
    · exact Rep.str (wdall 4 _ h4)
    · exact Rep.str (wdall 5 _ h5)
    · exact Rep.str (wdall 6 _ h6)
    · exact Rep.str (wdall 7 _ h7)
    · exact Rep.str (wdall 8 _ h8)
    · exact Rep.str (wdall 9 _ h9)
inductive So : D → Prop
  | mk {s0 s1 : Str} (h0 : s0 ∈ (["like", "any"] : List Str)) (h1 : s1 ∈ (["staying", "leaving"] : List Str)) : So (so s0 s1)
theorem rep_so {b : D} (hb : So b) : Rep 1 300 b := by
  cases hb with
  | mk h0 h1 =>
    have e0 : ∀ w ∈ (["like", "any"] : List Str), wordy 20 w = true := by decide +kernel
    have e1 : ∀ w ∈ (["staying", "leaving"] : List Str), wordy 20 w = true := by decide +kernel
    refine (Rep.tup (k := 0) (n := 20) fun d hd => ?_).mono (by decide) (by show 2 * (20 + 2) + 3 ≤ 300; decide)
    simp only [List.mem_cons, List.not_mem_nil, or_false] at hd
    rcases hd with rfl | rfl
    · exact Rep.str (e0 _ h0)
    · exact Rep.str (e1 _ h1)
theorem str_of {ys : List Str} {x : D} (h : x ∈ ys.map PyData.str) : ∃ w, w ∈ ys ∧ x = .str w := by
  obtain ⟨w, hw, rfl⟩ := List.mem_map.mp h
  exact ⟨w, hw, rfl⟩
def chk : P D → Bool
  | .ok (.list ms) => !ms.isEmpty && (decide (ms.length ≤ 100) && ms.all isBk)
  | _ => false
theorem chk_elim {p : P D} {g : GH} {Q : D → GH → Prop} {E : Xc → GH → Prop} (h : chk p = true) (hq : ∀ ms, ms ≠ [] → ms.length ≤ 100 → (∀ b ∈ ms, Bk b) → Q (.list ms) g) : wpP p g Q E := by
  unfold chk at h
  split at h
  · rename_i ms
    rw [Bool.and_eq_true, Bool.and_eq_true] at h
    refine hq ms ?_ (of_decide_eq_true h.2.1) fun b hb => bk_of (List.all_eq_true.mp h.2.2 b hb)
    intro z
    rw [z] at h
    exact absurd h.1 (by decide)
  · cases h
section
variable {m : Nat} {g : GH} {p : Addr} {s : D} {Q : D → GH → Prop} {E : Xc → GH → Prop}
theorem sort_ok (h : Bag (m + 2) g p) (hq : ∀ s g', So s → Bag m g' p → Q s g') : (m__law_sort (p, ())).wp g Q E := by
  refine w_call (f := m__law_pick) (a := (p, .list [.str "like", .str "any"], ())) rfl (pick_ok (m := m + 1) h (.inl rfl) (by intro z; cases z) (show 2 ≤ 100000 by decide) fun x g1 hx j1 => ?_)
  refine w_call (f := m__law_pick) (a := (p, .list [.str "staying", .str "leaving"], ())) rfl (pick_ok (m := m) j1 (.inl rfl) (by intro z; cases z) (show 2 ≤ 100000 by decide) fun y g2 hy j2 => ?_)
  obtain ⟨s0, h0, rfl⟩ := str_of (ys := ["like", "any"]) hx
  obtain ⟨s1, h1, rfl⟩ := str_of (ys := ["staying", "leaving"]) hy
  exact w_pur (hq _ g2 (.mk h0 h1) j2)
theorem right_ok (hs : So s) (h : Bag (m + 2) g p) (hq : ∀ b g', Bk b → Bag m g' p → Q b g') : (m__law_right (p, s, ())).wp g Q E := by
  have fin : ∀ ms : List D, ms ≠ [] → ms.length ≤ 100 → (∀ b ∈ ms, Bk b) → (bnd (nox (callM [false, true] (m__law_pick) [.o p, .v (.list ms)])) fun d36 => bnd (nox (callM [false, true] (m__law_pick) [.o p, .v (.list [(.str "back"), (.str "front")])])) fun d37 => bnd (lift (callM [true, true, true] (m__law_with) [.v d36, .v (.int 5), .v d37])) fun d35 => pur d35 : M GH D).wp g Q E := by
    intro ms h1 h2 h3
    refine w_call (f := m__law_pick) (a := (p, .list ms, ())) rfl (pick_ok (m := m + 1) h (.inl rfl) h1 (by omega) fun b g1 hb j1 => ?_)
    refine w_call (f := m__law_pick) (a := (p, .list [.str "back", .str "front"], ())) rfl (pick_ok (m := m) j1 (.inl rfl) (by intro z; cases z) (show 2 ≤ 100000 by decide) fun y g2 hy j2 => ?_)
    obtain ⟨v, hv, rfl⟩ := str_of (ys := ["back", "front"]) hy
    obtain ⟨c, e, hc⟩ := with_ok (h3 b hb) (i := 5) (by decide) (by decide) (v := v) hv
    exact w_callP (f := m__law_with) (a := (b, .int 5, .str v, ())) rfl e (w_pur (hq c g2 hc j2))
  cases hs with
  | mk h0 h1 =>
    simp only [List.mem_cons, List.not_mem_nil, or_false] at h0 h1
    rcases h0 with rfl | rfl <;> rcases h1 with rfl | rfl
    all_goals
      refine w_need rfl ?_
      apply w_tr
      case h => repeat' (first | apply tr_bnd | intro _ | exact tr_lift | exact tr_need | exact tr_pur | apply tr_ite | apply tr_forP)
      case hw => exact chk_elim (by decide +kernel) fin
def entl : List D := [.tuple [.str "ahead", .str "behind"], .tuple [.str "kept", .str "lost"], .tuple [.str "first", .str "last"], .tuple [.str "one", .str "each", .str "all"], .tuple [.str "tries", .str "takes", .str "given"], .tuple [.str "back", .str "front"], .tuple [.str "never", .str "left", .str "always"], .tuple [.str "passes", .str "drops"], .tuple [.str "free", .str "behind"], .tuple [.str "first", .str "any"]]
theorem entries_ok : m__law_entries () = .ok entl := by kernel_rfl
theorem entl_at {i : Int} (i0 : 0 ≤ i) (i1 : i < 10) : ixF (.list entl) (.int i) = some (.tuple ((entr i.toNat).map PyData.str)) := by
  rcases ten i0 i1 with rfl | rfl | rfl | rfl | rfl | rfl | rfl | rfl | rfl | rfl <;> rfl
theorem entr_ne {i : Int} (i0 : 0 ≤ i) (i1 : i < 10) : entr i.toNat ≠ [] ∧ (entr i.toNat).length ≤ 3 := by
  rcases ten i0 i1 with rfl | rfl | rfl | rfl | rfl | rfl | rfl | rfl | rfl | rfl <;> decide +kernel
theorem drawn_bk {es : List D} (h : All2 (fun d e => ∃ xs, d = .tuple xs ∧ e ∈ xs) entl es) : Bk (.tuple es) := by
  unfold entl at h
  cases h with | cons a0 h =>
  cases h with | cons a1 h =>
  cases h with | cons a2 h =>
  cases h with | cons a3 h =>
  cases h with | cons a4 h =>
  cases h with | cons a5 h =>
  cases h with | cons a6 h =>
  cases h with | cons a7 h =>
  cases h with | cons a8 h =>
  cases h with | cons a9 h =>
  cases h
  obtain ⟨xs0, e0, m0⟩ := a0
  cases e0
  obtain ⟨w0, h0, rfl⟩ := str_of (ys := entr 0) m0
  obtain ⟨xs1, e1, m1⟩ := a1
  cases e1
  obtain ⟨w1, h1, rfl⟩ := str_of (ys := entr 1) m1
  obtain ⟨xs2, e2, m2⟩ := a2
  cases e2
  obtain ⟨w2, h2, rfl⟩ := str_of (ys := entr 2) m2
  obtain ⟨xs3, e3, m3⟩ := a3
  cases e3
  obtain ⟨w3, h3, rfl⟩ := str_of (ys := entr 3) m3
  obtain ⟨xs4, e4, m4⟩ := a4
  cases e4
  obtain ⟨w4, h4, rfl⟩ := str_of (ys := entr 4) m4
  obtain ⟨xs5, e5, m5⟩ := a5
  cases e5
  obtain ⟨w5, h5, rfl⟩ := str_of (ys := entr 5) m5
  obtain ⟨xs6, e6, m6⟩ := a6
  cases e6
  obtain ⟨w6, h6, rfl⟩ := str_of (ys := entr 6) m6
  obtain ⟨xs7, e7, m7⟩ := a7
  cases e7
  obtain ⟨w7, h7, rfl⟩ := str_of (ys := entr 7) m7
  obtain ⟨xs8, e8, m8⟩ := a8
  cases e8
  obtain ⟨w8, h8, rfl⟩ := str_of (ys := entr 8) m8
  obtain ⟨xs9, e9, m9⟩ := a9
  cases e9
  obtain ⟨w9, h9, rfl⟩ := str_of (ys := entr 9) m9
  exact .mk h0 h1 h2 h3 h4 h5 h6 h7 h8 h9
theorem book_ok (hs : So s) (h : Bag (m + 20) g p) (hq : ∀ b g', Bk b → Bag m g' p → Q b g') : (m__law_book (p, s, ())).wp g Q E := by
  have big := sizeLine_eq
  refine w_call (f := m__law_draw) (a := (p, .int 4, ())) rfl (draw_ok (m := m + 19) h (by decide) (by decide) fun i g1 j1 i0 i4 => ?_)
  refine w_need (a := (i == 0)) rfl (w_ite (fun _ => ?_) (fun _ => ?_))
  · refine w_lift entries_ok (w_need (a := entl) rfl (w_nox (w_mono (w_compLn (fun n g' => Bag (m + n) g' p) (fun d e => ∃ xs, d = .tuple xs ∧ e ∈ xs) (fun d hd n g2 j2 => ?_) (by show 0 + 10 ≤ sizeLine; omega) (j1.mono (show m + 10 ≤ m + 19 by omega))) fun xs g2 hx => ?_)))
    · refine w_need rfl (w_ite (fun _ => ?_) (fun z => absurd rfl z))
      have hd2 : ∃ xs : List D, d = .tuple xs ∧ xs ≠ [] ∧ xs.length ≤ 3 := by
        unfold entl at hd
        simp only [List.mem_cons, List.not_mem_nil, or_false] at hd
        rcases hd with rfl | rfl | rfl | rfl | rfl | rfl | rfl | rfl | rfl | rfl <;> exact ⟨_, rfl, (by intro z; cases z), Nat.le_of_ble_eq_true rfl⟩
      obtain ⟨xs, rfl, hx, hl⟩ := hd2
      exact w_call (f := m__law_pick) (a := (p, .tuple xs, ())) rfl (pick_ok (m := m + n) j2 (.inr rfl) hx (by omega) fun x g3 hx3 j3 => w_pur ⟨x, rfl, ⟨xs, rfl, hx3⟩, j3⟩)
    · obtain ⟨j2, es, rfl, al⟩ := hx
      exact w_need rfl (w_pur (hq _ g2 (drawn_bk al) (j2.mono (by omega))))
  · refine w_call (f := m__law_right) (a := (p, s, ())) rfl (right_ok (m := m + 17) hs j1 fun b g2 hb j2 => ?_)
    refine w_need subF_i (w_need (rng_ok (by omega) (by omega)) (w_bnd (w_mono (w_forPn (fun n t g' => Bag (m + n * 2) g' p ∧ Bk t) (fun d hd n t g3 hg => ?_) ⟨j2.mono (by rw [rangeD_len]; omega), hb⟩) fun t g3 hg => ?_)))
    · obtain ⟨j3, ht⟩ := hg
      refine w_need rfl (w_call (f := m__law_draw) (a := (p, .int 10, ())) rfl (draw_ok (m := m + n * 2 + 1) (j3.mono (by omega)) (by decide) (by decide) fun k g4 j4 k0 k1 => ?_))
      refine w_lift entries_ok (w_need (entl_at k0 k1) ?_)
      obtain ⟨e1, e2⟩ := entr_ne k0 k1
      refine w_call (f := m__law_pick) (a := (p, .tuple ((entr k.toNat).map PyData.str), ())) rfl (pick_ok (m := m + n * 2) j4 (.inr rfl) (by intro z; exact e1 (List.map_eq_nil_iff.mp z)) (by rw [List.length_map]; omega) fun y g5 hy j5 => ?_)
      obtain ⟨v, hv, rfl⟩ := str_of hy
      obtain ⟨c, e, hc⟩ := with_ok ht k0 k1 hv
      exact w_callP (f := m__law_with) (a := (t, .int k, .str v, ())) rfl e (w_pur ⟨j5, hc⟩)
    · exact w_pur (hq t g3 hg.2 (hg.1.mono (by omega)))
end
end LawX

set_option Elab.async false
set_option linter.all false
set_option autoImplicit false
set_option maxRecDepth 100000
set_option maxHeartbeats 400000
set_option pp.maxSteps 600
namespace LawX
open PySem PySem.Spec PyProof.Rows L2 Cl
open MO
def nms : Nat → Str
  | 0 => "note"
  | 1 => "call"
  | 2 => "put"
  | 3 => "many"
  | 4 => "woken"
  | 5 => "fails"
  | 6 => "pass"
  | 7 => "quits"
  | 8 => "comers"
  | 9 => "order"
  | _ => ""
theorem wdnms : ∀ k : Fin 10, wordy 20 (nms k.val) = true := by decide +kernel
theorem turned_with {b : D} (hb : Bk b) {i : Int} (i0 : 0 ≤ i) (i1 : i < 10) {v : Str} (hv : v ∈ entr i.toNat) : m_turned (b, .str (nms i.toNat), .str v, ()) = m__law_with (b, .int i, .str v, ()) := by
  cases hb with
  | mk h0 h1 h2 h3 h4 h5 h6 h7 h8 h9 =>
    rcases ten i0 i1 with rfl | rfl | rfl | rfl | rfl | rfl | rfl | rfl | rfl | rfl
    · rcases (show v = "ahead" ∨ v = "behind" by simpa [entr] using hv) with rfl | rfl <;> kernel_rfl
    · rcases (show v = "kept" ∨ v = "lost" by simpa [entr] using hv) with rfl | rfl <;> kernel_rfl
    · rcases (show v = "first" ∨ v = "last" by simpa [entr] using hv) with rfl | rfl <;> kernel_rfl
    · rcases (show v = "one" ∨ v = "each" ∨ v = "all" by simpa [entr] using hv) with rfl | rfl | rfl <;> kernel_rfl
    · rcases (show v = "tries" ∨ v = "takes" ∨ v = "given" by simpa [entr] using hv) with rfl | rfl | rfl <;> kernel_rfl
    · rcases (show v = "back" ∨ v = "front" by simpa [entr] using hv) with rfl | rfl <;> kernel_rfl
    · rcases (show v = "never" ∨ v = "left" ∨ v = "always" by simpa [entr] using hv) with rfl | rfl | rfl <;> kernel_rfl
    · rcases (show v = "passes" ∨ v = "drops" by simpa [entr] using hv) with rfl | rfl <;> kernel_rfl
    · rcases (show v = "free" ∨ v = "behind" by simpa [entr] using hv) with rfl | rfl <;> kernel_rfl
    · rcases (show v = "first" ∨ v = "any" by simpa [entr] using hv) with rfl | rfl <;> kernel_rfl
theorem both_ok {b s : D} (hb : Bk b) (hs : So s) : ∃ T, m__law_missing (b, s, ()) = .ok T ∧ m_lacks (b, s, ()) = .ok T ∧ Rep 1 300 T := by
  cases hb with
  | mk h0 h1 h2 h3 h4 h5 h6 h7 h8 h9 =>
    cases hs with
    | mk k0 k1 => exact ⟨_, missing_ok, lacks_ok, rep_miss⟩
/-- does it make another answer? -/
def qf (b s T : D) (i : Int) (v : Str) : Bool := match m__law_with (b, .int i, .str v, ()) with
  | .ok c => match m__law_missing (c, s, ()) with
    | .ok T' => !PyData.eqv T' T
    | _ => false
  | _ => false
theorem qf_ok {b s T : D} (hb : Bk b) (hs : So s) (hT : Rep 1 300 T) {i : Int} (i0 : 0 ≤ i) (i1 : i < 10) {v : Str} (hv : v ∈ entr i.toNat) : ∃ c T', m__law_with (b, .int i, .str v, ()) = .ok c ∧ m__law_missing (c, s, ()) = .ok T' ∧ m_lacks (c, s, ()) = .ok T' ∧ neF T' T = some (qf b s T i v) := by
  obtain ⟨c, e, hc⟩ := with_ok hb i0 i1 hv
  obtain ⟨T', f1, f2, f3⟩ := both_ok hc hs
  refine ⟨c, T', e, f1, f2, ?_⟩
  have q : qf b s T i v = !PyData.eqv T' T := by
    unfold qf
    rw [e]
    dsimp only
    rw [f1]
  rw [q]
  have s1 := f3.shaped (by decide)
  have s2 := hT.shaped (by decide)
  have nt : ∀ a c : D, SeqAt.shaped a = true → SeqAt.shaped c = true → eqF a c = some (PyData.eqv a c) := fun a c h1 h2 => by
    unfold eqF
    split
    · rename_i x y
      first | rfl | (congr 1; simp [PyData.eqv])
    · rw [if_pos ⟨h1, h2⟩]
  show (eqF T' T).map (!·) = _
  rw [nt _ _ s1 s2]
  rfl
def cond (b s T : D) (k : Nat) : Bool := ((entr k).filter (qf b s T k)).isEmpty
def spare (b s T : D) : List (Str × Bool) := (List.range 10).map fun k => (nms k, cond b s T k)
theorem spare_take {b s T : D} {k : Nat} (h : k < 10) : (spare b s T).take (k + 1) = (spare b s T).take k ++ [(nms k, cond b s T k)] := by
  rw [List.take_succ]
  unfold spare
  rw [List.getElem?_map, List.getElem?_range h]
  rfl
theorem p_forI {τ : Type} {f : D → τ → P τ} {mk : Nat → D} {T : Nat → τ} : ∀ (n k : Nat), (∀ j, k ≤ j → j < k + n → f (mk j) (T j) = .ok (T (j + 1))) → (forP ((List.range' k n).map mk) (T k) f : P τ) = .ok (T (k + n))
  | 0, k, _ => rfl
  | n + 1, k, h => by
    rw [List.range'_succ, List.map_cons]
    refine p_bnd (h k (Nat.le_refl _) (by omega)) ?_
    have := p_forI (f := f) (mk := mk) (T := T) n (k + 1) fun j h1 h2 => h j (by omega) (by omega)
    rw [this, show k + 1 + n = k + (n + 1) by omega]
theorem eqL_nil {k n : Nat} {ds : List D} (h : Rep k n (.list ds)) (hk : k ≤ 64) : eqF (.list ds) (.list []) = some ds.isEmpty := by
  show (if SeqAt.shaped (.list ds) = true ∧ SeqAt.shaped (.list []) = true then some (PyData.eqv (.list ds) (.list [])) else none) = _
  rw [if_pos ⟨h.shaped hk, by decide⟩]
  cases ds <;> rfl
def mkE (k : Nat) : D := .tuple [.str (nms k), .tuple ((entr k).map PyData.str)]
theorem entr_len (k : Nat) (h : k < 10) : (entr k).length ≤ 3 := (entr_ne (i := (k : Nat)) (by omega) (by omega)).2
theorem idle_ok {b s T : D} (hb : Bk b) (hs : So s) (hT : Rep 1 300 T) (hl : m_lacks (b, s, ()) = .ok T) : m_idle (b, s, ()) = .ok (.tuple ((opts (spare b s T)).map PyData.str)) := by
  refine p_callP (f := m_lacks) (a := (b, s, ())) rfl hl (p_lift (a := G_ENTRIES) rfl (p_need (a := (List.range' 0 10).map mkE) (by kernel_rfl) (p_bnd (p_forI (T := fun k => (opts ((spare b s T).take k)).map PyData.str) 10 0 fun k _ hk => ?_) (p_need rfl ?_))))
  · have hk : k < 10 := by omega
    have hlen := entr_len k hk
    refine p_need (a := (.str (nms k), .tuple ((entr k).map PyData.str))) rfl (p_need (a := (entr k).map PyData.str) rfl (p_nox (p_filt (t := qf b s T k) (h := PyData.str) (acc := []) (fun v hv => ?_) (by rw [List.length_nil]; omega)) ?_))
    · obtain ⟨c, T', e1, e2, e3, e4⟩ := qf_ok hb hs hT (i := (k : Nat)) (by omega) (by omega) (v := v) (by rw [Int.toNat_natCast]; exact hv)
      have e0 := (turned_with hb (i := (k : Nat)) (by omega) (by omega) (v := v) (by rw [Int.toNat_natCast]; exact hv)).trans e1
      rw [Int.toNat_natCast] at e0
      refine p_need rfl (p_callP (f := m_turned) (a := (b, .str (nms k), .str v, ())) rfl e0 (p_callP (f := m_lacks) (a := (c, s, ())) rfl e3 (p_need e4 ?_)))
      cases qf b s T k v <;> rfl
    · have rl : Rep 1 100 (.list ([] ++ ((entr k).filter (qf b s T k)).map PyData.str)) := by
        have hf := List.length_filter_le (qf b s T k) (entr k)
        have h3 := Nat.mul_le_mul_right (20 + 2) (show ((entr k).filter (qf b s T k)).length ≤ 3 by omega)
        refine (Rep.lst (k := 0) (n := 20) fun d hd => ?_).mono (by decide) (by rw [List.nil_append, List.length_map]; omega)
        rw [List.nil_append] at hd
        obtain ⟨v, hv, rfl⟩ := List.mem_map.mp hd
        exact Rep.str (wdall ⟨k, hk⟩ v (List.mem_filter.mp hv).1)
      refine p_need (eqL_nil rl (by decide)) ?_
      rw [List.nil_append, List.isEmpty_map, spare_take hk]
      refine app_opts (l := (spare b s T).take k) (c := cond b s T k) ?_ rfl
      refine Nat.ble_eq_true_of_le ?_
      rw [List.length_take]
      omega
  · show P.ok (PyData.tuple ((opts ((spare b s T).take 10)).map PyData.str)) = _
    rw [List.take_of_length_le (by unfold spare; rw [List.length_map, List.length_range]; exact Nat.le_refl _)]
theorem rep_spare {b s T : D} : Rep 1 300 (.tuple ((opts (spare b s T)).map PyData.str)) := by
  have hl := opts_len (spare b s T)
  have h3 : (spare b s T).length = 10 := by unfold spare; rw [List.length_map, List.length_range]
  have h4 := Nat.mul_le_mul_right (20 + 2) (show (opts (spare b s T)).length ≤ 10 by omega)
  refine (Rep.tup (k := 0) (n := 20) fun d hd => ?_).mono (by decide) (by rw [List.length_map]; omega)
  obtain ⟨x, hx, rfl⟩ := List.mem_map.mp hd
  obtain ⟨p, hp, rfl⟩ := List.mem_map.mp hx
  have hp := (List.mem_filter.mp hp).1
  obtain ⟨k, hk, rfl⟩ := List.mem_map.mp hp
  exact Rep.str (wdnms ⟨k, List.mem_range.mp hk⟩)
abbrev Co := Str × Str × Str × Str × Str
def combos : List Co := (["one", "each", "all"] : List Str).flatMap fun m => (["tries", "given"] : List Str).flatMap fun k => (["never", "left", "always"] : List Str).flatMap fun p => (["passes", "drops"] : List Str).flatMap fun q => (["first", "any"] : List Str).map fun o => (m, k, p, q, o)
abbrev bkc (v : Str) (c : Co) : D := bk "ahead" "kept" "first" c.1 c.2.1 v c.2.2.1 c.2.2.2.1 "free" c.2.2.2.2
theorem combos_in : ∀ c ∈ combos, c.1 ∈ entr 3 ∧ c.2.1 ∈ entr 4 ∧ c.2.2.1 ∈ entr 6 ∧ c.2.2.2.1 ∈ entr 7 ∧ c.2.2.2.2 ∈ entr 9 := by decide +kernel
theorem bkc_bk {v : Str} {c : Co} (hv : v ∈ entr 5) (hc : c ∈ combos) : Bk (bkc v c) := by
  obtain ⟨h3, h4, h6, h7, h9⟩ := combos_in c hc
  exact .mk (by decide +kernel) (by decide +kernel) (by decide +kernel) h3 h4 hv h6 h7 (by decide +kernel) h9
def gd (s0 s1 : Str) (c : Co) : Bool := (miss "ahead" "kept" "first" c.1 c.2.1 "back" c.2.2.1 c.2.2.2.1 "free" c.2.2.2.2 s0 s1).isEmpty
theorem some_gd {s0 s1 : Str} (h0 : s0 ∈ (["like", "any"] : List Str)) (h1 : s1 ∈ (["staying", "leaving"] : List Str)) : ∃ c ∈ combos, gd s0 s1 c = true := by
  simp only [List.mem_cons, List.not_mem_nil, or_false] at h0 h1
  rcases h0 with rfl | rfl <;> rcases h1 with rfl | rfl <;> exact List.any_eq_true.mp (by decide +kernel)
variable {w0 w1 w2 w3 w4 w5 w6 w7 w8 w9 s0 s1 : Str}
theorem cands_ok : m_candidates (bk w0 w1 w2 w3 w4 w5 w6 w7 w8 w9, ()) = .ok (.list (combos.map (bkc w5))) := by kernel_rfl
/-- how many are unlike -/
def cnt (xs : List (Str × Str)) : Nat := (xs.filter fun x => !decide (x.1 = x.2)).length
theorem cnt_cons (x : Str × Str) (xs : List (Str × Str)) : cnt (x :: xs) = (if x.1 = x.2 then 0 else 1) + cnt xs := by
  unfold cnt
  by_cases h : x.1 = x.2
  · rw [List.filter_cons_of_neg (by simp [h]), if_pos h, Nat.zero_add]
  · rw [List.filter_cons_of_pos (by simp [h]), if_neg h, List.length_cons, Nat.add_comm]
theorem cnt_le (xs : List (Str × Str)) : cnt xs ≤ xs.length := List.length_filter_le _ _
theorem cnt_nil : cnt [] = 0 := rfl
def prs (w0 w1 w2 w3 w4 w5 w6 w7 w8 w9 v : Str) (c : Co) : List (Str × Str) := [(w0, "ahead"), (w1, "kept"), (w2, "first"), (w3, c.1), (w4, c.2.1), (w5, v), (w6, c.2.2.1), (w7, c.2.2.2.1), (w8, "free"), (w9, c.2.2.2.2)]
def dst (w0 w1 w2 w3 w4 w5 w6 w7 w8 w9 : Str) (c : Co) : Nat := cnt (prs w0 w1 w2 w3 w4 w5 w6 w7 w8 w9 w5 c)
def prD (x : Str × Str) : D := .tuple [.str x.1, .str x.2]
theorem cnt_ok (xs : List (Str × Str)) (h : xs.length ≤ 1000) : (compL (xs.map prD) [] (fun d13 => bnd (need ((unT (unC some (un1 some))) d13)) fun a12 => bnd (need (neF a12.1 a12.2)) fun b14 => (if b14 = true then pur (some (.int 1)) else pur none)) : P (List D)) = .ok ((xs.filter fun x => !decide (x.1 = x.2)).map fun _ => .int 1) := by
  refine (p_filt (t := fun x : Str × Str => !decide (x.1 = x.2)) (h := fun _ => .int 1) (acc := []) (fun x hx => ?_) (by rw [List.length_nil]; omega)).trans (by rw [List.nil_append])
  refine p_need (a := (.str x.1, .str x.2)) rfl (p_need (a := !decide (x.1 = x.2)) rfl ?_)
  cases (!decide (x.1 = x.2)) <;> rfl
theorem len_ok (xs : List (Str × Str)) : lenF [.list ((xs.filter fun x => !decide (x.1 = x.2)).map fun _ => PyData.int 1)] = some ((cnt xs : Nat) : Int) := by
  show some ((((xs.filter fun x => !decide (x.1 = x.2)).map fun _ => PyData.int 1).length : Nat) : Int) = _
  rw [List.length_map]
  rfl
/-! ### folds -/
theorem p_forF {ι τ σ : Type} {m : ι → D} {st : σ → τ} {F : σ → ι → σ} {f : D → τ → P τ} : ∀ {xs : List ι} {s : σ}, (∀ x ∈ xs, ∀ s, f (m x) (st s) = .ok (st (F s x))) → (forP (xs.map m) (st s) f : P τ) = .ok (st (xs.foldl F s))
  | [], _, _ => rfl
  | x :: xs, s, h => p_bnd (h x List.mem_cons_self s) (p_forF fun y hy => h y (List.mem_cons_of_mem _ hy))
section
variable {ι : Type} (g : ι → Bool) (d : ι → Nat)
def stepM (s : Nat × Option ι) (c : ι) : Nat × Option ι := if g c = true then (if d c < s.1 then (d c, some c) else s) else s
theorem foldM_ok : ∀ (cs : List ι) (s : Nat × Option ι), (cs.foldl (stepM g d) s).1 ≤ s.1 ∧ (∀ c ∈ cs, g c = true → (cs.foldl (stepM g d) s).1 ≤ d c) ∧ (cs.foldl (stepM g d) s = s ∨ ∃ c ∈ cs, g c = true ∧ cs.foldl (stepM g d) s = (d c, some c))
  | [], s => ⟨Nat.le_refl _, fun c hc => (by cases hc), .inl rfl⟩
  | x :: cs, s => by
    obtain ⟨h1, h2, h3⟩ := foldM_ok cs (stepM g d s x)
    have h4 : (stepM g d s x).1 ≤ s.1 ∧ (g x = true → (stepM g d s x).1 ≤ d x) ∧ (stepM g d s x = s ∨ (g x = true ∧ stepM g d s x = (d x, some x))) := by
      unfold stepM
      split
      · rename_i hg
        split
        · exact ⟨by dsimp only; omega, fun _ => Nat.le_refl _, .inr ⟨hg, rfl⟩⟩
        · exact ⟨Nat.le_refl _, fun _ => by omega, .inl rfl⟩
      · rename_i hg
        exact ⟨Nat.le_refl _, fun z => absurd z hg, .inl rfl⟩
    rw [List.foldl_cons]
    refine ⟨Nat.le_trans h1 h4.1, fun c hc hg => ?_, ?_⟩
    · rcases List.mem_cons.mp hc with rfl | hc
      · exact Nat.le_trans h1 (h4.2.1 hg)
      · exact h2 c hc hg
    · rcases h3 with h3 | ⟨c, hc, hg, e⟩
      · rw [h3]
        rcases h4.2.2 with h5 | ⟨h5, h6⟩
        · exact .inl h5
        · exact .inr ⟨x, List.mem_cons_self, h5, h6⟩
      · exact .inr ⟨c, List.mem_cons_of_mem _ hc, hg, e⟩
end
def stM (w0 w1 w2 w3 w4 w5 w6 w7 w8 w9 : Str) (s : Nat × Option Co) : D × D := (.int (s.1 : Nat), match s.2 with
  | none => bk w0 w1 w2 w3 w4 w5 w6 w7 w8 w9
  | some c => bkc w5 c)
theorem good_c {v : Str} {c : Co} : m_is_good (bkc v c, so s0 s1, ()) = .ok (gd s0 s1 c) := is_good_ok
theorem miss_c {v : Str} {c : Co} : ∃ T, m__law_missing (bkc v c, so s0 s1, ()) = .ok T ∧ eqF T (.tuple []) = some (gd s0 s1 c) :=
  ⟨_, missing_ok, by rw [eqT_nil rep_miss (by decide), List.isEmpty_map]; rfl⟩
theorem ltF_n {a b : Nat} : ltF (.int (a : Nat)) (.int (b : Nat)) = some (decide (a < b)) := by
  show some (decide (((a : Nat) : Int) < ((b : Nat) : Int))) = _
  congr 1
  by_cases h : a < b
  · rw [decide_eq_true h, decide_eq_true (by omega)]
  · rw [decide_eq_false h, decide_eq_false (by omega)]
theorem mended_eq : m_mended (bk w0 w1 w2 w3 w4 w5 w6 w7 w8 w9, so s0 s1, ()) = .ok (.tuple [(stM w0 w1 w2 w3 w4 w5 w6 w7 w8 w9 (combos.foldl (stepM (gd s0 s1) (dst w0 w1 w2 w3 w4 w5 w6 w7 w8 w9)) (11, none))).1, (stM w0 w1 w2 w3 w4 w5 w6 w7 w8 w9 (combos.foldl (stepM (gd s0 s1) (dst w0 w1 w2 w3 w4 w5 w6 w7 w8 w9)) (11, none))).2]) := by
  refine p_need (a := (10 : Int)) rfl (p_need (a := .int 11) rfl (p_callP (f := m_candidates) (a := (_, ())) rfl cands_ok (p_need rfl (p_bnd (p_forF (m := bkc w5) (st := stM w0 w1 w2 w3 w4 w5 w6 w7 w8 w9) (F := stepM (gd s0 s1) (dst w0 w1 w2 w3 w4 w5 w6 w7 w8 w9)) (s := (11, none)) fun c hc s => ?_) rfl))))
  refine p_need rfl (p_callP (f := m_is_good) (a := (bkc w5 c, so s0 s1, ())) rfl good_c ?_)
  unfold stepM
  refine p_ite (fun z => ?_) (fun z => ?_)
  · rw [if_pos z]
    refine p_need (a := (prs w0 w1 w2 w3 w4 w5 w6 w7 w8 w9 w5 c).map prD) rfl (p_nox (cnt_ok _ (by show 10 ≤ 1000; decide)) (p_need (len_ok _) (p_need ltF_n (p_ite (fun y => ?_) (fun y => ?_)))))
    · rw [if_pos (of_decide_eq_true y : dst w0 w1 w2 w3 w4 w5 w6 w7 w8 w9 c < s.1)]
      rfl
    · rw [if_neg (of_decide_eq_false y : ¬ dst w0 w1 w2 w3 w4 w5 w6 w7 w8 w9 c < s.1)]
      rfl
  · rw [if_neg (by rw [z]; exact Bool.false_ne_true)]
    rfl
theorem p_iteF {β : Type} {c : Bool} {x y : P β} {r : P β} (hc : c = false) (h : y = r) : (if c = true then x else y) = r := by subst hc; rw [if_neg Bool.false_ne_true]; exact h
theorem rep_told {n : Nat} {b : D} (hn : n ≤ 10) (hb : Rep 1 300 b) : Rep 2 700 (.tuple [.int (n : Nat), b]) := by
  refine (Rep.tup (k := 1) (n := 300) fun d hd => ?_).mono (by decide) (by show 2 * (300 + 2) + 3 ≤ 700; decide)
  simp only [List.mem_cons, List.not_mem_nil, or_false] at hd
  rcases hd with rfl | rfl
  · exact (Rep.int (by omega)).mono (by decide) (by decide)
  · exact hb
theorem sok_iff (x : Str) : PyData.strOk x = (TL.tl x).all (fun c => decide (c < 1114112)) := by
  show x.cps.all _ = x.cps.toList.all _
  rw [Array.all_toList]
theorem joinL_all {S : List Nat} {f : Nat → Bool} (hS : S.all f = true) : ∀ {ps : List (List Nat)}, (∀ p ∈ ps, p.all f = true) → (TL.joinL S ps).all f = true
  | [], _ => rfl
  | [p], h => h p List.mem_cons_self
  | p :: q :: r, h => by
    have h1 := h p List.mem_cons_self
    have h2 := joinL_all hS fun z hz => h z (List.mem_cons_of_mem p hz)
    show (p ++ (S ++ TL.joinL S (q :: r))).all f = true
    rw [List.all_append, List.all_append, h1, hS, h2]
    rfl
theorem join_sok {ys : List Str} (h : ∀ y ∈ ys, PyData.strOk y = true) : PyData.strOk (Str.join ", " ys) = true := by
  rw [sok_iff, TL.tl_join]
  refine joinL_all (by decide +kernel) fun p hp => ?_
  obtain ⟨y, hy, rfl⟩ := List.mem_map.mp hp
  rw [← sok_iff]
  exact h y hy
theorem shown_all : ∀ (ds : List D), PyData.shownAll ds = ds.map PyData.shown
  | [] => rfl
  | d :: ds => by rw [PyData.shownAll, shown_all ds]; rfl
theorem tup_so {ds : List D} (h : ∀ d ∈ ds, PyData.strOk d.shown = true) : PyData.strOk (PyData.tuple ds).shown = true := by
  have e : ∀ (x y : Str), PyData.strOk x = true → PyData.strOk y = true → PyData.strOk (("(" : Str) ++ x ++ y) = true := fun x y hx hy => by
    rw [sok_iff] at hx hy
    rw [sok_iff, TL.tl_append, TL.tl_append, List.all_append, List.all_append, hx, hy]
    decide +kernel
  rw [PyData.shown, shown_all]
  unfold tupleText
  refine e _ _ (join_sok fun y hy => ?_) (by split <;> decide +kernel)
  obtain ⟨d, hd, rfl⟩ := List.mem_map.mp hy
  exact h d hd
theorem so11 : ∀ w ∈ W11, PyData.strOk (reprText w) = true := by decide +kernel
theorem soN : ∀ k : Fin 10, PyData.strOk (reprText (nms k.val)) = true := by decide +kernel
theorem soE : ∀ k : Fin 10, ∀ w ∈ entr k.val, PyData.strOk (reprText w) = true := by decide +kernel
theorem soI : ∀ k : Fin 11, PyData.strOk (PyData.int ((k.val : Nat) : Int)).shown = true := by decide +kernel
theorem so_miss {w0 w1 w2 w3 w4 w5 w6 w7 w8 w9 s0 s1 : Str} : PyData.strOk (PyData.tuple ((miss w0 w1 w2 w3 w4 w5 w6 w7 w8 w9 s0 s1).map PyData.str)).shown = true := by
  refine tup_so fun d hd => ?_
  obtain ⟨s, hs, rfl⟩ := List.mem_map.mp hd
  obtain ⟨p, hp, rfl⟩ := List.mem_map.mp hs
  have hp := (List.mem_filter.mp hp).1
  rw [PyData.shown]
  exact so11 p.1 (show p.1 ∈ W11 from (List.mem_map_of_mem (f := fun p : Str × Bool => p.1) hp : p.1 ∈ (told w0 w1 w2 w3 w4 w5 w6 w7 w8 w9 s0 s1).map fun p => p.1))
theorem so_spare {b s T : D} : PyData.strOk (PyData.tuple ((opts (spare b s T)).map PyData.str)).shown = true := by
  refine tup_so fun d hd => ?_
  obtain ⟨x, hx, rfl⟩ := List.mem_map.mp hd
  obtain ⟨p, hp, rfl⟩ := List.mem_map.mp hx
  have hp := (List.mem_filter.mp hp).1
  obtain ⟨k, hk, rfl⟩ := List.mem_map.mp hp
  rw [PyData.shown]
  exact soN ⟨k, List.mem_range.mp hk⟩
theorem so_bk {b : D} (hb : Bk b) : PyData.strOk b.shown = true := by
  cases hb with
  | mk h0 h1 h2 h3 h4 h5 h6 h7 h8 h9 =>
    refine tup_so fun d hd => ?_
    simp only [List.mem_cons, List.not_mem_nil, or_false] at hd
    rcases hd with rfl | rfl | rfl | rfl | rfl | rfl | rfl | rfl | rfl | rfl <;> rw [PyData.shown]
    · exact soE 0 _ h0
    · exact soE 1 _ h1
    · exact soE 2 _ h2
    · exact soE 3 _ h3
    · exact soE 4 _ h4
    · exact soE 5 _ h5
    · exact soE 6 _ h6
    · exact soE 7 _ h7
    · exact soE 8 _ h8
    · exact soE 9 _ h9
theorem so_told {n : Nat} {b : D} (hn : n ≤ 10) (hb : Bk b) : PyData.strOk (PyData.tuple [.int (n : Nat), b]).shown = true := by
  refine tup_so fun d hd => ?_
  simp only [List.mem_cons, List.not_mem_nil, or_false] at hd
  rcases hd with rfl | rfl
  · exact soI ⟨n, by omega⟩
  · exact so_bk hb
theorem mended_ok (h0 : s0 ∈ (["like", "any"] : List Str)) (h1 : s1 ∈ (["staying", "leaving"] : List Str)) : ∃ c ∈ combos, m_mended (bk w0 w1 w2 w3 w4 w5 w6 w7 w8 w9, so s0 s1, ()) = .ok (.tuple [.int ((dst w0 w1 w2 w3 w4 w5 w6 w7 w8 w9 c : Nat) : Int), bkc w5 c]) := by
  have d10 : ∀ c, dst w0 w1 w2 w3 w4 w5 w6 w7 w8 w9 c ≤ 10 := fun c => cnt_le _
  obtain ⟨c0, hc0, hg0⟩ := some_gd h0 h1
  obtain ⟨a1, a2, a3⟩ := foldM_ok (gd s0 s1) (dst w0 w1 w2 w3 w4 w5 w6 w7 w8 w9) combos (11, none)
  have e1 := @mended_eq w0 w1 w2 w3 w4 w5 w6 w7 w8 w9 s0 s1
  have z0 := a2 c0 hc0 hg0
  have z1 := d10 c0
  rcases a3 with a3 | ⟨c, hc, hg, a3⟩
  · rw [a3] at z0
    dsimp only at z0
    omega
  · rw [a3] at e1
    exact ⟨c, hc, e1⟩
/-- what is asked of a book -/
structure Ask (i : Int) (b s A : D) : Prop where
  run : ∀ c : Bool, m__law_asked (.int i, b, s, .bool c, ()) = .ok A
  fl : flat A = true
  rp : Rep 2 700 A
  so : PyData.strOk A.shown = true
theorem flat_strs : ∀ xs : List Str, flatL (xs.map PyData.str) = true
  | [] => rfl
  | x :: xs => by rw [List.map_cons, flatL, flat_strs xs]; rfl
theorem flat_bk {b : D} (hb : Bk b) : flat b = true := by cases hb; rfl
theorem flat_so {b : D} (hb : So b) : flat b = true := by cases hb; rfl
theorem asked_ok {b s : D} (hb : Bk b) (hs : So s) {i : Int} (i0 : 0 ≤ i) (i3 : i ≤ 3) : ∃ A, Ask i b s A := by
  have h : i = 0 ∨ i = 1 ∨ i = 2 ∨ i = 3 := by omega
  obtain ⟨T, f1, f2, f3⟩ := both_ok hb hs
  have f4 := idle_ok hb hs f3 f2
  cases hb with
  | @mk w0 w1 w2 w3 w4 w5 w6 w7 w8 w9 h0 h1 h2 h3 h4 h5 h6 h7 h8 h9 =>
    cases hs with
    | @mk s0 s1 k0 k1 =>
      rcases h with rfl | rfl | rfl | rfl
      · refine ⟨.tuple ((miss w0 w1 w2 w3 w4 w5 w6 w7 w8 w9 s0 s1).map PyData.str), fun c => ?_, flat_strs _, rep_miss.mono (by decide) (by decide), so_miss⟩
        refine p_need (a := true) rfl ?_
        rw [if_pos rfl]
        refine p_bnd (p_need (a := c) rfl ?_) rfl
        cases c <;> exact p_callP rfl lacks_ok rfl
      · refine ⟨.bool (miss w0 w1 w2 w3 w4 w5 w6 w7 w8 w9 s0 s1).isEmpty, fun c => ?_, rfl, Rep.bool.mono (by decide) (by decide), (by cases (miss w0 w1 w2 w3 w4 w5 w6 w7 w8 w9 s0 s1).isEmpty <;> decide +kernel)⟩
        refine p_need (a := false) rfl (p_iteF rfl (p_need (a := true) rfl ?_))
        rw [if_pos rfl]
        refine p_bnd (p_need (a := c) rfl ?_) rfl
        cases c <;> exact p_callP rfl is_good_ok rfl
      · refine ⟨.tuple ((opts (spare (bk w0 w1 w2 w3 w4 w5 w6 w7 w8 w9) (so s0 s1) T)).map PyData.str), fun c => ?_, flat_strs _, (rep_spare (b := bk w0 w1 w2 w3 w4 w5 w6 w7 w8 w9) (s := so s0 s1) (T := T)).mono (by decide) (by decide), so_spare⟩
        refine p_need (a := false) rfl (p_iteF rfl (p_need (a := false) rfl (p_iteF rfl (p_need (a := true) rfl ?_))))
        rw [if_pos rfl]
        refine p_bnd (p_need (a := c) rfl ?_) rfl
        cases c <;> exact p_callP rfl f4 rfl
      · obtain ⟨c, hc, e1⟩ := mended_ok (w0 := w0) (w1 := w1) (w2 := w2) (w3 := w3) (w4 := w4) (w5 := w5) (w6 := w6) (w7 := w7) (w8 := w8) (w9 := w9) k0 k1
        refine ⟨.tuple [.int ((dst w0 w1 w2 w3 w4 w5 w6 w7 w8 w9 c : Nat) : Int), bkc w5 c], fun c => ?_, rfl, rep_told (n := dst w0 w1 w2 w3 w4 w5 w6 w7 w8 w9 c) (cnt_le _) (rep_bk (bkc_bk h5 hc)), so_told (cnt_le _) (bkc_bk h5 hc)⟩
        refine p_need (a := false) rfl (p_iteF rfl (p_need (a := false) rfl (p_iteF rfl (p_need (a := false) rfl (p_iteF rfl ?_)))))
        refine p_bnd (p_need (a := c) rfl ?_) rfl
        cases c <;> exact p_callP rfl e1 rfl
end LawX

set_option Elab.async false
set_option linter.all false
set_option autoImplicit false
set_option maxRecDepth 100000
set_option maxHeartbeats 400000
set_option pp.maxSteps 600
namespace LawX
open PySem PySem.Spec PyProof.Rows L2 Cl
open MO
/-- a loop by what grows less -/
theorem w_whileLn {γ δ τ : Type} {E : Xc → γ → Prop} (I : Nat → τ → γ → Prop) (Z : τ → γ → Prop) (Rr : δ → γ → Prop) {step : τ → M γ (Wh δ τ)}
    (hs : ∀ n t g, I n t g → (step t).wp g (fun r g' => match r with | .go t' => ∃ k, k < n ∧ I k t' g' | .out t' => Z t' g' | .rt q => Rr q g') E) : ∀ (fuel n : Nat) (t : τ) (g : γ), n < fuel → I n t g →
    (whileL fuel t step : M γ (Lp δ τ)).wp g (fun r g' => match r with | .nx t' => Z t' g' | .bk _ => False | .rt q => Rr q g') E
  | 0, n, t, g, h, _ => by omega
  | fuel + 1, n, t, g, h, hi => (step t).mono (hs n t g hi) fun r g' h' => by
    cases r with
    | go t' =>
      obtain ⟨k, hk, hi'⟩ := h'
      exact w_whileLn I Z Rr hs fuel k t' g' (by omega) hi'
    | out t' => exact h'
    | rt q => exact h'
theorem mem_erase {α : Type} {xs : List α} {i : Nat} {x : α} (h : x ∈ xs.eraseIdx i) : x ∈ xs := List.mem_of_mem_eraseIdx h
/-- what stands in a list can be laid -/
structure Lay (k : Nat) (d : D) : Prop where
  ly : d.canLay0 = true
  dp : d.depth ≤ k
theorem lay_all {k : Nat} : ∀ {ds : List D}, (∀ d ∈ ds, Lay k d) → PyData.canLayAll0 ds = true ∧ PyData.depthAll ds ≤ k
  | [], _ => ⟨rfl, Nat.zero_le _⟩
  | d :: ds, h => by
    obtain ⟨a, b⟩ := lay_all fun e he => h e (List.mem_cons_of_mem _ he)
    have h1 := h d List.mem_cons_self
    rw [PyData.canLayAll0, PyData.depthAll, h1.ly, a]
    exact ⟨rfl, by have := h1.dp; omega⟩
theorem lay_nil {k : Nat} {ds : List D} (h : ∀ d ∈ ds, Lay k d) (hk : k ≤ 63) : neF (.list ds) (.list []) = some (!ds.isEmpty) := by
  obtain ⟨a, b⟩ := lay_all h
  have hs : SeqAt.shaped (.list ds) = true := by
    unfold SeqAt.shaped
    rw [Bool.and_eq_true]
    refine ⟨by simpa [PyData.canLay0] using a, decide_eq_true ?_⟩
    rw [PyData.depth]
    omega
  have e : eqF (.list ds) (.list []) = some ds.isEmpty := by
    show (if SeqAt.shaped (.list ds) = true ∧ SeqAt.shaped (.list []) = true then some (PyData.eqv (.list ds) (.list [])) else none) = _
    rw [if_pos ⟨hs, by decide⟩]
    cases ds <;> rfl
  show (eqF _ _).map (!·) = _
  rw [e]
  rfl
theorem mixed_ok {m : Nat} {g : GH} {p : Addr} {xs : List D} {Pd : D → Prop} {Q : List D → GH → Prop} {E : Xc → GH → Prop} (hP : ∀ d ∈ xs, Pd d) (hR : ∀ d, Pd d → Lay 5 d) (hl : xs.length ≤ 20) (h : Bag (m + xs.length) g p) (hq : ∀ ys g', (∀ d ∈ ys, Pd d) → ys.length ≤ xs.length → Bag m g' p → Q ys g') :
    (m__law_mixed (p, .list xs, ())).wp g Q E := by
  have big := sizeLine_eq
  refine w_need (a := xs) rfl (w_bnd (w_mono (w_whileLn (fun n t g' => Bag (m + n) g' p ∧ t.1.length = n ∧ (∀ d ∈ t.1, Pd d) ∧ (∀ d ∈ t.2, Pd d) ∧ t.1.length + t.2.length = xs.length) (fun t g' => Bag m g' p ∧ (∀ d ∈ t.2, Pd d) ∧ t.2.length ≤ xs.length) (fun _ _ => False) (fun n t g1 hi => ?_) 1000 xs.length _ g (by omega) ⟨h, rfl, hP, (fun d hd => by cases hd), rfl⟩) fun r g1 hr => ?_))
  · obtain ⟨j1, hn, h1, h2, h3⟩ := hi
    have ne := lay_nil (fun d hd => hR d (h1 d hd)) (by decide)
    refine w_need ne (w_ite (fun z => ?_) (fun z => ?_))
    · have hpos : 0 < n := by
        rw [← hn]
        cases q : t.1 with
        | nil => rw [q] at z; cases z
        | cons a b => exact Nat.succ_pos _
      refine w_need (a := ((t.1.length : Nat) : Int)) rfl (w_call (f := m__law_draw) (a := (p, .int ((t.1.length : Nat) : Int), ())) rfl (draw_ok (m := m + (n - 1)) (j1.mono (by omega)) (by omega) (by omega) fun i g2 j2 i0 i1 => ?_))
      have hk : i.toNat < t.1.length := by omega
      refine w_need (a := ()) rfl (w_need (a := (t.1[i.toNat], t.1.eraseIdx i.toNat)) ?_ (w_need (a := t.2 ++ [t.1[i.toNat]]) ?_ (w_pur ⟨n - 1, by omega, j2, ?_, ?_, ?_, ?_⟩)))
      · show (if 0 ≤ i ∧ i < (t.1.length : Nat) ∧ i < 2 ^ 62 then (t.1[i.toNat]?).map fun y => (y, t.1.eraseIdx i.toNat) else none) = _
        rw [if_pos ⟨i0, i1, by omega⟩, List.getElem?_eq_getElem hk]
        rfl
      · unfold appF
        rw [if_pos (by omega)]
      · show (t.1.eraseIdx i.toNat).length = n - 1
        rw [List.length_eraseIdx_of_lt hk]
        omega
      · exact fun d hd => h1 d (mem_erase hd)
      · intro d hd
        rcases List.mem_append.mp hd with y | y
        · exact h2 d y
        · rw [List.mem_singleton.mp y]
          exact h1 _ (List.getElem_mem hk)
      · show (t.1.eraseIdx i.toNat).length + (t.2 ++ [t.1[i.toNat]]).length = xs.length
        rw [List.length_eraseIdx_of_lt hk, List.length_append, List.length_singleton]
        omega
    · exact w_pur ⟨j1.mono (by omega), h2, by omega⟩
  · cases r with
    | nx t => exact w_pur (hq t.2 g1 hr.2.1 hr.2.2 hr.1)
    | bk t => exact hr.elim
    | rt t => exact hr.elim
def It (d : D) : Prop := ∃ (i : Int) (b s : D), d = .tuple [.int i, b, s] ∧ 0 ≤ i ∧ i ≤ 3 ∧ Bk b ∧ So s
def To (d : D) : Prop := ∃ (i : Int) (b s A : D), d = .tuple [.int i, b, s, A, .str A.shown] ∧ 0 ≤ i ∧ i ≤ 3 ∧ Bk b ∧ So s ∧ Ask i b s A
end LawX

set_option Elab.async false
set_option linter.all false
set_option autoImplicit false
set_option maxRecDepth 100000
set_option maxHeartbeats 400000
set_option pp.maxSteps 600
namespace LawX
open PySem PySem.Spec PyProof.Rows L2 Cl
open MO
theorem rep_it {d : D} (h : It d) : Rep 5 1000 d := by
  obtain ⟨i, b, s, rfl, i0, i3, hb, hs⟩ := h
  refine (Rep.tup (k := 1) (n := 300) fun d hd => ?_).mono (by decide) (by show 3 * (300 + 2) + 3 ≤ 1000; decide)
  simp only [List.mem_cons, List.not_mem_nil, or_false] at hd
  rcases hd with rfl | rfl | rfl
  · exact (Rep.int (by omega)).mono (by decide) (by decide)
  · exact rep_bk hb
  · exact rep_so hs
theorem flat_it {d : D} (h : It d) : flat d = true := by
  obtain ⟨i, b, s, rfl, i0, i3, hb, hs⟩ := h
  show (true && (flat b && (flat s && true))) = true
  rw [flat_bk hb, flat_so hs]
  rfl
theorem flatL_of : ∀ {ds : List D}, (∀ d ∈ ds, flat d = true) → flatL ds = true
  | [], _ => rfl
  | d :: ds, h => by rw [flatL, h d List.mem_cons_self, flatL_of fun e he => h e (List.mem_cons_of_mem _ he)]; rfl
theorem flL_ok {ds : List D} (h : ∀ d ∈ ds, flat d = true) : flL ds = some () := by
  unfold flL
  rw [if_pos (flatL_of h)]
theorem flat_to {d : D} (h : To d) : flat d = true := by
  obtain ⟨i, b, s, A, rfl, i0, i3, hb, hs, ha⟩ := h
  show (true && (flat b && (flat s && (flat A && (true && true))))) = true
  rw [flat_bk hb, flat_so hs, ha.fl]
  rfl
theorem lay_it {d : D} (h : It d) : Lay 5 d := ⟨(rep_it h).ly, (rep_it h).dp⟩
theorem lay_to {d : D} (h : To d) : Lay 5 d := by
  obtain ⟨i, b, s, A, rfl, i0, i3, hb, hs, ha⟩ := h
  have r1 := rep_bk hb
  have r2 := rep_so hs
  have r3 := ha.rp
  obtain ⟨a, b⟩ := lay_all (k := 2) (ds := [.int i, b, s, A, .str A.shown]) fun d hd => by
    simp only [List.mem_cons, List.not_mem_nil, or_false] at hd
    rcases hd with rfl | rfl | rfl | rfl | rfl
    · exact ⟨by rw [PyData.canLay0], by rw [PyData.depth]; omega⟩
    · exact ⟨r1.ly, by have := r1.dp; omega⟩
    · exact ⟨r2.ly, by have := r2.dp; omega⟩
    · exact ⟨r3.ly, r3.dp⟩
    · exact ⟨by rw [PyData.canLay0]; exact ha.so, by rw [PyData.depth]; omega⟩
  exact ⟨by rw [PyData.canLay0]; exact a, by rw [PyData.depth]; omega⟩
theorem rep_its {ds : List D} (h : ∀ d ∈ ds, It d) (hl : ds.length ≤ 6) : reprF [.list ds] = some (PyData.list ds).shown := by
  have := Nat.mul_le_mul_right (1000 + 2) hl
  exact ((Rep.lst fun d hd => rep_it (h d hd)).mono (Nat.le_refl _) (show ds.length * (1000 + 2) + 3 ≤ 10000 by omega)).ok (by decide) (by decide)
theorem law_math : ∀ (sc : Addr) (ns : List Int), ns.length ≤ 63 → (m_law sc ns (sc, ())).wp (fun _ => none) (fun b _ => b = true) (fun _ _ => False) := by
  intro sc ns hl
  have big := sizeLine_eq
  refine w_call (f := m__law_bag sc ns) (a := (sc, ())) rfl (bag_ok hl fun p g jr => ?_)
  refine w_call (f := m__law_draw) (a := (p, .int 8, ())) rfl (draw_ok (m := 5000) (jr.mono (by decide)) (by decide) (by decide) fun sd g1 j1 _ _ => ?_)
  refine w_need rfl (w_bnd (w_mono (w_forPn (fun n t g' => Bag (1000 + n * 30) g' p ∧ (∀ d ∈ t, It d) ∧ t.length + 3 * n ≤ 6) (fun d hd n t g2 hg => ?_) ⟨j1.mono (by rw [rangeD_len]; decide), (fun d hd => by cases hd), by rw [rangeD_len]; decide⟩) fun cs g2 hg => ?_))
  · obtain ⟨k, rfl, k0, k2⟩ := int_of_range hd
    obtain ⟨j2, ht, hl2⟩ := hg
    refine w_need rfl (w_call (f := m__law_sort) (a := (p, ())) rfl (sort_ok (m := 1000 + n * 30 + 28) (j2.mono (by omega)) fun s g3 hs j3 => ?_))
    refine w_call (f := m__law_book) (a := (p, s, ())) rfl (book_ok (m := 1000 + n * 30 + 8) hs j3 fun b g4 hb j4 => ?_)
    refine w_need rfl (w_bnd (w_mono (w_forPn (fun n3 t' g' => g' = g4 ∧ (∀ d ∈ t', It d) ∧ t'.length + n3 ≤ t.length + 3) (fun d hd n3 t' g5 hg => ?_) ⟨rfl, ht, by rw [rangeD_len]; exact Nat.le_refl _⟩) fun t' g5 hg => ?_))
    · obtain ⟨i, rfl, i0, i3⟩ := int_of_range hd
      obtain ⟨e5, ht', hl3⟩ := hg
      refine w_need rfl (w_need (a := t' ++ [.tuple [.int i, b, s]]) (by unfold appF; rw [if_pos (by omega)]) (w_pur ⟨e5, fun d hd => ?_, by rw [List.length_append, List.length_singleton]; omega⟩))
      rcases List.mem_append.mp hd with z | z
      · exact ht' d z
      · exact ⟨i, b, s, List.mem_singleton.mp z, i0, by omega, hb, hs⟩
    · obtain ⟨rfl, ht', hl3⟩ := hg
      refine w_bnd (w_need (a := (sd == 0)) rfl ?_)
      have fin : ∀ c : Bool, (if c = true then bnd (nox (callM [false, true] (m__law_right) [.o p, .v s])) fun d22 => bnd (lift (callM [true, true, true] (m__law_with) [.v d22, .v (.int 0), .v (.str "behind")])) fun d21 => (fun l20 => pur l20) [(.tuple [(.int 3), d21, s])] else pur t' : M GH (List D)).wp g5 (fun t g' => Bag (1000 + n * 30) g' p ∧ (∀ d ∈ t, It d) ∧ t.length + 3 * n ≤ 6) (fun _ _ => False) := by
        intro c
        refine w_ite (fun _ => ?_) (fun _ => w_pur ⟨j4.mono (by omega), ht', by omega⟩)
        refine w_call (f := m__law_right) (a := (p, s, ())) rfl (right_ok (m := 1000 + n * 30) hs (j4.mono (by omega)) fun b2 g6 hb2 j6 => ?_)
        obtain ⟨c2, q2, hc2⟩ := with_ok hb2 (i := 0) (by decide) (by decide) (v := "behind") (by decide +kernel)
        refine w_callP (f := m__law_with) (a := (b2, .int 0, .str "behind", ())) rfl q2 (w_pur ⟨j6, fun d hd => ?_, by show 1 + 3 * n ≤ 6; omega⟩)
        exact ⟨3, c2, s, List.mem_singleton.mp hd, by decide, by decide, hc2, hs⟩
      exact w_ite (fun _ => w_need (a := (k == 0)) rfl (w_pur (fin _))) (fun _ => w_pur (fin false))
  obtain ⟨j2, hcs, hcl⟩ := hg
  have hcl : cs.length ≤ 6 := by omega
  have rk := rep_its hcs hcl
  refine w_need rk (w_need (a := ()) rfl ?_)
  refine w_call (f := m__law_mixed) (a := (p, .list cs, ())) rfl (mixed_ok (m := 900) hcs (fun d => lay_it) (by omega) (j2.mono (by omega)) fun ys g3 hy hyl j3 => ?_)
  refine w_need (flL_ok fun d hd => flat_it (hy d hd)) (w_need (a := ys) rfl (w_bnd (w_mono (w_forPn (fun n t g' => Bag (800 + n) g' p ∧ (∀ d ∈ t, To d) ∧ t.length + n ≤ 6) (fun d hd n t g4 hg => ?_) ⟨j3.mono (by omega), (fun d hd => by cases hd), by show 0 + ys.length ≤ 6; omega⟩) fun ts g4 hg => ?_)))
  · obtain ⟨j4, ht, hl4⟩ := hg
    obtain ⟨i, b, s, rfl, i0, i3, hb, hs⟩ := hy d hd
    obtain ⟨A, ha⟩ := asked_ok hb hs i0 i3
    refine w_need (a := (.int i, b, s)) rfl (w_call (f := m__law_draw) (a := (p, .int 2, ())) rfl (draw_ok (m := 800 + n) (j4.mono (by omega)) (by decide) (by decide) fun q g5 j5 _ _ => ?_))
    refine w_need (a := (q == 0)) rfl (w_callP (f := m__law_asked) (a := (.int i, b, s, .bool (q == 0), ())) rfl (ha.run _) (w_need (ha.rp.ok (by decide) (by decide)) ?_))
    refine w_need (a := t ++ [.tuple [.int i, b, s, A, .str A.shown]]) (by unfold appF; rw [if_pos (by omega)]) (w_pur ⟨j5, fun d hd => ?_, by rw [List.length_append, List.length_singleton]; omega⟩)
    rcases List.mem_append.mp hd with z | z
    · exact ht d z
    · exact ⟨i, b, s, A, List.mem_singleton.mp z, i0, i3, hb, hs, ha⟩
  obtain ⟨j4, hts, htl⟩ := hg
  refine w_call (f := m__law_mixed) (a := (p, .list ts, ())) rfl (mixed_ok (m := 700) hts (fun d => lay_to) (by omega) (j4.mono (by omega)) fun zs g5 hz hzl j5 => ?_)
  refine w_need (flL_ok fun d hd => flat_to (hz d hd)) (w_need (a := zs) rfl (w_bnd (w_mono (w_forLn (fun _ _ _ => True) (fun _ _ => False) (fun _ _ => False) (fun d hd n t g6 hg => ?_) trivial) fun r g6 hr => ?_)))
  · obtain ⟨i, b, s, A, rfl, i0, i3, hb, hs, ha⟩ := hz d hd
    have ra := ha.rp.ok (by decide) (by decide)
    refine w_need (a := (.int i, b, s, A, .str A.shown)) rfl (w_need (a := [.bool true, .bool false]) rfl (w_bnd (w_mono (w_forLn (fun _ _ _ => True) (fun _ _ => False) (fun _ _ => False) (fun d hd n t g7 hg => ?_) trivial) fun r g7 hr => ?_)))
    · have hd2 : ∃ c : Bool, d = .bool c := by
        simp only [List.mem_cons, List.not_mem_nil, or_false] at hd
        rcases hd with rfl | rfl
        · exact ⟨_, rfl⟩
        · exact ⟨_, rfl⟩
      obtain ⟨c, rfl⟩ := hd2
      have last : ∀ Q : Lp Bool Unit → GH → Prop, Q (.nx ()) g7 → (bnd (need (reprF [A])) fun s47 => bnd (need (neF (PyData.str s47) (.str A.shown))) fun b48 => (if b48 = true then pur (.rt false) else pur (.nx ())) : M GH (Lp Bool Unit)).wp g7 Q (fun _ _ => False) := fun Q hQ =>
        w_need ra (w_need (neStr rfl) (w_ite (fun z => by cases z) (fun _ => w_pur hQ)))
      have mid : ∀ e : Bool, (if e = true then bnd (lift (callM [true, true, true, true] (m__law_asked) [.v (.int i), .v b, .v s, .v (.bool c)])) fun d49 => bnd (need (reprF [d49])) fun s50 => bnd (need (neF (PyData.str s50) (.str A.shown))) fun b51 => pur b51 else pur false : M GH Bool).wp g7 (fun b g' => b = false ∧ g' = g7) (fun _ _ => False) := fun e =>
        w_ite (fun _ => w_callP (f := m__law_asked) (a := (.int i, b, s, .bool c, ())) rfl (ha.run c) (w_need ra (w_need (neStr rfl) (w_pur ⟨rfl, rfl⟩)))) (fun _ => w_pur ⟨rfl, rfl⟩)
      refine w_need rfl (w_bnd (w_bnd (w_need (a := decide (i < 3)) rfl (w_ite (fun _ => w_pur (w_mono (mid true) fun e g8 he => ?_)) (fun _ => w_need (a := c) rfl (w_pur (w_mono (mid c) fun e g8 he => ?_)))))))
      · obtain ⟨rfl, rfl⟩ := he
        exact w_ite (fun z => by cases z) (fun _ => last _ trivial)
      · obtain ⟨rfl, rfl⟩ := he
        exact w_ite (fun z => by cases z) (fun _ => last _ trivial)
    · cases r with
      | nx t => exact w_pur trivial
      | bk t => exact hr.elim
      | rt t => exact hr.elim
  · cases r with
    | nx t => exact w_need rk (w_need (eqStr rfl) (w_pur rfl))
    | bk t => exact hr.elim
    | rt t => exact hr.elim
end LawX
open PySem PySem.W PyProof.Rows
set_option maxHeartbeats 0 in
theorem PySem.Challenge.cw_leftasleep_k39_good_books_by_names_holds : PySem.Challenge.rw_leftasleep_k39_good_books_by_names.Holds := by
  w_on; o_law; k_head; (case hw => w_witness2)
  k_fill
  refine Cl.law_end (l := PySem.Challenge.rw_leftasleep_k39_good_books_by_names) (n := 63) (lvl := 8) (px := "script") (f := fun sc ns => LawX.m_law sc ns) rfl (by decide) rfl ⟨rfl, by decide, by decide⟩ (fun w h Y => PySem.W.kIn_of Y) ?F LawX.law_math
  case F =>
    intro w mg h KX G sc ns base kb nb
    refine' LawX.cal_law (LawX.wd_mk KX G ?a0 ?l0 ?c0 ?k0 ?a1 ?l1 ?c1 ?k1 ?a2 ?l2 ?c2 ?k2 ?a3 ?l3 ?c3 ?k3 ?a4 ?l4 ?c4 ?k4 ?a5 ?l5 ?c5 ?k5 ?a6 ?l6 ?c6 ?k6 ?a7 ?l7 ?c7 ?k7 ?a8 ?l8 ?c8 ?k8 ?a9 ?l9 ?c9 ?k9 ?a10 ?l10 ?c10 ?k10 ?a11 ?l11 ?c11 ?k11 ?a12 ?l12 ?c12 ?k12 ?a13 ?l13 ?c13 ?k13 ?a14 ?l14 ?c14 ?k14 ?a15 ?l15 ?c15 ?k15 ?a16 ?l16 ?c16 ?k16 ?a17 ?l17 ?c17 ?k17 ?a18 ?l18 ?c18 ?k18 ?a19 ?l19 ?c19 ?k19 ?a20 ?l20 ?c20 ?k20 ?a21 ?l21 ?c21 ?k21 ?a22 ?l22 ?c22 ?k22 ?a23 ?l23 ?c23 ?k23 ?a24 ?l24 ?c24 ?k24 ?z_abs ?z_int ?z_isinstance ?z_len ?z_list ?z_range ?z_repr ?z_str ?z_tuple ?z_zip ?y_ENTRIES ?v_ENTRIES ?y_PLACES ?h_PLACES ?v_PLACES) sc ns
    (case a0 => k_is); (case l0 => k_is); (case c0 => k_is); (case k0 => k_is); (case a1 => k_is); (case l1 => k_is); (case c1 => k_is); (case k1 => k_is); (case a2 => k_is); (case l2 => k_is); (case c2 => k_is); (case k2 => k_is); (case a3 => k_is); (case l3 => k_is); (case c3 => k_is); (case k3 => k_is); (case a4 => k_is); (case l4 => k_is); (case c4 => k_is); (case k4 => k_is); (case a5 => k_is); (case l5 => k_is); (case c5 => k_is); (case k5 => k_is); (case a6 => k_is); (case l6 => k_is); (case c6 => k_is); (case k6 => k_is); (case a7 => k_is); (case l7 => k_is); (case c7 => k_is); (case k7 => k_is); (case a8 => k_is); (case l8 => k_is); (case c8 => k_is); (case k8 => k_is); (case a9 => k_is); (case l9 => k_is); (case c9 => k_is); (case k9 => k_is); (case a10 => k_is); (case l10 => k_is); (case c10 => k_is); (case k10 => k_is); (case a11 => k_is); (case l11 => k_is); (case c11 => k_is); (case k11 => k_is); (case a12 => k_is); (case l12 => k_is); (case c12 => k_is); (case k12 => k_is); (case a13 => k_is); (case l13 => k_is); (case c13 => k_is); (case k13 => k_is); (case a14 => k_is); (case l14 => k_is); (case c14 => k_is); (case k14 => k_is); (case a15 => k_is); (case l15 => k_is); (case c15 => k_is); (case k15 => k_is); (case a16 => k_is); (case l16 => k_is); (case c16 => k_is); (case k16 => k_is); (case a17 => k_is); (case l17 => k_is); (case c17 => k_is); (case k17 => k_is); (case a18 => k_is); (case l18 => k_is); (case c18 => k_is); (case k18 => k_is); (case a19 => k_is); (case l19 => k_is); (case c19 => k_is); (case k19 => k_is); (case a20 => k_is); (case l20 => k_is); (case c20 => k_is); (case k20 => k_is); (case a21 => k_is); (case l21 => k_is); (case c21 => k_is); (case k21 => k_is); (case a22 => k_is); (case l22 => k_is); (case c22 => k_is); (case k22 => k_is); (case a23 => k_is); (case l23 => k_is); (case c23 => k_is); (case k23 => k_is); (case a24 => k_is); (case l24 => k_is); (case c24 => k_is); (case k24 => k_is); (case z_abs => k_is); (case z_int => k_is); (case z_isinstance => k_is); (case z_len => k_is); (case z_list => k_is); (case z_range => k_is); (case z_repr => k_is); (case z_str => k_is); (case z_tuple => k_is); (case z_zip => k_is); (case y_ENTRIES => k_is); (case v_ENTRIES => kernel_rfl); (case y_PLACES => k_is); (case h_PLACES => kernel_rfl); (case v_PLACES => kernel_rfl)

