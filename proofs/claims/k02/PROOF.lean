import PyProof.Rows.All
import Wide.All
import OpenK.AllK
import Wide.FinOn
import HandS.ForMost
import HandS.ForExc
import HandS.TupAny
import HandS.TupMul
import HandS.SortInts
import HandS.Zip
import HandS.Deep
import HandS.RaiseMore
import HandS.ExcInit
import HandS.ExcField
import HandS.ExcIs
import HandS.WordsExc
import KE.KExcSuper
import HandS.Style
import HandS.Words
import HandS.IsInst
import HandS.Text
import HandS.Dict
import KE.GoesEnum
import HandS.More
import HandS.Small
import HandS.HeadHook3
import HandS.Conv
import HandS.Strs
import KE.SortData
import PyProof.ListMulRoad
import PyProof.FactsAll.tuple_2
import KE.KDictZip
import KE.GoesZip
import PyProof.P3In
import PyProof.SeqIndex
import PySem.Challenge.RW_leftasleep_k02_whole_numbers_of_books
set_option Elab.async false
set_option linter.all false
set_option maxRecDepth 100000
set_option maxHeartbeats 4000000
/-! the clean layer, part A: plain data, computations, what a value stands for -/
namespace Cl
open PySem PySem.Spec PyProof.Rows L2

abbrev D := PyData
/-- an exception: its class's name, its fields -/
structure Xc where
  cls : Str
  fs : List (Str × D)
/-- a plain computation -/
inductive P (α : Type) where
  | ok (a : α) | ex (x : Xc) | no
/-- a computation over a state, with choices: by its weakest precondition -/
structure M (γ α : Type) where
  wp : γ → (α → γ → Prop) → (Xc → γ → Prop) → Prop
  mono : ∀ {g : γ} {Q Q' : α → γ → Prop} {E : Xc → γ → Prop}, wp g Q E → (∀ a g, Q a g → Q' a g) → wp g Q' E
  monoE : ∀ {g : γ} {Q : α → γ → Prop} {E E' : Xc → γ → Prop}, wp g Q E → (∀ x g, E x g → E' x g) → wp g Q E'
/-- what a statement leads to -/
inductive Fl (ρ α : Type) where
  | nx (a : α) | rt (r : ρ) | bk (a : α) | ct (a : α)

class MO (m : Type → Type) where
  pur : {α : Type} → α → m α
  bnd : {α β : Type} → m α → (α → m β) → m β
  lift : {α : Type} → P α → m α
  /-- what it raises counts as stuck -/
  nox : {α : Type} → m α → m α
  /-- try -/
  trx : {α : Type} → m α → (Xc → m α) → m α
open MO

namespace P
@[reducible] def bnd {α β : Type} (x : P α) (k : α → P β) : P β := match x with
  | .ok a => k a
  | .ex e => .ex e
  | .no => .no
@[reducible] def nox {α : Type} (x : P α) : P α := match x with
  | .ok a => .ok a
  | .ex _ => .no
  | .no => .no
@[reducible] def trx {α : Type} (x : P α) (h : Xc → P α) : P α := match x with
  | .ok a => .ok a
  | .ex e => h e
  | .no => .no
end P
@[reducible] instance instP : MO P := ⟨fun a => .ok a, P.bnd, fun p => p, P.nox, P.trx⟩

def wpP {γ α : Type} (p : P α) (g : γ) (Q : α → γ → Prop) (E : Xc → γ → Prop) : Prop := match p with
  | .ok a => Q a g
  | .ex x => E x g
  | .no => False
theorem wpP_mono {γ α : Type} {p : P α} {g : γ} {Q Q' : α → γ → Prop} {E : Xc → γ → Prop} (h : wpP p g Q E) (hq : ∀ a g, Q a g → Q' a g) : wpP p g Q' E := by
  cases p with
  | ok a => exact hq _ _ h
  | ex x => exact h
  | no => exact h
theorem wpP_monoE {γ α : Type} {p : P α} {g : γ} {Q : α → γ → Prop} {E E' : Xc → γ → Prop} (h : wpP p g Q E) (he : ∀ x g, E x g → E' x g) : wpP p g Q E' := by
  cases p with
  | ok a => exact h
  | ex x => exact he _ _ h
  | no => exact h
@[reducible] instance instM {γ : Type} : MO (M γ) where
  pur := fun a => ⟨fun g Q _ => Q a g, fun h hq => hq _ _ h, fun h _ => h⟩
  bnd := fun x k => ⟨fun g Q E => x.wp g (fun a g' => (k a).wp g' Q E) E, fun h hq => x.mono h fun a g' h' => (k a).mono h' hq, fun h he => x.monoE (x.mono h fun a g' h' => (k a).monoE h' he) he⟩
  lift := fun p => ⟨fun g Q E => wpP p g Q E, fun h hq => wpP_mono h hq, fun h he => wpP_monoE h he⟩
  nox := fun x => ⟨fun g Q _ => x.wp g Q (fun _ _ => False), fun h hq => x.mono h hq, fun h _ => h⟩
  trx := fun x k => ⟨fun g Q E => x.wp g Q (fun e g' => (k e).wp g' Q E), fun h hq => x.monoE (x.mono h hq) fun e g' h' => (k e).mono h' hq, fun h he => x.monoE h fun e g' h' => (k e).monoE h' he⟩

class PM (γ : Type) (m : Type → Type) extends MO m where
  wp : {α : Type} → m α → γ → (α → γ → Prop) → (Xc → γ → Prop) → Prop
  mono : ∀ {α : Type} {x : m α} {g : γ} {Q Q' : α → γ → Prop} {E : Xc → γ → Prop}, wp x g Q E → (∀ a g, Q a g → Q' a g) → wp x g Q' E
  monoE : ∀ {α : Type} {x : m α} {g : γ} {Q : α → γ → Prop} {E E' : Xc → γ → Prop}, wp x g Q E → (∀ x g, E x g → E' x g) → wp x g Q E'
  of_pur : ∀ {α : Type} {a : α} {g : γ} {Q : α → γ → Prop} {E : Xc → γ → Prop}, wp (pur a) g Q E → Q a g
  of_bnd : ∀ {α β : Type} {x : m α} {k : α → m β} {g : γ} {Q : β → γ → Prop} {E : Xc → γ → Prop}, wp (bnd x k) g Q E → wp x g (fun a g' => wp (k a) g' Q E) E
  of_lift : ∀ {α : Type} {p : P α} {g : γ} {Q : α → γ → Prop} {E : Xc → γ → Prop}, wp (lift p) g Q E → wpP p g Q E
  of_nox : ∀ {α : Type} {x : m α} {g : γ} {Q : α → γ → Prop} {E : Xc → γ → Prop}, wp (nox x) g Q E → wp x g Q (fun _ _ => False)
  of_trx : ∀ {α : Type} {x : m α} {k : Xc → m α} {g : γ} {Q : α → γ → Prop} {E : Xc → γ → Prop}, wp (trx x k) g Q E → wp x g Q (fun e g' => wp (k e) g' Q E)
@[reducible] instance instPP {γ : Type} : PM γ P where
  toMO := instP
  wp := fun p g Q E => wpP p g Q E
  mono := wpP_mono
  monoE := wpP_monoE
  of_pur := fun h => h
  of_bnd := fun {α β x k g Q E} h => by cases x <;> exact h
  of_lift := fun h => h
  of_nox := fun {α x g Q E} h => by cases x <;> exact h
  of_trx := fun {α x k g Q E} h => by cases x <;> exact h
@[reducible] instance instPM {γ : Type} : PM γ (M γ) where
  toMO := instM
  wp := fun x => x.wp
  mono := fun {α x g Q Q' E} h hq => x.mono h hq
  monoE := fun {α x g Q E E'} h he => x.monoE h he
  of_pur := fun h => h
  of_bnd := fun h => h
  of_lift := fun h => h
  of_nox := fun h => h
  of_trx := fun h => h

/-! ### what a value stands for -/
def kD : Key → D
  | .inl i => .int i
  | .inr s => .str s
/-- a tuple that is surely no more than a tuple: known to the object, without attributes -/
def SqF (K : PySem.W.Frag) (H : Hp) (a : Addr) (xs : List V) : Prop :=
  (∃ o : Obj, H a = some (.frz o (.tup xs)) ∧ o.cls = .type "tuple" ∧ o.dict = none) ∨
    ∃ (o : Obj) (its : Array Value) (n : Nat), K.lookup a = some o ∧ o.cls = .type "tuple" ∧ o.dict = none ∧ o.data = .seq its n ∧ its.size ≤ sizeLine ∧ Vals xs its.toList
theorem SqF.t {K : PySem.W.Frag} {H : Hp} {a : Addr} {xs : List V} (h : SqF K H a xs) : SqT K H a xs := by
  rcases h with ⟨o, h, _⟩ | ⟨o, its, n, h1, h2, h3, h4, h5, h6⟩
  · exact .inl (.inr ⟨o, h⟩)
  · exact .inr ⟨o, its, n, h1, h2, h4, h5, h6⟩
mutual
inductive Rp (K : PySem.W.Frag) (G : Hp) : V → D → Prop
  | non : Rp K G .non .none
  | bl (b : Bool) : Rp K G (.bl b) (.bool b)
  | int (i : Int) : Rp K G (.int i) (.int i)
  | str (x : Str) : Rp K G (.str x) (.str x)
  | lst {a : Addr} {vs : List V} {ds : List D} : G a = some (.lst vs) → RpL K G vs ds → Rp K G (.ref a) (.list ds)
  | tup {a : Addr} {vs : List V} {ds : List D} : SqF K G a vs → RpL K G vs ds → Rp K G (.ref a) (.tuple ds)
  | dct {a : Addr} {kvs : List (Key × V)} {ds : List (D × D)} : G a = some (.dK kvs) → RpK K G kvs ds → Rp K G (.ref a) (.dict ds)
inductive RpL (K : PySem.W.Frag) (G : Hp) : List V → List D → Prop
  | nil : RpL K G [] []
  | cons {v : V} {vs : List V} {d : D} {ds : List D} : Rp K G v d → RpL K G vs ds → RpL K G (v :: vs) (d :: ds)
inductive RpK (K : PySem.W.Frag) (G : Hp) : List (Key × V) → List (D × D) → Prop
  | nil : RpK K G [] []
  | cons {k : Key} {v : V} {kvs : List (Key × V)} {d : D} {ds : List (D × D)} : Rp K G v d → RpK K G kvs ds → RpK K G ((k, v) :: kvs) ((kD k, d) :: ds)
end

/-- all that G knows H knows -/
def Sub (G H : Hp) : Prop := ∀ a o, G a = some o → H a = some o
theorem Sub.refl (G : Hp) : Sub G G := fun _ _ h => h
theorem Sub.trans {G H I : Hp} (a : Sub G H) (b : Sub H I) : Sub G I := fun c o h => b c o (a c o h)
theorem Sub.rd {G H : Hp} {a : Addr} {u : HO} (e : Sub G H) (h : Rd G a u) : Rd H a u := by
  rcases h with h | ⟨o, h⟩
  · exact .inl (e _ _ h)
  · exact .inr ⟨o, e _ _ h⟩
theorem Sub.seqF {K : PySem.W.Frag} {G H : Hp} {a : Addr} {xs : List V} (e : Sub G H) (h : SqF K G a xs) : SqF K H a xs := by
  rcases h with ⟨o, h, q⟩ | h
  · exact .inl ⟨o, e _ _ h, q⟩
  · exact .inr h
theorem Sub.seq {K : PySem.W.Frag} {G H : Hp} {a : Addr} {xs : List V} (e : Sub G H) (h : SqF K G a xs) : SqT K H a xs := (e.seqF h).t
section
variable {K : PySem.W.Frag} {G G' H : Hp}
mutual
theorem Rp.sub (e : Sub G G') : ∀ {d : D} {v : V}, Rp K G v d → Rp K G' v d
  | .none, _, h => by cases h; exact .non
  | .bool _, _, h => by cases h; exact .bl _
  | .int _, _, h => by cases h; exact .int _
  | .str _, _, h => by cases h; exact .str _
  | .list ds, _, h => by
    cases h with
    | lst h1 h2 => exact .lst (e _ _ h1) (RpL.sub e h2)
  | .tuple ds, _, h => by
    cases h with
    | tup h1 h2 => exact .tup (e.seqF h1) (RpL.sub e h2)
  | .dict ds, _, h => by
    cases h with
    | dct h1 h2 => exact .dct (e _ _ h1) (RpK.sub e h2)
theorem RpL.sub (e : Sub G G') : ∀ {ds : List D} {vs : List V}, RpL K G vs ds → RpL K G' vs ds
  | [], _, h => by cases h; exact .nil
  | d :: ds, _, h => by
    cases h with
    | cons h1 h2 => exact .cons (Rp.sub e h1) (RpL.sub e h2)
theorem RpK.sub (e : Sub G G') : ∀ {ds : List (D × D)} {kvs : List (Key × V)}, RpK K G kvs ds → RpK K G' kvs ds
  | [], _, h => by cases h; exact .nil
  | (kd, d) :: ds, _, h => by
    cases h with
    | cons h1 h2 => exact .cons (Rp.sub e h1) (RpK.sub e h2)
end
theorem RpL.length : ∀ {vs : List V} {ds : List D}, RpL K G vs ds → vs.length = ds.length
  | _, _, .nil => rfl
  | _, _, .cons _ t => by rw [List.length_cons, List.length_cons, RpL.length t]
theorem RpK.length : ∀ {vs : List (Key × V)} {ds : List (D × D)}, RpK K G vs ds → vs.length = ds.length
  | _, _, .nil => rfl
  | _, _, .cons _ t => by rw [List.length_cons, List.length_cons, RpK.length t]
theorem RpL.get : ∀ {vs : List V} {ds : List D} {i : Nat} {d : D}, RpL K G vs ds → ds[i]? = some d → ∃ v, vs[i]? = some v ∧ Rp K G v d
  | _, _, _, _, .nil, e => by simp at e
  | _, _, 0, _, .cons r _, e => by simp at e; subst e; exact ⟨_, rfl, r⟩
  | _, _, i + 1, d, .cons _ t, e => by
    obtain ⟨u, h1, h2⟩ := RpL.get (i := i) (d := d) t (by simpa using e)
    exact ⟨u, by simpa using h1, h2⟩
theorem RpL.get' : ∀ {vs : List V} {ds : List D} {i : Nat} {v : V}, RpL K G vs ds → vs[i]? = some v → ∃ d, ds[i]? = some d ∧ Rp K G v d
  | _, _, _, _, .nil, e => by simp at e
  | _, _, 0, _, .cons r _, e => by simp at e; subst e; exact ⟨_, rfl, r⟩
  | _, _, i + 1, d, .cons _ t, e => by
    obtain ⟨u, h1, h2⟩ := RpL.get' (i := i) (v := d) t (by simpa using e)
    exact ⟨u, by simpa using h1, h2⟩
theorem RpL.append : ∀ {vs ws : List V} {ds es : List D}, RpL K G vs ds → RpL K G ws es → RpL K G (vs ++ ws) (ds ++ es)
  | _, _, _, _, .nil, s => s
  | _, _, _, _, .cons r t, s => .cons r (RpL.append t s)
theorem RpL.take : ∀ {vs : List V} {ds : List D} (n : Nat), RpL K G vs ds → RpL K G (vs.take n) (ds.take n)
  | _, _, 0, _ => .nil
  | _, _, _ + 1, .nil => .nil
  | _, _, n + 1, .cons r t => .cons r (RpL.take n t)
theorem RpL.drop : ∀ {vs : List V} {ds : List D} (n : Nat), RpL K G vs ds → RpL K G (vs.drop n) (ds.drop n)
  | _, _, 0, r => r
  | _, _, _ + 1, .nil => .nil
  | _, _, n + 1, .cons _ t => RpL.drop n t
theorem RpL.set {v : V} {d : D} (r : Rp K G v d) : ∀ {vs : List V} {ds : List D} (i : Nat), RpL K G vs ds → RpL K G (vs.set i v) (ds.set i d)
  | _, _, _, .nil => .nil
  | _, _, 0, .cons _ t => .cons r t
  | _, _, i + 1, .cons q t => .cons q (RpL.set r i t)
theorem RpL.erase : ∀ {vs : List V} {ds : List D} (i : Nat), RpL K G vs ds → RpL K G (vs.eraseIdx i) (ds.eraseIdx i)
  | _, _, _, .nil => .nil
  | _, _, 0, .cons _ t => t
  | _, _, i + 1, .cons q t => .cons q (RpL.erase i t)
theorem RpL.one {v : V} {d : D} (r : Rp K G v d) : RpL K G [v] [d] := .cons r .nil
theorem RpL.reverse : ∀ {vs : List V} {ds : List D}, RpL K G vs ds → RpL K G vs.reverse ds.reverse
  | _, _, .nil => .nil
  | _, _, .cons r t => by
    rw [List.reverse_cons, List.reverse_cons]
    exact (RpL.reverse t).append (.one r)
theorem RpL.flatten : ∀ {n : Nat} {vs : List V} {ds : List D}, RpL K G vs ds → RpL K G (List.replicate n vs).flatten (List.replicate n ds).flatten
  | 0, _, _, _ => .nil
  | n + 1, _, _, h => by
    rw [List.replicate_succ, List.replicate_succ, List.flatten_cons, List.flatten_cons]
    exact h.append (RpL.flatten h)

/-! ### data without lists and dicts -/
mutual
def flat : D → Bool
  | .none | .bool _ | .int _ | .str _ => true
  | .tuple ds => flatL ds
  | .list _ => false
  | .dict _ => false
def flatL : List D → Bool
  | [] => true
  | d :: ds => flat d && flatL ds
end
/-- H without what stands at p -/
def cut (H : Hp) (p : Addr) : Hp := fun a => if a = p then none else H a
theorem cut_ne {H : Hp} {p a : Addr} (h : a ≠ p) : cut H p a = H a := by unfold cut; rw [if_neg h]
theorem cut_same {H : Hp} {p : Addr} : cut H p p = none := by unfold cut; rw [if_pos rfl]
/-- what is no tuple plays no part in flat data -/
def NoTup (G : Hp) (p : Addr) : Prop := ∀ xs, ¬ Rd G p (.tup xs)
mutual
theorem Rp.cut {p : Addr} (hp : NoTup G p) : ∀ {d : D} {v : V}, Rp K G v d → flat d = true → Rp K (Cl.cut G p) v d
  | .none, _, h, _ => by cases h; exact .non
  | .bool _, _, h, _ => by cases h; exact .bl _
  | .int _, _, h, _ => by cases h; exact .int _
  | .str _, _, h, _ => by cases h; exact .str _
  | .list ds, _, h, f => by simp [flat] at f
  | .tuple ds, _, h, f => by
    cases h with
    | tup h1 h2 =>
      rename_i a vs
      refine .tup ?_ (RpL.cut hp h2 (by simpa [flat] using f))
      rcases h1 with ⟨o, h1, q⟩ | h1
      · have ne : a ≠ p := fun e => hp vs (e ▸ .inr ⟨o, h1⟩)
        exact .inl ⟨o, by rw [cut_ne ne]; exact h1, q⟩
      · exact .inr h1
  | .dict ds, _, h, f => by simp [flat] at f
theorem RpL.cut {p : Addr} (hp : NoTup G p) : ∀ {ds : List D} {vs : List V}, RpL K G vs ds → flatL ds = true → RpL K (Cl.cut G p) vs ds
  | [], _, h, _ => by cases h; exact .nil
  | d :: ds, _, h, f => by
    cases h with
    | cons h1 h2 =>
      rw [flatL, Bool.and_eq_true] at f
      exact .cons (Rp.cut hp h1 f.1) (RpL.cut hp h2 f.2)
end
end

/-! ### where one stands: the visible heap G, a region J of objects that change, the heap H -/
structure Vis (G : Hp) (J : Addr → Prop) (H : Hp) : Prop where
  sub : Sub G H
  dis : ∀ a, J a → G a = none
  dom : ∀ a, J a → H a ≠ none
structure Aft (G : Hp) (J : Addr → Prop) (H : Hp) (G' : Hp) (J' : Addr → Prop) (H' : Hp) : Prop where
  gg : Sub G G'
  hh : ∀ a o, ¬ J a → H a = some o → H' a = some o
  dm : ∀ a, H a ≠ none → H' a ≠ none
  gn : ∀ a, G' a ≠ none → G a ≠ none ∨ H a = none
  jn : ∀ a, J' a → J a ∨ H a = none
  vis : Vis G' J' H'
section
variable {G G1 G2 H H1 H2 : Hp} {J J1 J2 : Addr → Prop}
theorem Aft.refl (v : Vis G J H) : Aft G J H G J H := ⟨Sub.refl _, fun _ _ _ h => h, fun _ h => h, fun _ h => .inl h, fun _ h => .inl h, v⟩
theorem Aft.trans (a : Aft G J H G1 J1 H1) (b : Aft G1 J1 H1 G2 J2 H2) : Aft G J H G2 J2 H2 where
  gg := a.gg.trans b.gg
  hh := fun c o hj h => b.hh c o (fun j1 => by
    rcases a.jn c j1 with q | q
    · exact hj q
    · rw [q] at h; cases h) (a.hh c o hj h)
  dm := fun c h => b.dm c (a.dm c h)
  gn := fun c h => by
    rcases b.gn c h with q | q
    · exact a.gn c q
    · exact .inr (Classical.byContradiction fun z => a.dm c z q)
  jn := fun c h => by
    rcases b.jn c h with q | q
    · exact a.jn c q
    · exact .inr (Classical.byContradiction fun z => a.dm c z q)
  vis := b.vis
theorem none_of_sub (e : Sub G H) {a : Addr} (h : H a = none) : G a = none := by
  cases q : G a with
  | none => rfl
  | some o => rw [e a o q] at h; cases h
theorem sub_upd {p : Addr} {o : HO} (h : G p = none) : Sub G (upd G p o) := fun a u e => by
  rw [upd_ne (ne_of_none e h)]; exact e
theorem sub_upd2 {p : Addr} {o : HO} (e : Sub G H) : Sub (upd G p o) (upd H p o) := fun a u h => by
  by_cases q : a = p
  · subst q; rw [upd_same] at h ⊢; exact h
  · rw [upd_ne q] at h ⊢; exact e a u h
theorem sub_updH {p : Addr} {o : HO} (e : Sub G H) (h : G p = none) : Sub G (upd H p o) := fun a u q => by
  rw [upd_ne (ne_of_none q h)]; exact e a u q
/-- what becomes of both heaps where nothing changes but new objects come -/
structure New (G H G' H' : Hp) : Prop where
  gg : Sub G G'
  hh : Sub H H'
  gn : ∀ a, G' a ≠ none → G a ≠ none ∨ H a = none
  sub : Sub G' H'
theorem New.refl (e : Sub G H) : New G H G H := ⟨Sub.refl _, Sub.refl _, fun _ h => .inl h, e⟩
theorem dm_of {H H' : Hp} (e : Sub H H') : ∀ a, H a ≠ none → H' a ≠ none := fun a h q => by
  cases z : H a with
  | none => exact h z
  | some o => rw [e a o z] at q; cases q
theorem New.trans (a : New G H G1 H1) (b : New G1 H1 G2 H2) : New G H G2 H2 where
  gg := a.gg.trans b.gg
  hh := a.hh.trans b.hh
  gn := fun c h => by
    rcases b.gn c h with q | q
    · exact a.gn c q
    · exact .inr (none_of_sub a.hh q)
  sub := b.sub
/-- a new visible object -/
theorem New.laid {p : Addr} {o : HO} (e : Sub G H) (h : H p = none) : New G H (upd G p o) (upd H p o) where
  gg := sub_upd (none_of_sub e h)
  hh := sub_upd h
  gn := fun a q => by
    by_cases z : a = p
    · subst z; exact .inr h
    · rw [upd_ne z] at q; exact .inl q
  sub := sub_upd2 e
/-- a new object that is not shown -/
theorem New.own {p : Addr} {o : HO} (e : Sub G H) (h : H p = none) : New G H G (upd H p o) where
  gg := Sub.refl _
  hh := sub_upd h
  gn := fun a q => .inl q
  sub := sub_updH e (none_of_sub e h)
theorem Vis.new (v : Vis G J H) (n : New G H G1 H1) : Vis G1 J H1 where
  sub := n.sub
  dis := fun a j => by
    cases q : G1 a with
    | none => rfl
    | some o =>
      rcases n.gn a (by rw [q]; exact Option.some_ne_none o) with z | z
      · exact absurd (v.dis a j) z
      · exact absurd z (v.dom a j)
  dom := fun a j => dm_of n.hh a (v.dom a j)
theorem New.aft (n : New G H G1 H1) (v : Vis G J H) : Aft G J H G1 J H1 := ⟨n.gg, fun a o _ h => n.hh a o h, dm_of n.hh, n.gn, fun _ h => .inl h, v.new n⟩
end

/-! ### a local name -/
inductive Cell where
  | lst (xs : List D) | dct (kvs : List (D × D))
def HC (K : PySem.W.Frag) (G H : Hp) (p : Addr) : Cell → Prop
  | .lst xs => ∃ vs, H p = some (.lst vs) ∧ RpL K G vs xs
  | .dct kvs => ∃ us, H p = some (.dK us) ∧ RpK K G us kvs
inductive Ent where
  | val (d : D) | own (c : Cell) | obj (a : Addr) | ll (xss : List (List D)) | bad
abbrev En := List (Option Ent)
theorem HC.ex {K : PySem.W.Frag} {G H : Hp} {p : Addr} {c : Cell} (h : HC K G H p c) : ∃ o, H p = some o := by
  cases c <;> (obtain ⟨u, h, _⟩ := h; exact ⟨_, h⟩)
theorem HC.keep {K : PySem.W.Frag} {G H G' H' : Hp} {p : Addr} {c : Cell} (h : HC K G H p c) (e : Sub G G') (k : ∀ o, H p = some o → H' p = some o) : HC K G' H' p c := by
  cases c with
  | lst xs => obtain ⟨u, h, r⟩ := h; exact ⟨u, k _ h, r.sub e⟩
  | dct xs => obtain ⟨u, h, r⟩ := h; exact ⟨u, k _ h, r.sub e⟩


/-! ### a list of lists of one's own -/
inductive LLs (K : PySem.W.Frag) (G H : Hp) : List Addr → List (List D) → Prop
  | nil : LLs K G H [] []
  | cons {q : Addr} {qs : List Addr} {vs : List V} {xs : List D} {xss : List (List D)} : H q = some (.lst vs) → RpL K G vs xs → LLs K G H qs xss → LLs K G H (q :: qs) (xs :: xss)
theorem LLs.length {K : PySem.W.Frag} {G H : Hp} : ∀ {qs : List Addr} {xss : List (List D)}, LLs K G H qs xss → qs.length = xss.length
  | _, _, .nil => rfl
  | _, _, .cons _ _ t => by rw [List.length_cons, List.length_cons, LLs.length t]
theorem LLs.ex {K : PySem.W.Frag} {G H : Hp} : ∀ {qs : List Addr} {xss : List (List D)}, LLs K G H qs xss → ∀ q ∈ qs, H q ≠ none
  | _, _, .nil, q, h => by simp at h
  | _, _, .cons e _ t, q, h => by
    rcases List.mem_cons.mp h with rfl | h
    · rw [e]; exact Option.some_ne_none _
    · exact LLs.ex t q h
theorem LLs.keep {K : PySem.W.Frag} {G G' H H' : Hp} (hg : Sub G G') : ∀ {qs : List Addr} {xss : List (List D)}, LLs K G H qs xss → (∀ q ∈ qs, ∀ o, H q = some o → H' q = some o) → LLs K G' H' qs xss
  | _, _, .nil, _ => .nil
  | _, _, .cons e r t, h => .cons (h _ List.mem_cons_self _ e) (r.sub hg) (LLs.keep hg t fun q hq => h q (List.mem_cons_of_mem _ hq))
theorem LLs.get {K : PySem.W.Frag} {G H : Hp} : ∀ {qs : List Addr} {xss : List (List D)} {i : Nat} {xs : List D}, LLs K G H qs xss → xss[i]? = some xs → ∃ q vs, qs[i]? = some q ∧ H q = some (.lst vs) ∧ RpL K G vs xs
  | _, _, _, _, .nil, e => by simp at e
  | _, _, 0, _, .cons h r _, e => by simp at e; subst e; exact ⟨_, _, rfl, h, r⟩
  | _, _, i + 1, xs, .cons _ _ t, e => by
    obtain ⟨q, vs, h1, h2, h3⟩ := LLs.get (i := i) (xs := xs) t (by simpa using e)
    exact ⟨q, vs, by simpa using h1, h2, h3⟩
theorem LLs.set {K : PySem.W.Frag} {G H : Hp} {q : Addr} {vs : List V} {xs : List D} (r : RpL K G vs xs) : ∀ {qs : List Addr} {xss : List (List D)} {i : Nat}, LLs K G H qs xss → qs.Nodup → qs[i]? = some q → LLs K G (upd H q (.lst vs)) qs (xss.set i xs)
  | _, _, _, .nil, _, e => by simp at e
  | _, _, 0, .cons h _ t, n, e => by
    simp at e; subst e
    refine .cons upd_same r (LLs.keep (Sub.refl _) t fun q' hq o ho => ?_)
    rw [upd_ne (fun z => (List.nodup_cons.mp n).1 (by rw [← z]; exact hq))]; exact ho
  | _, _, i + 1, .cons h r0 t, n, e => by
    have hm : q ∈ _ := List.mem_of_getElem? (show _ = some q by simpa using e)
    refine .cons (by rw [upd_ne (fun z => (List.nodup_cons.mp n).1 (by rw [z]; exact hm))]; exact h) r0 (LLs.set r t (List.nodup_cons.mp n).2 (by simpa using e))
theorem LLs.snoc {K : PySem.W.Frag} {G H : Hp} {q : Addr} {vs : List V} {xs : List D} (h : H q = some (.lst vs)) (r : RpL K G vs xs) : ∀ {qs : List Addr} {xss : List (List D)}, LLs K G H qs xss → LLs K G H (qs ++ [q]) (xss ++ [xs])
  | _, _, .nil => .cons h r .nil
  | _, _, .cons e r0 t => .cons e r0 (LLs.snoc h r t)
theorem refs_inj : ∀ {ps qs : List Addr}, ps.map V.ref = qs.map V.ref → ps = qs
  | [], [], _ => rfl
  | [], _ :: _, e => by simp at e
  | _ :: _, [], e => by simp at e
  | p :: ps, q :: qs, e => by
    rw [List.map_cons, List.map_cons] at e
    injection e with e1 e2
    injection e1 with e1
    rw [e1, refs_inj e2]
/-- the objects of the list of lists at i -/
def Foot (ρ : En) (σ : L2.St) (H : Hp) (i : Nat) (q : Addr) : Prop := ∃ xss p ps, ρ[i]? = some (some (.ll xss)) ∧ σ[i]? = some (some (.ref p)) ∧ H p = some (.lst (ps.map V.ref)) ∧ q ∈ p :: ps
structure LLok (K : PySem.W.Frag) (H0 : Hp) (ρ : En) (σ : L2.St) (H G : Hp) (J : Addr → Prop) : Prop where
  ll : ∀ (i : Nat) (xss : List (List D)), ρ[i]? = some (some (.ll xss)) → ∃ p ps, σ[i]? = some (some (.ref p)) ∧ H p = some (.lst (ps.map V.ref)) ∧ (p :: ps).Nodup ∧ LLs K G H ps xss
  fr : ∀ (i : Nat) (q : Addr), Foot ρ σ H i q → H0 q = none ∧ G q = none ∧ ¬ J q
  s1 : ∀ (i j : Nat) (c : Cell) (q : Addr), Foot ρ σ H i q → ρ[j]? = some (some (.own c)) → σ[j]? ≠ some (some (.ref q))
  s2 : ∀ (i j : Nat) (q : Addr), i ≠ j → Foot ρ σ H i q → ¬ Foot ρ σ H j q
section
variable {K : PySem.W.Frag} {H0 H0' G G' H H' : Hp} {ρ ρ' : En} {σ σ' : L2.St} {J J' : Addr → Prop}
theorem LLok.ex (l : LLok K H0 ρ σ H G J) {i : Nat} {q : Addr} (h : Foot ρ σ H i q) : H q ≠ none := by
  obtain ⟨xss, p, ps, e1, e2, e3, m⟩ := h
  obtain ⟨p0, ps0, f1, f2, f3, f4⟩ := l.ll i xss e1
  rw [e2] at f1; cases f1
  rw [e3] at f2
  have q2 := refs_inj (by injection f2 with z; injection z)
  subst q2
  rcases List.mem_cons.mp m with rfl | m
  · rw [e3]; exact Option.some_ne_none _
  · exact f4.ex q m
theorem LLok.keep (l : LLok K H0 ρ σ H G J) (hg : Sub G G')
    (hl : ∀ (i : Nat) (xss : List (List D)), ρ'[i]? = some (some (.ll xss)) → ρ[i]? = some (some (.ll xss)) ∧ σ'[i]? = σ[i]?)
    (ho : ∀ (i : Nat) (c : Cell), ρ'[i]? = some (some (.own c)) → (∃ c0, ρ[i]? = some (some (.own c0)) ∧ σ'[i]? = σ[i]?) ∨ ∀ j q, Foot ρ σ H j q → σ'[i]? ≠ some (some (.ref q)))
    (hh : ∀ (i : Nat) (q : Addr) (o : HO), Foot ρ σ H i q → H q = some o → H' q = some o)
    (hf : ∀ (i : Nat) (q : Addr), Foot ρ σ H i q → H0 q = none → G q = none → ¬ J q → H q ≠ none → H0' q = none ∧ G' q = none ∧ ¬ J' q) : LLok K H0' ρ' σ' H' G' J' := by
  have back : ∀ i q, Foot ρ' σ' H' i q → Foot ρ σ H i q := fun i q ⟨xss, p, ps, e1, e2, e3, m⟩ => by
    obtain ⟨g1, g2⟩ := hl i xss e1
    obtain ⟨p0, ps0, f1, f2, f3, f4⟩ := l.ll i xss g1
    rw [g2, f1] at e2
    have e2 : p0 = p := by cases e2; rfl
    subst e2
    have := hh i p0 _ ⟨xss, p0, ps0, g1, f1, f2, List.mem_cons_self⟩ f2
    rw [e3] at this
    have q2 := refs_inj (by injection this with z; injection z)
    subst q2
    exact ⟨xss, p0, ps, g1, f1, f2, m⟩
  refine ⟨fun i xss e => ?_, fun i q h => ?_, fun i j c q h e => ?_, fun i j q n h h' => l.s2 i j q n (back _ _ h) (back _ _ h')⟩
  · obtain ⟨g1, g2⟩ := hl i xss e
    obtain ⟨p0, ps0, f1, f2, f3, f4⟩ := l.ll i xss g1
    have ft : ∀ q ∈ p0 :: ps0, Foot ρ σ H i q := fun q m => ⟨xss, p0, ps0, g1, f1, f2, m⟩
    exact ⟨p0, ps0, by rw [g2]; exact f1, hh i p0 _ (ft _ List.mem_cons_self) f2, f3, f4.keep hg fun q hq o => hh i q o (ft q (List.mem_cons_of_mem _ hq))⟩
  · have h0 := back _ _ h
    obtain ⟨a, b, c⟩ := l.fr i q h0
    exact hf i q h0 a b c (l.ex h0)
  · rcases ho j c e with ⟨c0, g1, g2⟩ | z
    · rw [g2]; exact l.s1 i j c0 q (back _ _ h) g1
    · exact z i q (back _ _ h)
theorem LLok.back (l : LLok K H0 ρ σ H G J) (hh : ∀ (i : Nat) (q : Addr) (o : HO), Foot ρ σ H i q → H q = some o → H' q = some o) {i : Nat} {q : Addr} (h : Foot ρ σ H' i q) : Foot ρ σ H i q := by
  obtain ⟨xss, p, ps, e1, e2, e3, m⟩ := h
  obtain ⟨p0, ps0, f1, f2, f3, f4⟩ := l.ll i xss e1
  rw [f1] at e2
  have e2 : p0 = p := by cases e2; rfl
  subst e2
  have := hh i p0 _ ⟨xss, p0, ps0, e1, f1, f2, List.mem_cons_self⟩ f2
  rw [e3] at this
  have q2 := refs_inj (by injection this with z; injection z)
  subst q2
  exact ⟨xss, p0, ps, e1, f1, f2, m⟩
theorem LLok.none {K : PySem.W.Frag} {H0 G H : Hp} {ρ : En} {σ : L2.St} {J : Addr → Prop} (h : ∀ (i : Nat) (xss : List (List D)), ρ[i]? ≠ some (some (.ll xss))) : LLok K H0 ρ σ H G J :=
  ⟨fun i xss e => (h i xss e).elim, fun i q ⟨xss, p, ps, e, _⟩ => (h i xss e).elim, fun i j c q ⟨xss, p, ps, e, _⟩ => (h i xss e).elim, fun i j q _ ⟨xss, p, ps, e, _⟩ => (h i xss e).elim⟩
end
/-- the local names: H0 is the heap at the entry -/
structure EnvR (K : PySem.W.Frag) (H0 : Hp) (ρ : En) (σ : L2.St) (H G : Hp) (J : Addr → Prop) : Prop where
  val : ∀ (i : Nat) (d : D), ρ[i]? = some (some (.val d)) → ∃ v, σ[i]? = some (some v) ∧ Rp K G v d
  obj : ∀ (i : Nat) (a : Addr), ρ[i]? = some (some (.obj a)) → σ[i]? = some (some (.ref a))
  own : ∀ (i : Nat) (c : Cell), ρ[i]? = some (some (.own c)) → ∃ p, σ[i]? = some (some (.ref p)) ∧ H0 p = none ∧ G p = none ∧ ¬ J p ∧ HC K G H p c
  sep : ∀ (i j : Nat) (c c' : Cell) (p : Addr), i ≠ j → ρ[i]? = some (some (.own c)) → ρ[j]? = some (some (.own c')) → σ[i]? = some (some (.ref p)) → σ[j]? ≠ some (some (.ref p))
  len : ρ.length = σ.length
  nb : ∀ i : Nat, ρ[i]? ≠ some (some .bad)
  kid : LLok K H0 ρ σ H G J
theorem set_nb {ρ : En} {i : Nat} {x : Ent} (h : ∀ i : Nat, ρ[i]? ≠ some (some .bad)) (hx : x ≠ .bad) : ∀ j : Nat, (ρ.set i (some x))[j]? ≠ some (some .bad) := fun j q => by
  by_cases z : i = j
  · subst z
    rw [List.getElem?_set, if_pos rfl] at q
    split at q
    · exact hx (Option.some.inj (Option.some.inj q))
    · cases q
  · rw [List.getElem?_set_ne z] at q
    exact h j q
section
variable {K : PySem.W.Frag} {H0 G G' H H' : Hp} {ρ : En} {σ : L2.St} {J J' : Addr → Prop}
theorem EnvR.aft (e : EnvR K H0 ρ σ H G J) (a : Aft G J H G' J' H') : EnvR K H0 ρ σ H' G' J' where
  val := fun i d h => let ⟨v, h1, h2⟩ := e.val i d h; ⟨v, h1, h2.sub a.gg⟩
  obj := e.obj
  own := fun i c h => by
    obtain ⟨p, h1, h2, h3, h4, h5⟩ := e.own i c h
    obtain ⟨o, ho⟩ := h5.ex
    refine ⟨p, h1, h2, ?_, fun j => ?_, h5.keep a.gg fun o h => a.hh p o h4 h⟩
    · cases q : G' p with
      | none => rfl
      | some u =>
        rcases a.gn p (by rw [q]; exact Option.some_ne_none u) with z | z
        · exact absurd h3 z
        · rw [ho] at z; cases z
    · rcases a.jn p j with z | z
      · exact h4 z
      · rw [ho] at z; cases z
  sep := e.sep
  len := e.len
  nb := e.nb
  kid := e.kid.keep a.gg (fun i xss h => ⟨h, rfl⟩) (fun i c h => .inl ⟨c, h, rfl⟩) (fun i q o h => a.hh q o (e.kid.fr i q h).2.2) fun i q h h0 hg hj hn => ⟨h0, by
    cases z : G' q with
    | none => rfl
    | some u =>
      rcases a.gn q (by rw [z]; exact Option.some_ne_none u) with y | y
      · exact absurd hg y
      · exact absurd y hn, fun j => by
    rcases a.jn q j with y | y
    · exact hj y
    · exact hn y⟩
/-- a name is stored: a plain value -/
theorem EnvR.setV {i : Nat} {v : V} {d : D} (e : EnvR K H0 ρ σ H G J) (r : Rp K G v d) : EnvR K H0 (ρ.set i (some (.val d))) (σ.set i (some v)) H G J where
  val := fun j d' h => by
    by_cases q : i = j
    · subst q
      rw [List.getElem?_set] at h
      rw [if_pos rfl] at h
      split at h
      · rename_i hl
        cases h
        refine ⟨v, ?_, r⟩
        rw [List.getElem?_set, if_pos rfl, if_pos (by rw [← e.len]; exact hl)]
      · cases h
    · rw [List.getElem?_set_ne q] at h ⊢
      exact e.val j d' h
  obj := fun j a h => by
    by_cases q : i = j
    · subst q
      rw [List.getElem?_set, if_pos rfl] at h
      split at h <;> cases h
    · rw [List.getElem?_set_ne q] at h ⊢
      exact e.obj j a h
  own := fun j c h => by
    by_cases q : i = j
    · subst q
      rw [List.getElem?_set, if_pos rfl] at h
      split at h <;> cases h
    · rw [List.getElem?_set_ne q] at h ⊢
      exact e.own j c h
  sep := fun j k c c' p hjk h1 h2 h3 h4 => by
    by_cases q : i = j
    · subst q
      rw [List.getElem?_set, if_pos rfl] at h1
      split at h1 <;> cases h1
    · by_cases q' : i = k
      · subst q'
        rw [List.getElem?_set, if_pos rfl] at h2
        split at h2 <;> cases h2
      · rw [List.getElem?_set_ne q] at h1 h3
        rw [List.getElem?_set_ne q'] at h2 h4
        exact e.sep j k c c' p hjk h1 h2 h3 h4
  len := by rw [List.length_set, List.length_set, e.len]
  nb := set_nb e.nb (fun z => by cases z)
  kid := e.kid.keep (Sub.refl _) (fun j xss h => by
    by_cases q : i = j
    · subst q
      rw [List.getElem?_set, if_pos rfl] at h
      split at h <;> cases h
    · rw [List.getElem?_set_ne q] at h
      exact ⟨h, List.getElem?_set_ne q⟩) (fun j c h => by
    by_cases q : i = j
    · subst q
      rw [List.getElem?_set, if_pos rfl] at h
      split at h <;> cases h
    · rw [List.getElem?_set_ne q] at h
      exact .inl ⟨c, h, List.getElem?_set_ne q⟩) (fun _ _ _ _ h => h) fun _ _ _ h0 hg hj _ => ⟨h0, hg, hj⟩
theorem EnvR.setO {i : Nat} {a : Addr} (e : EnvR K H0 ρ σ H G J) : EnvR K H0 (ρ.set i (some (.obj a))) (σ.set i (some (.ref a))) H G J where
  val := fun j d' h => by
    by_cases q : i = j
    · subst q
      rw [List.getElem?_set, if_pos rfl] at h
      split at h <;> cases h
    · rw [List.getElem?_set_ne q] at h ⊢
      exact e.val j d' h
  obj := fun j a' h => by
    by_cases q : i = j
    · subst q
      rw [List.getElem?_set, if_pos rfl] at h
      split at h
      · rename_i hl
        cases h
        rw [List.getElem?_set, if_pos rfl, if_pos (by rw [← e.len]; exact hl)]
      · cases h
    · rw [List.getElem?_set_ne q] at h ⊢
      exact e.obj j a' h
  own := fun j c h => by
    by_cases q : i = j
    · subst q
      rw [List.getElem?_set, if_pos rfl] at h
      split at h <;> cases h
    · rw [List.getElem?_set_ne q] at h ⊢
      exact e.own j c h
  sep := fun j k c c' p hjk h1 h2 h3 h4 => by
    by_cases q : i = j
    · subst q
      rw [List.getElem?_set, if_pos rfl] at h1
      split at h1 <;> cases h1
    · by_cases q' : i = k
      · subst q'
        rw [List.getElem?_set, if_pos rfl] at h2
        split at h2 <;> cases h2
      · rw [List.getElem?_set_ne q] at h1 h3
        rw [List.getElem?_set_ne q'] at h2 h4
        exact e.sep j k c c' p hjk h1 h2 h3 h4
  len := by rw [List.length_set, List.length_set, e.len]
  nb := set_nb e.nb (fun z => by cases z)
  kid := e.kid.keep (Sub.refl _) (fun j xss h => by
    by_cases q : i = j
    · subst q
      rw [List.getElem?_set, if_pos rfl] at h
      split at h <;> cases h
    · rw [List.getElem?_set_ne q] at h
      exact ⟨h, List.getElem?_set_ne q⟩) (fun j c h => by
    by_cases q : i = j
    · subst q
      rw [List.getElem?_set, if_pos rfl] at h
      split at h <;> cases h
    · rw [List.getElem?_set_ne q] at h
      exact .inl ⟨c, h, List.getElem?_set_ne q⟩) (fun _ _ _ _ h => h) fun _ _ _ h0 hg hj _ => ⟨h0, hg, hj⟩
/-- a new object of one's own is stored -/
theorem EnvR.setL {i : Nat} {p : Addr} {c : Cell} (e : EnvR K H0 ρ σ H G J) (h0 : H0 p = none) (hg : G p = none) (hj : ¬ J p) (hc : HC K G H p c)
    (hn : ∀ (j : Nat) (c' : Cell), j ≠ i → ρ[j]? = some (some (.own c')) → σ[j]? ≠ some (some (.ref p))) (hk : ∀ j q, Foot ρ σ H j q → q ≠ p) : EnvR K H0 (ρ.set i (some (.own c))) (σ.set i (some (.ref p))) H G J where
  val := fun j d' h => by
    by_cases q : i = j
    · subst q
      rw [List.getElem?_set, if_pos rfl] at h
      split at h <;> cases h
    · rw [List.getElem?_set_ne q] at h ⊢
      exact e.val j d' h
  obj := fun j a' h => by
    by_cases q : i = j
    · subst q
      rw [List.getElem?_set, if_pos rfl] at h
      split at h <;> cases h
    · rw [List.getElem?_set_ne q] at h ⊢
      exact e.obj j a' h
  own := fun j c' h => by
    by_cases q : i = j
    · subst q
      rw [List.getElem?_set, if_pos rfl] at h
      split at h
      · rename_i hl
        cases h
        refine ⟨p, ?_, h0, hg, hj, hc⟩
        rw [List.getElem?_set, if_pos rfl, if_pos (by rw [← e.len]; exact hl)]
      · cases h
    · rw [List.getElem?_set_ne q] at h ⊢
      exact e.own j c' h
  sep := fun j k c1 c2 r hjk h1 h2 h3 h4 => by
    by_cases q : i = j
    · subst q
      rw [List.getElem?_set_ne hjk] at h2 h4
      rw [List.getElem?_set, if_pos rfl] at h3
      split at h3
      · cases h3
        exact hn k c2 (Ne.symm hjk) h2 h4
      · cases h3
    · by_cases q' : i = k
      · subst q'
        rw [List.getElem?_set_ne q] at h1 h3
        rw [List.getElem?_set, if_pos rfl] at h4
        split at h4
        · cases h4
          exact hn j c1 hjk h1 h3
        · cases h4
      · rw [List.getElem?_set_ne q] at h1 h3
        rw [List.getElem?_set_ne q'] at h2 h4
        exact e.sep j k c1 c2 r hjk h1 h2 h3 h4
  len := by rw [List.length_set, List.length_set, e.len]
  nb := set_nb e.nb (fun z => by cases z)
  kid := e.kid.keep (Sub.refl _) (fun j xss h => by
    by_cases q : i = j
    · subst q
      rw [List.getElem?_set, if_pos rfl] at h
      split at h <;> cases h
    · rw [List.getElem?_set_ne q] at h
      exact ⟨h, List.getElem?_set_ne q⟩) (fun j c h => by
    by_cases q : i = j
    · subst q
      refine .inr fun j q h2 h3 => ?_
      rw [List.getElem?_set, if_pos rfl] at h3
      split at h3
      · cases h3; exact hk j _ h2 rfl
      · cases h3
    · rw [List.getElem?_set_ne q] at h
      exact .inl ⟨_, h, List.getElem?_set_ne q⟩) (fun _ _ _ _ h => h) fun _ _ _ h0 hg hj _ => ⟨h0, hg, hj⟩
/-- fewer names known -/
def LeE (ρ ρ' : En) : Prop := ρ.length = ρ'.length ∧ ∀ (i : Nat) (x : Ent), ρ[i]? = some (some x) → ρ'[i]? = some (some x)
theorem EnvR.le {ρ' : En} (e : EnvR K H0 ρ' σ H G J) (l : LeE ρ ρ') : EnvR K H0 ρ σ H G J where
  val := fun i d h => e.val i d (l.2 i _ h)
  obj := fun i d h => e.obj i d (l.2 i _ h)
  own := fun i d h => e.own i d (l.2 i _ h)
  sep := fun i j c c' p hij h1 h2 => e.sep i j c c' p hij (l.2 i _ h1) (l.2 j _ h2)
  len := l.1.trans e.len
  nb := fun i z => e.nb i (l.2 i _ z)
  kid := e.kid.keep (Sub.refl _) (fun i xss h => ⟨l.2 i _ h, rfl⟩) (fun i c h => .inl ⟨c, l.2 i _ h, rfl⟩) (fun _ _ _ _ h => h) fun _ _ _ h0 hg hj _ => ⟨h0, hg, hj⟩
/-- the own object at p changes -/
theorem EnvR.mut {i : Nat} {p : Addr} {c c' : Cell} {o : HO} (e : EnvR K H0 ρ σ H G J) (hi : ρ[i]? = some (some (.own c))) (hp : σ[i]? = some (some (.ref p))) (hc : HC K G (upd H p o) p c') : EnvR K H0 (ρ.set i (some (.own c'))) σ (upd H p o) G J where
  val := fun j d' h => by
    by_cases q : i = j
    · subst q
      rw [List.getElem?_set, if_pos rfl] at h
      split at h <;> cases h
    · rw [List.getElem?_set_ne q] at h
      exact e.val j d' h
  obj := fun j a' h => by
    by_cases q : i = j
    · subst q
      rw [List.getElem?_set, if_pos rfl] at h
      split at h <;> cases h
    · rw [List.getElem?_set_ne q] at h
      exact e.obj j a' h
  own := fun j c1 h => by
    by_cases q : i = j
    · subst q
      rw [List.getElem?_set, if_pos rfl] at h
      split at h
      · cases h
        obtain ⟨p', h1, h2, h3, h4, h5⟩ := e.own _ _ hi
        rw [hp] at h1; cases h1
        exact ⟨p, hp, h2, h3, h4, hc⟩
      · cases h
    · rw [List.getElem?_set_ne q] at h
      obtain ⟨p', h1, h2, h3, h4, h5⟩ := e.own _ _ h
      have ne : p' ≠ p := fun z => by
        subst z
        exact e.sep _ _ _ _ _ q hi h hp h1
      refine ⟨p', h1, h2, h3, h4, h5.keep (Sub.refl _) fun o h => ?_⟩
      rw [upd_ne ne]; exact h
  sep := fun j k c1 c2 r hjk h1 h2 h3 h4 => by
    have f1 : ∃ c, ρ[j]? = some (some (.own c)) := by
      by_cases q : i = j
      · subst q; exact ⟨_, hi⟩
      · rw [List.getElem?_set_ne q] at h1; exact ⟨_, h1⟩
    have f2 : ∃ c, ρ[k]? = some (some (.own c)) := by
      by_cases q : i = k
      · subst q; exact ⟨_, hi⟩
      · rw [List.getElem?_set_ne q] at h2; exact ⟨_, h2⟩
    obtain ⟨d1, f1⟩ := f1
    obtain ⟨d2, f2⟩ := f2
    exact e.sep j k d1 d2 r hjk f1 f2 h3 h4
  len := by rw [List.length_set, e.len]
  nb := set_nb e.nb (fun z => by cases z)
  kid := e.kid.keep (Sub.refl _) (fun j xss h => by
    by_cases q : i = j
    · subst q
      rw [List.getElem?_set, if_pos rfl] at h
      split at h <;> cases h
    · rw [List.getElem?_set_ne q] at h
      exact ⟨h, rfl⟩) (fun j c1 h => by
    by_cases q : i = j
    · subst q; exact .inl ⟨c, hi, rfl⟩
    · rw [List.getElem?_set_ne q] at h
      exact .inl ⟨c1, h, rfl⟩) (fun j q o' h ho => by
    rw [upd_ne (fun z => e.kid.s1 j i c q h hi (by rw [z]; exact hp))]; exact ho) fun _ _ _ h0 hg hj _ => ⟨h0, hg, hj⟩
end

/-! ### new tuples, known to the object -/
section
variable {X : Cx}
/-- a new tuple p that holds ys -/
def NewT (H : Hp) (ys : List V) (Q : VK) : Prop := ∀ (p : Addr) (o : Obj), H p = none → o.cls = .type "tuple" → o.dict = none → Q (.ref p) (upd H p (.frz o (.tup ys)))
theorem ep_frz {pins : List (Addr × Obj)} {σ : L2.St} {H : Hp} {s : Shared} {Q : VK} {ys : List V} {its : List Value} {OB : Obj} {h2 : Heap} {t2 : Nat} (I : Inv X pins σ H { s with heap := h2, toks := t2 }) (hc : OB.cls = .type "tuple") (hd : OB.dict = none) (hf : OB.isFreed = false) (hz : ys.length ≤ sizeLine) (r : Vals ys its)
    (ht : IsTup (h2.push OB) h2.objs.size its.toArray) (q : NewT H ys Q) : EP X pins σ Q (.ref h2.objs.size) { s with heap := h2.push OB, toks := t2 } :=
  ⟨.ref h2.objs.size, _, I.laid (t' := t2) (o := .frz OB (.tup ys)) (fun b ob q => Heap.get?_push_of_some _ q) (Nat.le_refl _) ⟨Heap.get?_push_size _ hf, hz, its, r, ht⟩, rfl, q _ _ (I.hok.fresh (Nat.le_refl _)) hc hd⟩
def tTupF (t : TA) : TE := fun σ H Q => t σ H fun xs H1 => xs.length ≤ sizeLine ∧ NewT H1 xs Q
theorem pe_tupF {es : List Expr} {t : TA} {x1} {pos : Pos} (h : PA X es t) : PE X (.Tuple es x1 pos) (tTupF t) := by
  refine ⟨fun pins s σ H Q I hq => ?_⟩
  refine wpAny_Tuple_spliced (thn (h.run pos pins s σ H _ I hq) fun us s1 ⟨xs, H1, I1, r, z, q⟩ => ⟨by rw [← r.length]; exact z, ?_⟩)
  exact ep_frz (s := s1) (h2 := s1.heap) (t2 := s1.toks) I1 rfl rfl rfl z r ⟨_, Heap.get?_push_size _ rfl, rfl, _, rfl⟩ q
/-- t + u -/
def rCatF (K : PySem.W.Frag) : R2 := fun x y H Q => ∃ a b xs ys, x = .ref a ∧ y = .ref b ∧ SqT K H a xs ∧ SqT K H b ys ∧ xs.length + ys.length ≤ sizeLine ∧
  (xs = [] → Q (.ref b) H) ∧ (xs ≠ [] → ys = [] → Q (.ref a) H) ∧ (xs ≠ [] → ys ≠ [] → NewT H (xs ++ ys) Q)
theorem op_catF : OpR X (binaryOp .Add) (rCatF X.K) := by
  intro pins s σ H x y v u Q I rx ry h
  obtain ⟨a, b, xs, ys, rfl, rfl, ha, hb, hz, q0, q1, q2⟩ := h
  cases rx
  cases ry
  obtain ⟨its, r1, p1, _⟩ := I.tuple ha
  obtain ⟨its2, r2, p2, _⟩ := I.tuple hb
  by_cases hx : xs = []
  · subst hx
    cases r1
    exact cat_tup0 p1 p2 ⟨.ref b, H, I, rfl, q0 rfl⟩
  · refine HT.cat_tup p1 p2 (fun z => hx (r1.nil_iff.mp z)) (fun z => ⟨.ref a, H, I, rfl, q1 hx (r2.nil_iff.mp z)⟩) (fun z => ?_) (by rw [← r1.length, ← r2.length]; exact hz)
    exact ep_frz (s := s) (h2 := s.heap) (t2 := s.toks) I rfl rfl rfl (by rw [List.length_append]; exact hz) (r1.append r2) (IsTup.new _ _) (q2 hx (fun w => z (r2.nil_iff.mpr w)))
/-- t[lo:hi]: the whole of it is t itself -/
def rSlF0 (K : PySem.W.Frag) : V → Option Int → Option Int → Hp → VK → Prop := fun x lo hi H Q => ∃ a xs, x = .ref a ∧ SqT K H a xs ∧
  (HT.sIx xs.length 0 lo = 0 ∧ HT.sIx xs.length xs.length hi = xs.length → Q (.ref a) H) ∧ (¬ (HT.sIx xs.length 0 lo = 0 ∧ HT.sIx xs.length xs.length hi = xs.length) → NewT H (cutV xs lo hi) Q)
theorem sl_tupF0 : SlR X (rSlF0 X.K) := by
  intro pins s σ H x v vl vu lo hi sl Q I rx hs pl pu h
  obtain ⟨a, xs, rfl, hx, q1, q2⟩ := h
  cases rx
  obtain ⟨its, r, ht, hz⟩ := I.tuple hx
  have hlen : its.toArray.size = xs.length := by rw [List.size_toArray]; exact r.length.symm
  refine ⟨"tuple", _, PyProof.Rows.slot_tuple_getitem.lookup, ht.typeIs, ?_⟩
  by_cases hw : HT.sIx xs.length 0 lo = 0 ∧ HT.sIx xs.length xs.length hi = xs.length
  · exact getItem_tuple_whole ht hs pl pu (by rw [hlen]; exact hw) ⟨.ref a, H, I, rfl, q1 hw⟩
  · refine HT.getItem_tuple_cut ht hs pl pu (by rw [hlen]; exact hw) ?_ (by rw [hlen]; exact hz)
    rw [hlen]
    exact ep_frz (s := s) (h2 := s.heap) (t2 := s.toks) I rfl rfl rfl (Nat.le_trans (cutV_length xs lo hi) hz) ((r.drop (HT.sIx xs.length 0 lo)).take (HT.sIx xs.length xs.length hi - HT.sIx xs.length 0 lo)) (IsTup.new _ _) (q2 hw)
/-- t * k -/
def rRepF (K : PySem.W.Frag) : R2 := fun x y H Q => ∃ l k xs, x = .ref l ∧ y = .int k ∧ SqT K H l xs ∧ xs ≠ [] ∧ 2 ≤ k ∧ k ≤ 1000 ∧ xs.length ≤ 1000 ∧ NewT H (List.replicate k.toNat xs).flatten Q
theorem op_repF : OpR X (binaryOp .Mult) (rRepF X.K) := by
  intro pins s σ H x y v u Q I rx ry h
  obtain ⟨l, k, xs, rfl, rfl, hT, hne, h1, h2, hz, q⟩ := h
  cases rx
  obtain ⟨t, rfl⟩ := ry
  obtain ⟨its, r, ⟨⟨cls, dd, data, sl⟩, ho, hc, n, hd⟩, hs⟩ := I.tuple hT
  simp only at hc hd
  subst hc hd
  have hle : its.length = xs.length := r.length.symm
  have hn : its ≠ [] := fun e => hne (by
    rw [e] at hle
    exact List.eq_nil_of_length_eq_zero hle.symm)
  have hi : its.toArray.isEmpty = false := by
    cases its with
    | nil => exact absurd rfl hn
    | cons a b => rfl
  have hsz0 : its.toArray.size = xs.length := by rw [List.size_toArray, hle]
  have hm : ((its.toArray.size : Nat) : Int) * k ≤ 1000000 := by
    rw [hsz0]
    have a1 : ((xs.length : Nat) : Int) * k ≤ 1000 * k := Int.mul_le_mul_of_nonneg_right (by omega) (by omega)
    omega
  have flen : (List.replicate k.toNat its).flatten.length ≤ sizeLine := by
    rw [PyProof.Rows.lm_len_rep_flat, hle, sizeLine_eq]
    have a1 : k.toNat * xs.length ≤ 1000 * 1000 := Nat.mul_le_mul (by omega) hz
    omega
  have c0 : (decide (k < -(2 ^ 63)) || decide (k ≥ 2 ^ 63)) = false := by
    rw [decide_eq_false (by omega), decide_eq_false (by omega)] <;> rfl
  have c1 : (its.toArray.isEmpty || k == 1) = false := by
    rw [hi, Bool.false_or]
    exact beq_eq_false_iff_ne.mpr (by omega)
  have c2 : (decide (k ≤ 0) || its.toArray.isEmpty) = false := by
    rw [hi, Bool.or_false]
    exact decide_eq_false (by omega)
  have c4 : Builtin.Tuple.tupleTooMany (((its.toArray.size : Nat) : Int) * k) = false := by
    unfold Builtin.Tuple.tupleTooMany
    rw [sizeLine_eq]
    exact decide_eq_false (by omega)
  refine wpAny_binaryOp_repeat_ref (T := "tuple") (U := "int") (by decide) ⟨_, ho, rfl⟩ (fun s' => typeIs_int s' k t) noFill_tuple_mul F.fills_int_mul F.slot_int_rmul repeat_tuple F.slot_int_index.lookup
    (call_meets F.slot_int_rmul (typeIs_int s k t) F.entry_int_rmul (F.args_int_rmul_2 _ _) (int_rmul_tuple k t l its.toArray n dd sl)
      ⟨ho, rfl, ⟨_, ho, rfl⟩, call_meets F.slot_tuple_mul ⟨_, ho, rfl⟩ F.entry_tuple_mul (F.args_tuple_mul_2 _ _) (tuple_mulW l its.toArray n dd sl k t c0 c1 c2 (by omega) c4 (by rw [size_rep, List.size_toArray]; exact flen)) ⟨ho, ?_⟩⟩)
  rw [size_rep]
  exact ep_frz (s := s) (h2 := s.heap) (t2 := s.toks) I rfl rfl rfl (by rw [PyProof.Rows.lm_len_rep_flat, sizeLine_eq]; have a1 : k.toNat * xs.length ≤ 1000 * 1000 := Nat.mul_le_mul (by omega) hz; omega) (r.rep k.toNat) (IsTup.new _ _) q
theorem call_tuple_ofF : CallR X (.type "tuple") (fun xs H Q => ∃ p ys, xs = [.ref p] ∧ ((SqL X.K H p ys ∧ NewT H ys Q) ∨ (SqT X.K H p ys ∧ Q (.ref p) H))) := by
  intro pins s σ H xs us Q I r h
  obtain ⟨p, ys, rfl, h⟩ := h
  obtain ⟨u, rfl, rx⟩ := vals1 r
  cases rx
  rcases h with ⟨hq, q⟩ | ⟨hq, q⟩
  · obtain ⟨its, r', pl, hz⟩ := I.list hq
    have hlen := r'.length
    refine call_tuple_list pl.isList (fun h' kp => ?_) (by simp only [List.size_toArray] <;> omega)
    have I1 : Inv X pins σ H { s with heap := h' } := I.kept (t' := s.toks) kp
    exact ep_frz (s := s) (h2 := h') (t2 := s.toks) I1 rfl rfl rfl hz r' (IsTup.new _ _) q
  · obtain ⟨its, r', pl, hz⟩ := I.tuple hq
    exact call_tuple_same pl ⟨.ref p, H, I, rfl, q⟩
end
end Cl

set_option Elab.async false
set_option linter.all false
set_option maxRecDepth 100000
set_option maxHeartbeats 4000000
/-! the clean layer, part B: what an expression is worth -/
namespace Cl
open PySem PySem.Spec PyProof.Rows L2
open MO

def optP {α : Type} : Option α → P α
  | some a => .ok a
  | none => .no
/-- a part that may be lacking -/
def need {m : Type → Type} [MO m] {α : Type} (o : Option α) : m α := lift (optP o)
theorem of_need {γ : Type} {m : Type → Type} [PM γ m] {α β : Type} {o : Option α} {k : α → m β} {g : γ} {Q : β → γ → Prop} {E : Xc → γ → Prop} (h : PM.wp (bnd (need o) k) g Q E) : ∃ a, o = some a ∧ PM.wp (k a) g Q E := by
  have h1 := PM.of_lift (PM.of_bnd h)
  cases o with
  | none => exact h1.elim
  | some a => exact ⟨a, rfl, h1⟩

/-- what stands in the region, and what it leans on -/
structure SIx (γ : Type) where
  si : γ → Hp → (Addr → Prop) → Hp → Prop
  new : ∀ {g : γ} {G G' H H' : Hp} {J : Addr → Prop}, si g G J H → Sub G G' → (∀ a o, J a → H a = some o → H' a = some o) → si g G' J H'
  cut : ∀ {g : γ} {G H : Hp} {J : Addr → Prop} {p : Addr}, si g G J H → NoTup G p → (∀ o u, G p ≠ some (.frz o u)) → ¬ J p → si g (Cl.cut G p) J H
/-- the code's surroundings -/
structure Cc (γ : Type) where
  H0 : Hp
  G0 : Hp
  J0 : Addr → Prop
  S : SIx γ
  EX : Xc → γ → Prop
structure Cc.St {γ : Type} (C : Cc γ) (K : PySem.W.Frag) (ρ : En) (σ : L2.St) (H G : Hp) (J : Addr → Prop) (g : γ) : Prop where
  env : EnvR K C.H0 ρ σ H G J
  aft : Aft C.G0 C.J0 C.H0 G J H
  si : C.S.si g G J H
section
variable {γ : Type} {C : Cc γ} {K : PySem.W.Frag} {ρ : En} {σ : L2.St} {H G H' G' : Hp} {J J' : Addr → Prop} {g g' : γ}
theorem Cc.St.vis (s : C.St K ρ σ H G J g) : Vis G J H := s.aft.vis
theorem Cc.St.go (s : C.St K ρ σ H G J g) (a : Aft G J H G' J' H') (si : C.S.si g' G' J' H') : C.St K ρ σ H' G' J' g' := ⟨s.env.aft a, s.aft.trans a, si⟩
theorem SIx.nw {S : SIx γ} (s : S.si g G J H) (n : New G H G' H') : S.si g G' J H' := S.new s n.gg fun a o _ h => n.hh a o h
end

/-- what comes: a plain value, an object of one's own, another object -/
inductive R where
  | v (d : D) | l (c : Cell) | o (a : Addr) | p (xs : List D) (d : D)
def RR (K : PySem.W.Frag) (G : Hp) (J : Addr → Prop) (H Hb : Hp) (v : V) : R → Prop
  | .v d => Rp K G v d
  | .l c => ∃ p, v = .ref p ∧ Hb p = none ∧ G p = none ∧ ¬ J p ∧ HC K G H p c
  | .o a => v = .ref a
  | .p xs d => ∃ (t p : Addr) (v2 : V), v = .ref t ∧ SqF K G t [.ref p, v2] ∧ Rp K G v2 d ∧ Hb p = none ∧ G p = none ∧ ¬ J p ∧ HC K G H p (.lst xs)
theorem own_aft {K : PySem.W.Frag} {G G' H H' : Hp} {J J' : Addr → Prop} {p : Addr} {c : Cell} (a : Aft G J H G' J' H') (h3 : G p = none) (h4 : ¬ J p) (h5 : HC K G H p c) : G' p = none ∧ ¬ J' p ∧ HC K G' H' p c := by
  obtain ⟨o, ho⟩ := h5.ex
  refine ⟨?_, fun j => ?_, h5.keep a.gg fun o h => a.hh p o h4 h⟩
  · cases q : G' p with
    | none => rfl
    | some u =>
      rcases a.gn p (by rw [q]; exact Option.some_ne_none u) with z | z
      · exact absurd h3 z
      · rw [ho] at z; cases z
  · rcases a.jn p j with z | z
    · exact h4 z
    · rw [ho] at z; cases z
theorem RR.aft {K : PySem.W.Frag} {G G' H H' Hb : Hp} {J J' : Addr → Prop} {v : V} {r : R} (h : RR K G J H Hb v r) (a : Aft G J H G' J' H') : RR K G' J' H' Hb v r := by
  cases r with
  | v d => exact Rp.sub a.gg h
  | o x => exact h
  | l c =>
    obtain ⟨p, h1, h2, h3, h4, h5⟩ := h
    exact ⟨p, h1, h2, own_aft a h3 h4 h5⟩
  | p xs d =>
    obtain ⟨t, p, v2, h1, ht, hr, h2, h3, h4, h5⟩ := h
    exact ⟨t, p, v2, h1, a.gg.seqF ht, hr.sub a.gg, h2, own_aft a h3 h4 h5⟩
theorem RR.base {K : PySem.W.Frag} {G H Hb Hc : Hp} {J : Addr → Prop} {v : V} {r : R} (h : RR K G J H Hb v r) (k : ∀ a, Hb a = none → Hc a = none) : RR K G J H Hc v r := by
  cases r with
  | v d => exact h
  | o x => exact h
  | l c =>
    obtain ⟨p, h1, h2, h3⟩ := h
    exact ⟨p, h1, k p h2, h3⟩
  | p xs d =>
    obtain ⟨t, p, v2, h1, ht, hr, h2, h3⟩ := h
    exact ⟨t, p, v2, h1, ht, hr, k p h2, h3⟩

section
variable {γ : Type} {m : Type → Type} [PM γ m]
/-- an expression: x is what is done from here on, k what is done with its value -/
def CE {α β : Type} (C : Cc γ) (X : Cx) (ρ : En) (e : Expr) (rk : α → R) (x : m β) (k : α → m β) : Prop :=
  ∀ Qf : β → γ → Prop, PE X e (fun σ H Q => ∃ G J g, C.St X.K ρ σ H G J g ∧ PM.wp x g Qf C.EX ∧
    ∀ v a H' G' J' g', Aft G J H G' J' H' → C.S.si g' G' J' H' → RR X.K G' J' H' H v (rk a) → PM.wp (k a) g' Qf C.EX → Q v H')
/-- a test -/
def CT {β : Type} (C : Cc γ) (X : Cx) (ρ : En) (e : Expr) (x : m β) (k : Bool → m β) : Prop :=
  ∀ Qf : β → γ → Prop, PT X e (fun σ H Q => ∃ G J g, C.St X.K ρ σ H G J g ∧ PM.wp x g Qf C.EX ∧
    ∀ b H' G' J' g', Aft G J H G' J' H' → C.S.si g' G' J' H' → PM.wp (k b) g' Qf C.EX → Q b H')
def CW {β : Type} (C : Cc γ) (X : Cx) (ρ : En) (e : Expr) (x : m β) (k : Bool → m β) : Prop :=
  ∀ Qf : β → γ → Prop, PW X e (fun σ H Q => ∃ G J g, C.St X.K ρ σ H G J g ∧ PM.wp x g Qf C.EX ∧
    ∀ b H' G' J' g', Aft G J H G' J' H' → C.S.si g' G' J' H' → PM.wp (k b) g' Qf C.EX → Q b H')
/-- several values -/
inductive RRs (K : PySem.W.Frag) (G : Hp) (J : Addr → Prop) (H Hb : Hp) : List V → List R → Prop
  | nil : RRs K G J H Hb [] []
  | cons {v : V} {vs : List V} {r : R} {rs : List R} : RR K G J H Hb v r → RRs K G J H Hb vs rs → RRs K G J H Hb (v :: vs) (r :: rs)
def CA {β : Type} (C : Cc γ) (X : Cx) (ρ : En) (es : List Expr) (x : m β) (k : List R → m β) : Prop :=
  ∀ Qf : β → γ → Prop, PA X es (fun σ H Q => ∃ G J g, C.St X.K ρ σ H G J g ∧ PM.wp x g Qf C.EX ∧
    ∀ vs rs H' G' J' g', Aft G J H G' J' H' → C.S.si g' G' J' H' → RRs X.K G' J' H' H vs rs → rs.length = es.length → PM.wp (k rs) g' Qf C.EX → Q vs H')
end
abbrev dv : D → R := R.v
abbrev bv : Bool → R := fun b => R.v (.bool b)
abbrev iv : Int → R := fun i => R.v (.int i)
abbrev lv : List D → R := fun xs => R.l (.lst xs)

/-! ### readings -/
theorem PE.imp {X : Cx} {e : Expr} {t t' : TE} (h : PE X e t) (i : ∀ σ H Q, t' σ H Q → t σ H Q) : PE X e t' := ⟨fun pins s σ H Q I q => h.run pins s σ H Q I (i σ H Q q)⟩
theorem PE.ex {X : Cx} {e : Expr} {ι : Type} {t : ι → TE} (h : ∀ i, PE X e (t i)) : PE X e (fun σ H Q => ∃ i, t i σ H Q) := ⟨fun pins s σ H Q I ⟨i, q⟩ => (h i).run pins s σ H Q I q⟩
theorem PT.imp {X : Cx} {e : Expr} {t t' : TT} (h : PT X e t) (i : ∀ σ H Q, t' σ H Q → t σ H Q) : PT X e t' := ⟨fun pins s σ H Q I q => h.run pins s σ H Q I (i σ H Q q)⟩
theorem PT.ex {X : Cx} {e : Expr} {ι : Type} {t : ι → TT} (h : ∀ i, PT X e (t i)) : PT X e (fun σ H Q => ∃ i, t i σ H Q) := ⟨fun pins s σ H Q I ⟨i, q⟩ => (h i).run pins s σ H Q I q⟩
theorem PW.imp {X : Cx} {e : Expr} {t t' : TT} (h : PW X e t) (i : ∀ σ H Q, t' σ H Q → t σ H Q) : PW X e t' := ⟨fun wh pins s σ H Q I q => h.run wh pins s σ H Q I (i σ H Q q)⟩
theorem PW.ex {X : Cx} {e : Expr} {ι : Type} {t : ι → TT} (h : ∀ i, PW X e (t i)) : PW X e (fun σ H Q => ∃ i, t i σ H Q) := ⟨fun wh pins s σ H Q I ⟨i, q⟩ => (h i).run wh pins s σ H Q I q⟩
theorem PA.imp {X : Cx} {e : List Expr} {t t' : TA} (h : PA X e t) (i : ∀ σ H Q, t' σ H Q → t σ H Q) : PA X e t' := ⟨fun pos pins s σ H Q I q => h.run pos pins s σ H Q I (i σ H Q q)⟩
theorem PA.ex {X : Cx} {e : List Expr} {ι : Type} {t : ι → TA} (h : ∀ i, PA X e (t i)) : PA X e (fun σ H Q => ∃ i, t i σ H Q) := ⟨fun pos pins s σ H Q I ⟨i, q⟩ => (h i).run pos pins s σ H Q I q⟩
theorem PSs.imp {X : Cx} {e : List Stmt} {t t' : TS} (h : PSs X e t) (i : ∀ D σ H, t' D σ H → t D σ H) : PSs X e t' := ⟨fun pins s σ H D I q => h.run pins s σ H D I (i D σ H q)⟩
theorem PSs.ex {X : Cx} {e : List Stmt} {ι : Type} {t : ι → TS} (h : ∀ i, PSs X e (t i)) : PSs X e (fun D σ H => ∃ i, t i D σ H) := ⟨fun pins s σ H D I ⟨i, q⟩ => (h i).run pins s σ H D I q⟩
theorem PS.imp {X : Cx} {e : Stmt} {t t' : TS} (h : PS X e t) (i : ∀ D σ H, t' D σ H → t D σ H) : PS X e t' := ⟨fun pins s σ H D I q => h.run pins s σ H D I (i D σ H q)⟩
theorem PG.imp {X : Cx} {e : Expr} {t t' : TG} (h : PG X e t) (i : ∀ v σ H Q, t' v σ H Q → t v σ H Q) : PG X e t' := ⟨fun pins s σ H v u Q I r q => h.run pins s σ H v u Q I r (i v σ H Q q)⟩
theorem PI.imp {X : Cx} {tg e : Expr} {t t' : TI} (h : PI X tg e t) (i : ∀ σ H Q, t' σ H Q → t σ H Q) : PI X tg e t' := ⟨fun pins s σ H R I q => h.run pins s σ H R I (i σ H R q)⟩

/-! ### operations on plain data -/
/-- a two-place operation that makes no list of one's own -/
def P2 (K : PySem.W.Frag) (r : R2) {α : Type} (p : D → D → Option α) (rk : α → D) : Prop := ∀ (H G : Hp) (v1 v2 : V) (d1 d2 : D) (d : α) (Q : VK), Sub G H → Rp K G v1 d1 → Rp K G v2 d2 → p d1 d2 = some d →
  (∀ v H' G', New G H G' H' → Rp K G' v (rk d) → Q v H') → r v1 v2 H Q
def P1 (K : PySem.W.Frag) (r : V → Hp → VK → Prop) {α : Type} (p : D → Option α) (rk : α → D) : Prop := ∀ (H G : Hp) (v1 : V) (d1 : D) (d : α) (Q : VK), Sub G H → Rp K G v1 d1 → p d1 = some d →
  (∀ v H' G', New G H G' H' → Rp K G' v (rk d) → Q v H') → r v1 H Q
/-- that makes a new list -/
def P2L (K : PySem.W.Frag) (r : R2) (p : D → D → Option (List D)) : Prop := ∀ (H G : Hp) (v1 v2 : V) (d1 d2 : D) (ds : List D) (Q : VK), Sub G H → Rp K G v1 d1 → Rp K G v2 d2 → p d1 d2 = some ds →
  (∀ q vs, H q = none → RpL K G vs ds → Q (.ref q) (upd H q (.lst vs))) → r v1 v2 H Q
def P1L (K : PySem.W.Frag) (r : V → Hp → VK → Prop) (p : D → Option (List D)) : Prop := ∀ (H G : Hp) (v1 : V) (d1 : D) (ds : List D) (Q : VK), Sub G H → Rp K G v1 d1 → p d1 = some ds →
  (∀ q vs, H q = none → RpL K G vs ds → Q (.ref q) (upd H q (.lst vs))) → r v1 H Q
theorem rp_new {K : PySem.W.Frag} {G H : Hp} {q : Addr} {vs : List V} {ds : List D} (e : Sub G H) (h : H q = none) (r : RpL K G vs ds) : Rp K (upd G q (.lst vs)) (.ref q) (.list ds) :=
  .lst upd_same (r.sub (sub_upd (none_of_sub e h)))
theorem rp_newT {K : PySem.W.Frag} {G H : Hp} {q : Addr} {o : Obj} {vs : List V} {ds : List D} (hc : o.cls = .type "tuple") (hd : o.dict = none) (e : Sub G H) (h : H q = none) (r : RpL K G vs ds) : Rp K (upd G q (.frz o (.tup vs))) (.ref q) (.tuple ds) :=
  .tup (.inl ⟨o, upd_same, hc, hd⟩) (r.sub (sub_upd (none_of_sub e h)))
theorem P2L.to {K : PySem.W.Frag} {r : R2} {p : D → D → Option (List D)} (h : P2L K r p) : P2 K r p PyData.list := fun H G v1 v2 d1 d2 d Q s r1 r2 e hq =>
  h H G v1 v2 d1 d2 d Q s r1 r2 e fun q vs hn rl => hq _ _ _ (New.laid s hn) (rp_new s hn rl)
theorem P1L.to {K : PySem.W.Frag} {r : V → Hp → VK → Prop} {p : D → Option (List D)} (h : P1L K r p) : P1 K r p PyData.list := fun H G v1 d1 d Q s r1 e hq =>
  h H G v1 d1 d Q s r1 e fun q vs hn rl => hq _ _ _ (New.laid s hn) (rp_new s hn rl)

section
variable {γ : Type} {m : Type → Type} [PM γ m] {C : Cc γ} {X : Cx} {ρ : En} {α β : Type}

/-! ### names and constants -/
theorem ce_name {i : Nat} {x : Str} {pos : Pos} {d : D} {k : D → m β} (hd : ρ[i]? = some (some (.val d)) := by rfl) (hp : PE X (.Name x pos) (tVar i) := by exact pv _) : CE C X ρ (.Name x pos) dv (k d) k := fun Qf =>
  PE.imp hp fun σ H Q ⟨G, J, g, st, w, h⟩ => by
    obtain ⟨v, h1, h2⟩ := st.env.val i d hd
    exact ⟨v, h1, h v d H G J g (Aft.refl st.vis) st.si h2 w⟩
theorem ce_obj {i : Nat} {x : Str} {pos : Pos} {a : Addr} {k : Addr → m β} (hd : ρ[i]? = some (some (.obj a)) := by rfl) (hp : PE X (.Name x pos) (tVar i) := by exact pv _) : CE C X ρ (.Name x pos) R.o (k a) k := fun Qf =>
  PE.imp hp fun σ H Q ⟨G, J, g, st, w, h⟩ => ⟨_, st.env.obj i a hd, h _ a H G J g (Aft.refl st.vis) st.si rfl w⟩
theorem ce_c {e : Expr} {v : V} {d : D} {k : D → m β} (he : PE X e (tC v)) (r : ∀ G, Rp X.K G v d) : CE C X ρ e dv (k d) k := fun Qf =>
  PE.imp he fun σ H Q ⟨G, J, g, st, w, h⟩ => h v d H G J g (Aft.refl st.vis) st.si (r G) w
theorem ce_int {i : Int} {j pos} {k : D → m β} : CE C X ρ (.Constant (.int i) j pos) dv (k (.int i)) k := ce_c pe_int fun _ => .int _
theorem ce_str {x : Str} {j pos} {k : D → m β} : CE C X ρ (.Constant (.str x) j pos) dv (k (.str x)) k := ce_c pe_str fun _ => .str _
theorem ce_bool {b : Bool} {j pos} {k : D → m β} : CE C X ρ (.Constant (.bool b) j pos) dv (k (.bool b)) k := ce_c pe_bl fun _ => .bl _
theorem ce_none {j pos} {k : D → m β} : CE C X ρ (.Constant .none j pos) dv (k .none) k := ce_c pe_non fun _ => .non
/-- a bool as a value -/
theorem ce_bd {e : Expr} {x : m β} {k : D → m β} (h : CE C X ρ e bv x (fun b => k (.bool b))) : CE C X ρ e dv x k := fun Qf =>
  PE.imp (h Qf) fun σ H Q ⟨G, J, g, st, w, q⟩ => ⟨G, J, g, st, w, fun v a H' G' J' g' af si rr w' => q v (.bool a) H' G' J' g' af si rr w'⟩
theorem ce_id {e : Expr} {x : m β} {k : Int → m β} {k' : D → m β} (h : CE C X ρ e iv x (fun b => k' (.int b))) : CE C X ρ e dv x k' := fun Qf =>
  PE.imp (h Qf) fun σ H Q ⟨G, J, g, st, w, q⟩ => ⟨G, J, g, st, w, fun v a H' G' J' g' af si rr w' => q v (.int a) H' G' J' g' af si rr w'⟩
/-- a new list is shown -/
theorem ce_show {e : Expr} {x : m β} {k : D → m β} (h : CE C X ρ e lv x (fun xs => k (.list xs))) : CE C X ρ e dv x k := fun Qf =>
  PE.imp (h Qf) fun σ H Q ⟨G, J, g, st, w, q⟩ => ⟨G, J, g, st, w, fun v a H' G' J' g' af si rr w' => by
    obtain ⟨p, rfl, hb, hg, hj, vs, hv, rl⟩ := rr
    have hH : H p = none := hb
    have vis' : Vis (upd G' p (.lst vs)) J' H' := ⟨fun c o hc => by
        by_cases z : c = p
        · subst z; rw [upd_same] at hc; cases hc; exact hv
        · rw [upd_ne z] at hc; exact af.vis.sub c o hc, fun c j => by
        rw [upd_ne (fun z => hj (by rw [← z]; exact j))]; exact af.vis.dis c j, af.vis.dom⟩
    refine q _ (.list a) H' (upd G' p (.lst vs)) J' g' ⟨af.gg.trans (sub_upd hg), af.hh, af.dm, fun c hc => ?_, af.jn, vis'⟩ (C.S.new si (sub_upd hg) fun _ _ _ h => h) (.lst upd_same (rl.sub (sub_upd hg))) w'
    by_cases z : c = p
    · subst z; exact .inr hH
    · rw [upd_ne z] at hc; exact af.gn c hc⟩

/-! ### operators -/
theorem fin_new {G H G' H' : Hp} {J : Addr → Prop} {g : γ} {Q : VK} {K : PySem.W.Frag} {v : V} {d : D} (vis : Vis G J H) (si : C.S.si g G J H) (n : New G H G' H') : Aft G J H G' J H' ∧ C.S.si g G' J H' := ⟨n.aft vis, SIx.nw si n⟩
theorem ce_op {op : Operator} {r : R2} {a b : Expr} {pos : Pos} {p : D → D → Option α} {rk : α → D} {x : m β} {x2 : D → m β} {k : α → m β} (ho : OpR X (binaryOp op) r) (hp : P2 X.K r p rk)
    (hb : ∀ d1, CE C X ρ b dv (x2 d1) (fun d2 => bnd (need (p d1 d2)) k)) (ha : CE C X ρ a dv x x2) : CE C X ρ (.BinOp a op b pos) (fun a => .v (rk a)) x k := fun Qf =>
  PE.imp (pe_op ho (ha Qf) (PE.ex fun d1 => hb d1 Qf)) fun σ H Q ⟨G, J, g, st, w, h⟩ => by
    refine ⟨G, J, g, st, w, fun v1 d1 H1 G1 J1 g1 af1 si1 r1 w1 => ⟨d1, G1, J1, g1, st.go af1 si1, w1, fun v2 d2 H2 G2 J2 g2 af2 si2 r2 w2 => ?_⟩⟩
    obtain ⟨d, e, w3⟩ := of_need w2
    exact hp H2 G2 v1 v2 d1 d2 d Q af2.vis.sub (Rp.sub af2.gg r1) r2 e fun v H' G' n rr => h v d H' G' J2 g2 ((af1.trans af2).trans (n.aft af2.vis)) (SIx.nw si2 n) rr w3
theorem ce_opL {op : Operator} {r : R2} {a b : Expr} {pos : Pos} {p : D → D → Option (List D)} {x : m β} {x2 : D → m β} {k : List D → m β} (ho : OpR X (binaryOp op) r) (hp : P2L X.K r p)
    (hb : ∀ d1, CE C X ρ b dv (x2 d1) (fun d2 => bnd (need (p d1 d2)) k)) (ha : CE C X ρ a dv x x2) : CE C X ρ (.BinOp a op b pos) lv x k := fun Qf =>
  PE.imp (pe_op ho (ha Qf) (PE.ex fun d1 => hb d1 Qf)) fun σ H Q ⟨G, J, g, st, w, h⟩ => by
    refine ⟨G, J, g, st, w, fun v1 d1 H1 G1 J1 g1 af1 si1 r1 w1 => ⟨d1, G1, J1, g1, st.go af1 si1, w1, fun v2 d2 H2 G2 J2 g2 af2 si2 r2 w2 => ?_⟩⟩
    obtain ⟨d, e, w3⟩ := of_need w2
    refine hp H2 G2 v1 v2 d1 d2 d Q af2.vis.sub (Rp.sub af2.gg r1) r2 e fun q vs hn rl => ?_
    have n : New G2 H2 G2 (upd H2 q (.lst vs)) := New.own af2.vis.sub hn
    refine h _ d _ G2 J2 g2 ((af1.trans af2).trans (n.aft af2.vis)) (SIx.nw si2 n) ⟨q, rfl, ?_, none_of_sub af2.vis.sub hn, fun j => af2.vis.dom q j hn, vs, upd_same, rl⟩ w3
    exact Classical.byContradiction fun z => (af1.trans af2).dm q z hn
theorem ce_un {op : UnaryOp} {r : V → Hp → VK → Prop} {a : Expr} {pos : Pos} {p : D → Option α} {rk : α → D} {x : m β} {k : α → m β} (ho : UnR X (unaryOp op) r) (hp : P1 X.K r p rk)
    (ha : CE C X ρ a dv x (fun d1 => bnd (need (p d1)) k)) : CE C X ρ (.UnaryOp op a pos) (fun a => .v (rk a)) x k := fun Qf =>
  PE.imp (pe_un ho (ha Qf)) fun σ H Q ⟨G, J, g, st, w, h⟩ => by
    refine ⟨G, J, g, st, w, fun v1 d1 H1 G1 J1 g1 af1 si1 r1 w1 => ?_⟩
    obtain ⟨d, e, w3⟩ := of_need w1
    exact hp H1 G1 v1 d1 d Q af1.vis.sub r1 e fun v H' G' n rr => h v d H' G' J1 g1 (af1.trans (n.aft af1.vis)) (SIx.nw si1 n) rr w3
/-- a comparison, as a value and as a test -/
theorem ce_cmp {op : CmpOp} {r : R2} {a b : Expr} {pos : Pos} {p : D → D → Option Bool} {x : m β} {x2 : D → m β} {k : Bool → m β} (ho : OpR X (compareOp op) r) (hp : P2 X.K r p PyData.bool)
    (hb : ∀ d1, CE C X ρ b dv (x2 d1) (fun d2 => bnd (need (p d1 d2)) k)) (ha : CE C X ρ a dv x x2) (hm : behindInMarks op b = false := by first | exact nomark _ | rfl) : CE C X ρ (.Compare a [op] [b] pos) bv x k := fun Qf =>
  PE.imp (pe_cmpR ho (ha Qf) (PE.ex fun d1 => hb d1 Qf) hm) fun σ H Q ⟨G, J, g, st, w, h⟩ => by
    refine ⟨G, J, g, st, w, fun v1 d1 H1 G1 J1 g1 af1 si1 r1 w1 => ⟨d1, G1, J1, g1, st.go af1 si1, w1, fun v2 d2 H2 G2 J2 g2 af2 si2 r2 w2 => ?_⟩⟩
    obtain ⟨d, e, w3⟩ := of_need w2
    exact hp H2 G2 v1 v2 d1 d2 d Q af2.vis.sub (Rp.sub af2.gg r1) r2 e fun v H' G' n rr => h v d H' G' J2 g2 ((af1.trans af2).trans (n.aft af2.vis)) (SIx.nw si2 n) rr w3
theorem ct_cmp {op : CmpOp} {r : R2} {a b : Expr} {pos : Pos} {p : D → D → Option Bool} {x : m β} {x2 : D → m β} {k : Bool → m β} (ho : OpR X (compareOp op) r) (hp : P2 X.K r p PyData.bool)
    (hb : ∀ d1, CE C X ρ b dv (x2 d1) (fun d2 => bnd (need (p d1 d2)) k)) (ha : CE C X ρ a dv x x2) (hm : behindInMarks op b = false := by first | exact nomark _ | rfl) : CT C X ρ (.Compare a [op] [b] pos) x k := fun Qf =>
  PT.imp (pt_cmpR ho (ha Qf) (PE.ex fun d1 => hb d1 Qf) hm) fun σ H Q ⟨G, J, g, st, w, h⟩ => by
    refine ⟨G, J, g, st, w, fun v1 d1 H1 G1 J1 g1 af1 si1 r1 w1 => ⟨d1, G1, J1, g1, st.go af1 si1, w1, fun v2 d2 H2 G2 J2 g2 af2 si2 r2 w2 => ?_⟩⟩
    obtain ⟨d, e, w3⟩ := of_need w2
    exact hp H2 G2 v1 v2 d1 d2 d _ af2.vis.sub (Rp.sub af2.gg r1) r2 e fun v H' G' n rr => by
      cases rr
      exact ⟨d, rfl, h d H' G' J2 g2 ((af1.trans af2).trans (n.aft af2.vis)) (SIx.nw si2 n) w3⟩
/-- an expression whose value is a bool, as a test -/
theorem ct_val {e : Expr} {x : m β} {k : Bool → m β} (h : CE C X ρ e bv x k) (he : ∀ whole, isTrue e X.env whole = (do let v ← whole; standAt e.pos; holding [v] (truthy v)) := by intro _; rfl) : CT C X ρ e x k := fun Qf =>
  PT.imp (pt_val (h Qf) he) fun σ H Q ⟨G, J, g, st, w, q⟩ => ⟨G, J, g, st, w, fun v b H' G' J' g' af si rr w' => by
    cases rr
    exact ⟨b, rfl, q b H' G' J' g' af si w'⟩⟩
/-- a plain value that must be a bool -/
def asB : D → Option Bool
  | .bool b => some b
  | _ => none
theorem ce_asB {e : Expr} {x : m β} {k : Bool → m β} (h : CE C X ρ e dv x (fun d => bnd (need (asB d)) k)) : CE C X ρ e bv x k := fun Qf =>
  PE.imp (h Qf) fun σ H Q ⟨G, J, g, st, w, q⟩ => ⟨G, J, g, st, w, fun v d H' G' J' g' af si rr w' => by
    obtain ⟨b, e, w3⟩ := of_need w'
    cases d <;> first | (cases e; exact q v b H' G' J' g' af si rr w3) | cases e⟩
theorem ct_not {a : Expr} {pos : Pos} {x : m β} {k : Bool → m β} (h : CT C X ρ a x (fun b => k (!b))) : CT C X ρ (.UnaryOp .Not a pos) x k := fun Qf =>
  PT.imp (pt_not (h Qf)) fun σ H Q ⟨G, J, g, st, w, q⟩ => ⟨G, J, g, st, w, fun b H' G' J' g' af si w' => q (!b) H' G' J' g' af si w'⟩
theorem cw_and1 {a : Expr} {pos : Pos} {x : m β} {k : Bool → m β} (h : CT C X ρ a x k) : CW C X ρ (.BoolOp .And [a] pos) x k := fun Qf => PW.imp (pw_and1 (h Qf)) fun _ _ _ h => h
theorem cw_or1 {a : Expr} {pos : Pos} {x : m β} {k : Bool → m β} (h : CT C X ρ a x k) : CW C X ρ (.BoolOp .Or [a] pos) x k := fun Qf => PW.imp (pw_or1 (h Qf)) fun _ _ _ h => h
theorem cw_and {a b : Expr} {rest : List Expr} {pos : Pos} {x y : m β} {k : Bool → m β} (hb : CW C X ρ (.BoolOp .And (b :: rest) pos) y k) (ha : CT C X ρ a x (fun c => if c = true then y else k false)) : CW C X ρ (.BoolOp .And (a :: b :: rest) pos) x k := fun Qf =>
  PW.imp (pw_and (ha Qf) (hb Qf)) fun σ H Q ⟨G, J, g, st, w, q⟩ => ⟨G, J, g, st, w, fun c H1 G1 J1 g1 af1 si1 w1 => by
    cases c with
    | true =>
      rw [if_pos rfl]
      dsimp only at w1; rw [if_pos rfl] at w1
      exact ⟨G1, J1, g1, st.go af1 si1, w1, fun b H' G' J' g' af si w' => q b H' G' J' g' (af1.trans af) si w'⟩
    | false =>
      rw [if_neg Bool.false_ne_true]
      dsimp only at w1; rw [if_neg Bool.false_ne_true] at w1
      exact q false H1 G1 J1 g1 af1 si1 w1⟩
theorem cw_or {a b : Expr} {rest : List Expr} {pos : Pos} {x y : m β} {k : Bool → m β} (hb : CW C X ρ (.BoolOp .Or (b :: rest) pos) y k) (ha : CT C X ρ a x (fun c => if c = true then k true else y)) : CW C X ρ (.BoolOp .Or (a :: b :: rest) pos) x k := fun Qf =>
  PW.imp (pw_or (ha Qf) (hb Qf)) fun σ H Q ⟨G, J, g, st, w, q⟩ => ⟨G, J, g, st, w, fun c H1 G1 J1 g1 af1 si1 w1 => by
    cases c with
    | true =>
      rw [if_pos rfl]
      dsimp only at w1; rw [if_pos rfl] at w1
      exact q true H1 G1 J1 g1 af1 si1 w1
    | false =>
      rw [if_neg Bool.false_ne_true]
      dsimp only at w1; rw [if_neg Bool.false_ne_true] at w1
      exact ⟨G1, J1, g1, st.go af1 si1, w1, fun b H' G' J' g' af si w' => q b H' G' J' g' (af1.trans af) si w'⟩⟩
theorem ct_w {e : Expr} {x : m β} {k : Bool → m β} (h : CW C X ρ e x k) : CT C X ρ e x k := fun Qf => (h Qf).pt
/-- and, or as values -/
theorem ce_one {op} {a : Expr} {pos : Pos} {x : m β} {k : Bool → m β} (h : CE C X ρ a bv x k) : CE C X ρ (.BoolOp op [a] pos) bv x k := fun Qf => PE.imp (pe_one (h Qf)) fun _ _ _ h => h
theorem ce_and {a b : Expr} {rest : List Expr} {pos : Pos} {x y : m β} {k : Bool → m β} (hb : CE C X ρ (.BoolOp .And (b :: rest) pos) bv y k) (ha : CE C X ρ a bv x (fun c => if c = true then y else k false)) : CE C X ρ (.BoolOp .And (a :: b :: rest) pos) bv x k := fun Qf =>
  PE.imp (pe_and (ha Qf) (hb Qf)) fun σ H Q ⟨G, J, g, st, w, q⟩ => ⟨G, J, g, st, w, fun v c H1 G1 J1 g1 af1 si1 rr w1 => by
    cases rr
    refine ⟨c, rfl, ?_⟩
    cases c with
    | true =>
      rw [if_pos rfl]
      dsimp only at w1; rw [if_pos rfl] at w1
      exact ⟨G1, J1, g1, st.go af1 si1, w1, fun v b H' G' J' g' af si rr w' => q v b H' G' J' g' (af1.trans af) si rr w'⟩
    | false =>
      rw [if_neg Bool.false_ne_true]
      dsimp only at w1; rw [if_neg Bool.false_ne_true] at w1
      exact q _ false H1 G1 J1 g1 af1 si1 (.bl _) w1⟩
theorem ce_or {a b : Expr} {rest : List Expr} {pos : Pos} {x y : m β} {k : Bool → m β} (hb : CE C X ρ (.BoolOp .Or (b :: rest) pos) bv y k) (ha : CE C X ρ a bv x (fun c => if c = true then k true else y)) : CE C X ρ (.BoolOp .Or (a :: b :: rest) pos) bv x k := fun Qf =>
  PE.imp (pe_or (ha Qf) (hb Qf)) fun σ H Q ⟨G, J, g, st, w, q⟩ => ⟨G, J, g, st, w, fun v c H1 G1 J1 g1 af1 si1 rr w1 => by
    cases rr
    refine ⟨c, rfl, ?_⟩
    cases c with
    | true =>
      rw [if_pos rfl]
      dsimp only at w1; rw [if_pos rfl] at w1
      exact q _ true H1 G1 J1 g1 af1 si1 (.bl _) w1
    | false =>
      rw [if_neg Bool.false_ne_true]
      dsimp only at w1; rw [if_neg Bool.false_ne_true] at w1
      exact ⟨G1, J1, g1, st.go af1 si1, w1, fun v b H' G' J' g' af si rr w' => q v b H' G' J' g' (af1.trans af) si rr w'⟩⟩
theorem ce_not {a : Expr} {pos : Pos} {x : m β} {k : Bool → m β} (h : CE C X ρ a bv x (fun b => k (!b))) : CE C X ρ (.UnaryOp .Not a pos) bv x k := fun Qf =>
  PE.imp (pe_not (h Qf)) fun σ H Q ⟨G, J, g, st, w, q⟩ => ⟨G, J, g, st, w, fun v b H' G' J' g' af si rr w' => by
    cases rr
    exact ⟨b, rfl, q _ (!b) H' G' J' g' af si (.bl _) w'⟩⟩
theorem ce_if {c a b : Expr} {pos : Pos} {rk : α → R} {x y z : m β} {k : α → m β} (ha : CE C X ρ a rk y k) (hb : CE C X ρ b rk z k) (hc : CT C X ρ c x (fun t => if t = true then y else z)) : CE C X ρ (.IfExp c a b pos) rk x k := fun Qf =>
  PE.imp (pe_ifExp (hc Qf) (ha Qf) (hb Qf)) fun σ H Q ⟨G, J, g, st, w, q⟩ => ⟨G, J, g, st, w, fun t H1 G1 J1 g1 af1 si1 w1 => by
    have bk : ∀ c, H1 c = none → H c = none := fun c h => Classical.byContradiction fun z => af1.dm c z h
    cases t with
    | true =>
      dsimp only
      rw [if_pos rfl]
      dsimp only at w1; rw [if_pos rfl] at w1
      exact ⟨G1, J1, g1, st.go af1 si1, w1, fun v b H' G' J' g' af si rr w' => q v b H' G' J' g' (af1.trans af) si (rr.base bk) w'⟩
    | false =>
      dsimp only
      rw [if_neg Bool.false_ne_true]
      dsimp only at w1; rw [if_neg Bool.false_ne_true] at w1
      exact ⟨G1, J1, g1, st.go af1 si1, w1, fun v b H' G' J' g' af si rr w' => q v b H' G' J' g' (af1.trans af) si (rr.base bk) w'⟩⟩

/-! ### several expressions -/
theorem RRs.aft {K : PySem.W.Frag} {G G' H H' Hb : Hp} {J J' : Addr → Prop} (a : Aft G J H G' J' H') : ∀ {vs : List V} {rs : List R}, RRs K G J H Hb vs rs → RRs K G' J' H' Hb vs rs
  | _, _, .nil => .nil
  | _, _, .cons h t => .cons (h.aft a) (RRs.aft a t)
theorem RRs.base {K : PySem.W.Frag} {G H Hb Hc : Hp} {J : Addr → Prop} (k : ∀ a, Hb a = none → Hc a = none) : ∀ {vs : List V} {rs : List R}, RRs K G J H Hb vs rs → RRs K G J H Hc vs rs
  | _, _, .nil => .nil
  | _, _, .cons h t => .cons (h.base k) (RRs.base k t)
theorem ca_nil {k : List R → m β} : CA C X ρ [] (k []) k := fun Qf => PA.imp pa_nil fun σ H Q ⟨G, J, g, st, w, h⟩ => h [] [] H G J g (Aft.refl st.vis) st.si .nil rfl w
theorem ca_cons {e : Expr} {es : List Expr} {rk : α → R} {x : m β} {y : α → m β} {k : List R → m β} (hr : ∀ a, CA C X ρ es (y a) (fun rs => k (rk a :: rs))) (he : CE C X ρ e rk x y)
    (hs : starEach (e :: es) X.env = (false, eval e X.env) :: starEach es X.env := by rfl) : CA C X ρ (e :: es) x k := fun Qf =>
  PA.imp (pa_cons (he Qf) (PA.ex fun a => hr a Qf) hs) fun σ H Q ⟨G, J, g, st, w, h⟩ => ⟨G, J, g, st, w, fun v a H1 G1 J1 g1 af1 si1 rr w1 => ⟨a, G1, J1, g1, st.go af1 si1, w1, fun vs rs H' G' J' g' af si rrs hl w' =>
    h (v :: vs) (rk a :: rs) H' G' J' g' (af1.trans af) si (.cons (rr.aft af) (rrs.base fun c h => Classical.byContradiction fun z => af1.dm c z h)) (by rw [List.length_cons, List.length_cons, hl]) w'⟩⟩
/-- plain values all -/
def unV : List R → List D
  | [] => []
  | .v d :: rs => d :: unV rs
  | _ :: rs => unV rs
def allV : List R → Bool
  | [] => true
  | .v _ :: rs => allV rs
  | _ :: _ => false
theorem RRs.toL {K : PySem.W.Frag} {G H Hb : Hp} {J : Addr → Prop} : ∀ {vs : List V} {rs : List R}, RRs K G J H Hb vs rs → allV rs = true → RpL K G vs (unV rs)
  | _, _, .nil, _ => .nil
  | _, .v d :: rs, .cons h t, e => .cons h (RRs.toL t e)
  | _, .l _ :: _, .cons _ _, e => by simp [allV] at e
  | _, .o _ :: _, .cons _ _, e => by simp [allV] at e
  | _, .p _ _ :: _, .cons _ _, e => by simp [allV] at e
theorem unV_length : ∀ {rs : List R}, allV rs = true → (unV rs).length = rs.length
  | [], _ => rfl
  | .v _ :: rs, e => by
    show (unV rs).length + 1 = rs.length + 1
    rw [unV_length (rs := rs) e]
  | .l _ :: _, e => by simp [allV] at e
  | .o _ :: _, e => by simp [allV] at e
  | .p _ _ :: _, e => by simp [allV] at e
/-- an argument list of plain values -/
def CD {β : Type} (C : Cc γ) (X : Cx) (ρ : En) (es : List Expr) (x : m β) (k : List D → m β) : Prop :=
  ∀ Qf : β → γ → Prop, PA X es (fun σ H Q => ∃ G J g, C.St X.K ρ σ H G J g ∧ PM.wp x g Qf C.EX ∧
    ∀ vs ds H' G' J' g', Aft G J H G' J' H' → C.S.si g' G' J' H' → RpL X.K G' vs ds → ds.length = es.length → PM.wp (k ds) g' Qf C.EX → Q vs H')
theorem cd_nil {k : List D → m β} : CD C X ρ [] (k []) k := fun Qf => PA.imp pa_nil fun σ H Q ⟨G, J, g, st, w, h⟩ => h [] [] H G J g (Aft.refl st.vis) st.si .nil rfl w
theorem cd_cons {e : Expr} {es : List Expr} {x : m β} {y : D → m β} {k : List D → m β} (hr : ∀ a, CD C X ρ es (y a) (fun rs => k (a :: rs))) (he : CE C X ρ e dv x y)
    (hs : starEach (e :: es) X.env = (false, eval e X.env) :: starEach es X.env := by rfl) : CD C X ρ (e :: es) x k := fun Qf =>
  PA.imp (pa_cons (he Qf) (PA.ex fun a => hr a Qf) hs) fun σ H Q ⟨G, J, g, st, w, h⟩ => ⟨G, J, g, st, w, fun v a H1 G1 J1 g1 af1 si1 rr w1 => ⟨a, G1, J1, g1, st.go af1 si1, w1, fun vs rs H' G' J' g' af si rrs hl w' =>
    h (v :: vs) (a :: rs) H' G' J' g' (af1.trans af) si (.cons (Rp.sub af.gg rr) rrs) (by rw [List.length_cons, List.length_cons, hl]) w'⟩⟩
theorem ce_tup {es : List Expr} {x1} {pos : Pos} {x : m β} {k : D → m β} (h : CD C X ρ es x (fun ds => k (.tuple ds))) (hl : es.length ≤ sizeLine := by decide) : CE C X ρ (.Tuple es x1 pos) dv x k := fun Qf =>
  PE.imp (pe_tupF (h Qf)) fun σ H Q ⟨G, J, g, st, w, q⟩ => ⟨G, J, g, st, w, fun vs ds H' G' J' g' af si rl hn w' => ⟨by rw [rl.length, hn]; exact hl, fun p ob np oc od => by
    have n := New.laid (o := .frz ob (.tup vs)) af.vis.sub np
    exact q _ (.tuple ds) _ _ J' g' (af.trans (n.aft af.vis)) (SIx.nw si n) (rp_newT oc od af.vis.sub np rl) w'⟩⟩
theorem ce_lst {es : List Expr} {pos : Pos} {x : m β} {k : List D → m β} (h : CD C X ρ es x k) (hl : es.length ≤ sizeLine := by decide) : CE C X ρ (.List es pos) lv x k := fun Qf =>
  PE.imp (pe_lst (h Qf)) fun σ H Q ⟨G, J, g, st, w, q⟩ => ⟨G, J, g, st, w, fun vs ds H' G' J' g' af si rl hn w' => ⟨by rw [rl.length, hn]; exact hl, fun p np => by
    have n := New.own (o := .lst vs) af.vis.sub np
    refine q _ ds _ _ J' g' (af.trans (n.aft af.vis)) (SIx.nw si n) ⟨p, rfl, Classical.byContradiction fun z => af.dm p z np, none_of_sub af.vis.sub np, fun j => af.vis.dom p j np, vs, upd_same, rl⟩ w'⟩⟩
end
end Cl

set_option Elab.async false
set_option linter.all false
set_option maxRecDepth 100000
set_option maxHeartbeats 4000000
/-! the clean layer, part C: statements -/
namespace Cl
open PySem PySem.Spec PyProof.Rows L2
open MO

section
variable {γ : Type} {m : Type → Type} [PM γ m] {α β δ τ : Type}
/-- what is wanted behind a block -/
structure Fi (C : Cc γ) (K : PySem.W.Frag) (G : Hp) (out : α → En) (outL : τ → En) (rk : δ → R) (kn : α → m β) (kr : δ → m β) (kb kc : τ → m β) (Qf : β → γ → Prop) (E : Ends) : Prop where
  nx : ∀ a σ' H' G' J' g', Sub G G' → C.St K (out a) σ' H' G' J' g' → PM.wp (kn a) g' Qf C.EX → E.nx σ' H'
  rt : ∀ r v H' G' J' g', Aft C.G0 C.J0 C.H0 G' J' H' → C.S.si g' G' J' H' → RR K G' J' H' C.H0 v (rk r) → PM.wp (kr r) g' Qf C.EX → E.rt v H'
  bk : ∀ a σ' H' G' J' g', Sub G G' → C.St K (outL a) σ' H' G' J' g' → PM.wp (kb a) g' Qf C.EX → E.bk σ' H'
  ct : ∀ a σ' H' G' J' g', Sub G G' → C.St K (outL a) σ' H' G' J' g' → PM.wp (kc a) g' Qf C.EX → E.ct σ' H'
theorem Fi.sub {C : Cc γ} {K : PySem.W.Frag} {G G1 : Hp} {out : α → En} {outL : τ → En} {rk : δ → R} {kn : α → m β} {kr : δ → m β} {kb kc : τ → m β} {Qf : β → γ → Prop} {E : Ends}
    (f : Fi C K G out outL rk kn kr kb kc Qf E) (s : Sub G G1) : Fi C K G1 out outL rk kn kr kb kc Qf E :=
  ⟨fun a σ' H' G' J' g' h => f.nx a σ' H' G' J' g' (s.trans h), f.rt, fun a σ' H' G' J' g' h => f.bk a σ' H' G' J' g' (s.trans h), fun a σ' H' G' J' g' h => f.ct a σ' H' G' J' g' (s.trans h)⟩
/-- a block: x is what is done from here on; kn behind it, kr behind a return, kb behind a break, kc behind a continue -/
def CS (C : Cc γ) (X : Cx) (ρ : En) (ss : List Stmt) (out : α → En) (outL : τ → En) (rk : δ → R) (x : m β) (kn : α → m β) (kr : δ → m β) (kb kc : τ → m β) : Prop :=
  ∀ Qf : β → γ → Prop, PSs X ss (fun E σ H => ∃ G J g, C.St X.K ρ σ H G J g ∧ PM.wp x g Qf C.EX ∧ Fi C X.K G out outL rk kn kr kb kc Qf E)
variable {C : Cc γ} {X : Cx} {ρ : En} {rest : List Stmt} {out : α → En} {outL : τ → En} {rk : δ → R} {x : m β} {kn : α → m β} {kr : δ → m β} {kb kc : τ → m β}

/-! ### fewer names -/
theorem le_nil : LeE [] [] := ⟨rfl, fun i x h => h⟩
theorem le_none {a b : En} {x : Option Ent} (h : LeE a b) : LeE (none :: a) (x :: b) := ⟨by rw [List.length_cons, List.length_cons, h.1], fun i y q => by
  cases i with
  | zero => simp at q
  | succ i => simp at q ⊢; exact h.2 i y q⟩
theorem le_same {a b : En} {x : Option Ent} (h : LeE a b) : LeE (x :: a) (x :: b) := ⟨by rw [List.length_cons, List.length_cons, h.1], fun i y q => by
  cases i with
  | zero => simp at q ⊢; exact q
  | succ i => simp at q ⊢; exact h.2 i y q⟩
theorem Cc.St.le {K : PySem.W.Frag} {ρ' : En} {σ : L2.St} {H G : Hp} {J : Addr → Prop} {g : γ} (s : C.St K ρ' σ H G J g) (l : LeE ρ ρ') : C.St K ρ σ H G J g := ⟨s.env.le l, s.aft, s.si⟩

theorem cs_nil {a : α} (l : LeE (out a) ρ) : CS C X ρ [] out outL rk (kn a) kn kr kb kc := fun Qf =>
  PSs.imp pss_nil fun E σ H ⟨G, J, g, st, w, f⟩ => f.nx a σ H G J g (Sub.refl _) (st.le l) w
theorem cs_break {t : τ} {pos : Pos} (l : LeE (outL t) ρ) : CS C X ρ [.Break pos] out outL rk (kb t) kn kr kb kc := fun Qf =>
  PSs.imp (pss_one ps_break) fun E σ H ⟨G, J, g, st, w, f⟩ => f.bk t σ H G J g (Sub.refl _) (st.le l) w
theorem cs_continue {t : τ} {pos : Pos} (l : LeE (outL t) ρ) : CS C X ρ [.Continue pos] out outL rk (kc t) kn kr kb kc := fun Qf =>
  PSs.imp (pss_one ps_continue) fun E σ H ⟨G, J, g, st, w, f⟩ => f.ct t σ H G J g (Sub.refl _) (st.le l) w
theorem cs_pass {pos : Pos} (h : CS C X ρ rest out outL rk x kn kr kb kc) : CS C X ρ (.Pass pos :: rest) out outL rk x kn kr kb kc := fun Qf =>
  PSs.imp (pss_cons ps_pass (h Qf)) fun E σ H h => h
/-- what is never come to -/
theorem cs_never {ss : List Stmt} : CS C X ρ ss out outL rk (lift .no) kn kr kb kc := fun Qf =>
  PSs.imp pss_never fun E σ H ⟨G, J, g, st, w, f⟩ => (PM.of_lift w).elim

/-! ### stores -/
section
variable {i : Nat} {y : Str} {e : Expr} {pos pos' : Pos}
theorem cs_set {xr : D → m β} (hr : ∀ d, CS C X (ρ.set i (some (.val d))) rest out outL rk (xr d) kn kr kb kc) (he : CE C X ρ e dv x xr) (hN : X.N.Nodup) (hi : X.N[i]? = some y := by rfl) (hx : Loc X.env.scope y := by first | exact Or.inl rfl | exact Or.inr rfl)
    (hs : swapsWith e (some (.Name y pos')) pos.line X.env = pure false := by rfl) (hf : X.fn y = true ∨ X.env.scope.names.lookup y = some .local := by first | exact .inl rfl | exact .inr rfl | assumption) :
    CS C X ρ (.Assign [.Name y pos'] e pos :: rest) out outL rk x kn kr kb kc := fun Qf =>
  PSs.imp (pss_cons (ps_set hN hi hx (he Qf) hs hf) (PSs.ex fun d => hr d Qf)) fun E σ H ⟨G, J, g, st, w, f⟩ =>
    ⟨G, J, g, st, w, fun v d H' G' J' g' af si rr w' => ⟨d, G', J', g', ⟨(st.env.aft af).setV rr, st.aft.trans af, si⟩, w', f.sub af.gg⟩⟩
theorem cs_setO {xr : Addr → m β} (hr : ∀ d, CS C X (ρ.set i (some (.obj d))) rest out outL rk (xr d) kn kr kb kc) (he : CE C X ρ e R.o x xr) (hN : X.N.Nodup) (hi : X.N[i]? = some y := by rfl) (hx : Loc X.env.scope y := by first | exact Or.inl rfl | exact Or.inr rfl)
    (hs : swapsWith e (some (.Name y pos')) pos.line X.env = pure false := by rfl) (hf : X.fn y = true ∨ X.env.scope.names.lookup y = some .local := by first | exact .inl rfl | exact .inr rfl | assumption) :
    CS C X ρ (.Assign [.Name y pos'] e pos :: rest) out outL rk x kn kr kb kc := fun Qf =>
  PSs.imp (pss_cons (ps_set hN hi hx (he Qf) hs hf) (PSs.ex fun d => hr d Qf)) fun E σ H ⟨G, J, g, st, w, f⟩ =>
    ⟨G, J, g, st, w, fun v d H' G' J' g' af si rr w' => ⟨d, G', J', g', ⟨by cases rr; exact (st.env.aft af).setO, st.aft.trans af, si⟩, w', f.sub af.gg⟩⟩
/-- an object is stored whose freshness is told from H -/
theorem Cc.St.setL {K : PySem.W.Frag} {σ : L2.St} {H G H' G' : Hp} {J J' : Addr → Prop} {g g' : γ} {p : Addr} {c : Cell} (st : C.St K ρ σ H G J g) (af : Aft G J H G' J' H') (si : C.S.si g' G' J' H')
    (hb : H p = none) (hg : G' p = none) (hj : ¬ J' p) (hc : HC K G' H' p c) : C.St K (ρ.set i (some (.own c))) (σ.set i (some (.ref p))) H' G' J' g' := by
  refine ⟨(st.env.aft af).setL ?_ hg hj hc (fun j c' ji hj1 hj2 => ?_) (fun j q hq z => ?_), st.aft.trans af, si⟩
  · exact Classical.byContradiction fun z => st.aft.dm p z hb
  · obtain ⟨p', h1, _, _, _, h5⟩ := st.env.own j c' hj1
    rw [hj2] at h1; cases h1
    obtain ⟨o, ho⟩ := h5.ex
    rw [hb] at ho; cases ho
  · exact st.env.kid.ex (st.env.kid.back (fun i q o h => af.hh q o (st.env.kid.fr i q h).2.2) hq) (by rw [z]; exact hb)
theorem cs_setL {α' : Type} {cc : α' → Cell} {xr : α' → m β} (hr : ∀ a, CS C X (ρ.set i (some (.own (cc a)))) rest out outL rk (xr a) kn kr kb kc) (he : CE C X ρ e (fun a => .l (cc a)) x xr) (hN : X.N.Nodup) (hi : X.N[i]? = some y := by rfl) (hx : Loc X.env.scope y := by first | exact Or.inl rfl | exact Or.inr rfl)
    (hs : swapsWith e (some (.Name y pos')) pos.line X.env = pure false := by rfl) (hf : X.fn y = true ∨ X.env.scope.names.lookup y = some .local := by first | exact .inl rfl | exact .inr rfl | assumption) :
    CS C X ρ (.Assign [.Name y pos'] e pos :: rest) out outL rk x kn kr kb kc := fun Qf =>
  PSs.imp (pss_cons (ps_set hN hi hx (he Qf) hs hf) (PSs.ex fun d => hr d Qf)) fun E σ H ⟨G, J, g, st, w, f⟩ =>
    ⟨G, J, g, st, w, fun v d H' G' J' g' af si rr w' => by
      obtain ⟨p, rfl, hb, hg, hj, hc⟩ := rr
      exact ⟨d, G', J', g', st.setL af si hb hg hj hc, w', f.sub af.gg⟩⟩
/-- one's own object is shown from here on -/
def cellD : Cell → D
  | .lst xs => .list xs
  | .dct kvs => .dict kvs
theorem Cc.St.show {K : PySem.W.Frag} {σ : L2.St} {H G : Hp} {J : Addr → Prop} {g : γ} {i : Nat} {c : Cell} (st : C.St K ρ σ H G J g) (hi : ρ[i]? = some (some (.own c))) :
    ∃ G', Sub G G' ∧ C.St K (ρ.set i (some (.val (cellD c)))) σ H G' J g ∧ (∃ p o, σ[i]? = some (some (.ref p)) ∧ H p = some o ∧ G p = none ∧ G' = upd G p o ∧ ¬ J p ∧ C.H0 p = none ∧ (∀ xs, o ≠ .tup xs) ∧ ∀ a b, o ≠ .frz a b) := by
  obtain ⟨p, h1, h2, h3, h4, h5⟩ := st.env.own i c hi
  obtain ⟨o, ho, ht, hf, r⟩ : ∃ o, H p = some o ∧ (∀ xs, o ≠ .tup xs) ∧ (∀ a b, o ≠ .frz a b) ∧ Rp K (upd G p o) (.ref p) (cellD c) := by
    cases c with
    | lst xs =>
      obtain ⟨vs, hv, rl⟩ := h5
      exact ⟨_, hv, (fun _ z => by cases z), (fun _ _ z => by cases z), .lst upd_same (rl.sub (sub_upd h3))⟩
    | dct xs =>
      obtain ⟨vs, hv, rl⟩ := h5
      exact ⟨_, hv, (fun _ z => by cases z), (fun _ _ z => by cases z), .dct upd_same (rl.sub (sub_upd h3))⟩
  have hs : Sub G (upd G p o) := sub_upd h3
  have gs : Sub (upd G p o) H := fun c u q => by
    by_cases z : c = p
    · subst z; rw [upd_same] at q; cases q; exact ho
    · rw [upd_ne z] at q; exact st.aft.vis.sub c u q
  refine ⟨upd G p o, hs, ⟨⟨fun j d hd => ?_, fun j a hd => ?_, fun j c' hd => ?_, fun j k c1 c2 r1 hjk q1 q2 => ?_, by rw [List.length_set, st.env.len], set_nb st.env.nb (fun z => by cases z), ?kid⟩, ⟨st.aft.gg.trans hs, st.aft.hh, st.aft.dm, fun a ha => ?_, st.aft.jn, ⟨gs, fun a j => ?_, st.aft.vis.dom⟩⟩, C.S.new st.si hs fun _ _ _ h => h⟩, p, o, h1, ho, h3, rfl, h4, h2, ht, hf⟩
  case kid =>
    refine st.env.kid.keep hs (fun j xss h => ?_) (fun j c1 h => ?_) (fun _ _ _ _ h => h) fun j q h h0 hg hj hn => ⟨h0, ?_, hj⟩
    · by_cases q : i = j
      · subst q
        rw [List.getElem?_set, if_pos rfl] at h
        split at h <;> cases h
      · rw [List.getElem?_set_ne q] at h; exact ⟨h, rfl⟩
    · by_cases q : i = j
      · subst q
        rw [List.getElem?_set, if_pos rfl] at h
        split at h <;> cases h
      · rw [List.getElem?_set_ne q] at h; exact .inl ⟨c1, h, rfl⟩
    · rw [upd_ne (fun z => st.env.kid.s1 j i c q h hi (by rw [z]; exact h1))]; exact hg
  · by_cases q : i = j
    · subst q
      rw [List.getElem?_set, if_pos rfl] at hd
      split at hd
      · cases hd; exact ⟨_, h1, r⟩
      · cases hd
    · rw [List.getElem?_set_ne q] at hd
      obtain ⟨v, e1, e2⟩ := st.env.val j d hd
      exact ⟨v, e1, e2.sub hs⟩
  · by_cases q : i = j
    · subst q
      rw [List.getElem?_set, if_pos rfl] at hd
      split at hd <;> cases hd
    · rw [List.getElem?_set_ne q] at hd
      exact st.env.obj j a hd
  · by_cases q : i = j
    · subst q
      rw [List.getElem?_set, if_pos rfl] at hd
      split at hd <;> cases hd
    · rw [List.getElem?_set_ne q] at hd
      obtain ⟨p', e1, e2, e3, e4, e5⟩ := st.env.own j c' hd
      have ne : p' ≠ p := fun z => by
        subst z
        exact st.env.sep i j _ _ _ q hi hd h1 e1
      exact ⟨p', e1, e2, by rw [upd_ne ne]; exact e3, e4, e5.keep hs fun o h => h⟩
  · have f : ∀ {k : Nat} {c' : Cell}, (ρ.set i (some (.val (cellD c))))[k]? = some (some (.own c')) → ρ[k]? = some (some (.own c')) := fun {k c'} q => by
      by_cases z : i = k
      · subst z
        rw [List.getElem?_set, if_pos rfl] at q
        split at q <;> cases q
      · rw [List.getElem?_set_ne z] at q; exact q
    exact st.env.sep j k c1 c2 r1 hjk (f q1) (f q2)
  · by_cases z : a = p
    · subst z; exact .inr h2
    · rw [upd_ne z] at ha; exact st.aft.gn a ha
  · rw [upd_ne (fun z => h4 (by rw [← z]; exact j))]; exact st.aft.vis.dis a j
theorem cs_show {ss : List Stmt} (i : Nat) {c : Cell} (hi : ρ[i]? = some (some (.own c))) (h : CS C X (ρ.set i (some (.val (cellD c)))) ss out outL rk x kn kr kb kc) : CS C X ρ ss out outL rk x kn kr kb kc := fun Qf =>
  PSs.imp (h Qf) fun E σ H ⟨G, J, g, st, w, f⟩ => by
    obtain ⟨G', hs, st', _⟩ := st.show hi
    exact ⟨G', J, g, st', w, f.sub hs⟩
end

/-! ### return -/
theorem cs_ret {e : Expr} {pos : Pos} (he : CE C X ρ e rk x kr) : CS C X ρ [.Return (some e) pos] out outL rk x kn kr kb kc := fun Qf =>
  PSs.imp (pss_one (ps_ret (he Qf))) fun E σ H ⟨G, J, g, st, w, f⟩ => ⟨G, J, g, st, w, fun v d H' G' J' g' af si rr w' =>
    f.rt d v H' G' J' g' (st.aft.trans af) si (rr.base fun a h => Classical.byContradiction fun z => st.aft.dm a z h) w'⟩
theorem cs_retN {pos : Pos} {kr : D → m β} : CS C X ρ [.Return none pos] out outL dv (kr .none) kn kr kb kc := fun Qf =>
  PSs.imp (pss_one ps_retN) fun E σ H ⟨G, J, g, st, w, f⟩ => f.rt .none .non H G J g st.aft st.si .non w
/-- a list of one's own is given back -/
theorem cs_retL {y : Str} {p1 pos : Pos} {i : Nat} {xs : List D} {kr : List D → m β} (hi : ρ[i]? = some (some (.own (.lst xs)))) (hp : PE X (.Name y p1) (tVar i) := by exact pv _) :
    CS C X ρ [.Return (some (.Name y p1)) pos] out outL lv (kr xs) kn kr kb kc := fun Qf =>
  PSs.imp (pss_one (ps_ret hp)) fun E σ H ⟨G, J, g, st, w, f⟩ => by
    obtain ⟨p, h1, h2, h3, h4, h5⟩ := st.env.own i _ hi
    exact ⟨_, h1, f.rt xs _ H G J g st.aft st.si ⟨p, rfl, h2, h3, h4, h5⟩ w⟩

/-! ### if -/
def badE : En := [some .bad]
theorem bad_env {C : Cc γ} {K : PySem.W.Frag} {H G : Hp} {σ : L2.St} {J : Addr → Prop} {g : γ} (h : C.St K badE σ H G J g) : False := h.env.nb 0 rfl
/-- the first block never comes to its end -/
theorem cs_ifT {t : Expr} {A : List Stmt} {pos : Pos} {y z : m β} (hA : ∀ out' : α → En, CS C X ρ A out' outL rk y kn kr kb kc) (hR : CS C X ρ rest out outL rk z kn kr kb kc) (ht : CT C X ρ t x (fun b => if b = true then y else z)) :
    CS C X ρ (.If t A [] pos :: rest) out outL rk x kn kr kb kc := fun Qf =>
  PSs.imp (pss_cons (ps_if (ht Qf) (hA (fun _ => badE) Qf) pss_nil) (hR Qf)) fun E σ H ⟨G, J, g, st, w, f⟩ => ⟨G, J, g, st, w, fun b H1 G1 J1 g1 af1 si1 w1 => by
    cases b with
    | true =>
      dsimp only
      rw [if_pos rfl]
      dsimp only at w1; rw [if_pos rfl] at w1
      exact ⟨G1, J1, g1, st.go af1 si1, w1, ⟨fun a σ' H' G' J' g' hs st' w' => (bad_env st').elim, f.rt, (f.sub af1.gg).bk, (f.sub af1.gg).ct⟩⟩
    | false =>
      dsimp only
      rw [if_neg Bool.false_ne_true]
      dsimp only at w1; rw [if_neg Bool.false_ne_true] at w1
      exact ⟨G1, J1, g1, st.go af1 si1, w1, f.sub af1.gg⟩⟩
end
end Cl

set_option Elab.async false
set_option linter.all false
set_option maxRecDepth 100000
set_option maxHeartbeats 4000000
/-! the clean layer, part D: branches, changes of one's own lists, targets, loops -/
namespace Cl
open PySem PySem.Spec PyProof.Rows L2
open MO

section
variable {γ : Type} {m : Type → Type} [PM γ m] {α β δ τ : Type}
variable {C : Cc γ} {X : Cx} {ρ : En} {rest : List Stmt} {out : α → En} {outL : τ → En} {rk : δ → R} {x : m β} {kn : α → m β} {kr : δ → m β} {kb kc : τ → m β}
theorem Aft.back {G H G' H' : Hp} {J J' : Addr → Prop} (a : Aft G J H G' J' H') : ∀ c, H' c = none → H c = none := fun c h => Classical.byContradiction fun z => a.dm c z h

/-- a join: what is done behind both branches is k -/
def jn {α β : Type} (f : (α → m β) → m β) (k : α → m β) : m β := f k
theorem cs_ifE {t : Expr} {A B : List Stmt} {pos : Pos} {y z : m β} (hA : CS C X ρ A out outL rk y kn kr kb kc) (hB : CS C X ρ B out outL rk z kn kr kb kc) (ht : CT C X ρ t x (fun b => if b = true then y else z)) :
    CS C X ρ [.If t A B pos] out outL rk x kn kr kb kc := fun Qf =>
  PSs.imp (pss_one (ps_if (ht Qf) (hA Qf) (hB Qf))) fun E σ H ⟨G, J, g, st, w, f⟩ => ⟨G, J, g, st, w, fun b H1 G1 J1 g1 af1 si1 w1 => by
    cases b with
    | true =>
      dsimp only
      rw [if_pos rfl]
      dsimp only at w1; rw [if_pos rfl] at w1
      exact ⟨G1, J1, g1, st.go af1 si1, w1, f.sub af1.gg⟩
    | false =>
      dsimp only
      rw [if_neg Bool.false_ne_true]
      dsimp only at w1; rw [if_neg Bool.false_ne_true] at w1
      exact ⟨G1, J1, g1, st.go af1 si1, w1, f.sub af1.gg⟩⟩
theorem cs_ifJ {α1 : Type} {out1 : α1 → En} {t : Expr} {A B : List Stmt} {pos : Pos} {k : α1 → m β} {y z x : (α1 → m β) → m β} (hR : ∀ a, CS C X (out1 a) rest out outL rk (k a) kn kr kb kc)
    (hA : ∀ k1, CS C X ρ A out1 outL rk (y k1) k1 kr kb kc) (hB : ∀ k1, CS C X ρ B out1 outL rk (z k1) k1 kr kb kc) (ht : ∀ k1, CT C X ρ t (x k1) (fun b => if b = true then y k1 else z k1)) :
    CS C X ρ (.If t A B pos :: rest) out outL rk (jn x k) kn kr kb kc := fun Qf =>
  PSs.imp (pss_cons (ps_if (ht k Qf) (hA k Qf) (hB k Qf)) (PSs.ex fun a => hR a Qf)) fun E σ H ⟨G, J, g, st, w, f⟩ => ⟨G, J, g, st, w, fun b H1 G1 J1 g1 af1 si1 w1 => by
    have fi : Fi C X.K G1 out1 outL rk k kr kb kc Qf { E with nx := fun σ H => ∃ a, (∃ G J g, C.St X.K (out1 a) σ H G J g ∧ PM.wp (k a) g Qf C.EX ∧ Fi C X.K G out outL rk kn kr kb kc Qf E) } :=
      ⟨fun a σ' H' G' J' g' hs st' w' => ⟨a, G', J', g', st', w', f.sub (af1.gg.trans hs)⟩, f.rt, (f.sub af1.gg).bk, (f.sub af1.gg).ct⟩
    cases b with
    | true =>
      dsimp only
      rw [if_pos rfl]
      dsimp only at w1; rw [if_pos rfl] at w1
      exact ⟨G1, J1, g1, st.go af1 si1, w1, fi⟩
    | false =>
      dsimp only
      rw [if_neg Bool.false_ne_true]
      dsimp only at w1; rw [if_neg Bool.false_ne_true] at w1
      exact ⟨G1, J1, g1, st.go af1 si1, w1, fi⟩⟩

/-! ### one's own list changes -/
/-- a method of lists with one plain argument, its answer dropped -/
def Mu1 (K : PySem.W.Frag) (r : V → List V → Hp → VK → Prop) (f : List D → D → Option (List D)) : Prop := ∀ (H G : Hp) (l : Addr) (vs : List V) (xs : List D) (v : V) (d : D) (xs' : List D) (Q : VK), Sub G H → H l = some (.lst vs) → RpL K G vs xs → Rp K G v d →
  f xs d = some xs' → (∀ u vs', RpL K G vs' xs' → Q u (upd H l (.lst vs'))) → r (.ref l) [v] H Q
def appF (xs : List D) (d : D) : Option (List D) := if xs.length < sizeLine then some (xs ++ [d]) else none
theorem mu_append {K : PySem.W.Frag} : Mu1 K rAppend appF := fun H G l vs xs v d xs' Q s h rl r e q => by
  unfold appF at e
  split at e
  · rename_i hl
    cases e
    exact ⟨l, vs, v, rfl, rfl, h, by rw [rl.length]; exact hl, q _ _ (rl.append (.one r))⟩
  · cases e
def extF (xs : List D) (d : D) : Option (List D) := match d with
  | .list ys => if xs.length + ys.length ≤ sizeLine then some (xs ++ ys) else none
  | _ => none
theorem mu_extend {K : PySem.W.Frag} : Mu1 K rExtend extF := fun H G l vs xs v d xs' Q s h rl r e q => by
  cases r with
  | lst h1 h2 =>
    rename_i a ws ds
    unfold extF at e
    dsimp only at e
    split at e
    · rename_i hl
      cases e
      exact ⟨l, a, vs, ws, rfl, rfl, h, s _ _ h1, by rw [rl.length, h2.length]; exact hl, q _ _ (rl.append h2)⟩
    · cases e
  | non => cases e
  | bl b => cases e
  | int i => cases e
  | str x => cases e
  | tup h1 h2 => cases e
  | dct h1 h2 => cases e
theorem St.ownG {K : PySem.W.Frag} {σ : L2.St} {H G : Hp} {J : Addr → Prop} {g : γ} {i : Nat} {c c' : Cell} {p : Addr} {o : HO} (st : C.St K ρ σ H G J g) (hi : ρ[i]? = some (some (.own c))) (hp : σ[i]? = some (some (.ref p))) (hc : HC K G (upd H p o) p c') :
    C.St K (ρ.set i (some (.own c'))) σ (upd H p o) G J g := by
  obtain ⟨p', h1, h2, h3, h4, h5⟩ := st.env.own i c hi
  rw [hp] at h1; cases h1
  obtain ⟨u, hu⟩ := h5.ex
  refine ⟨st.env.mut hi hp hc, ⟨st.aft.gg, fun a o' hj ha => ?_, fun a ha => ?_, st.aft.gn, st.aft.jn, ⟨fun a o' ha => ?_, st.aft.vis.dis, fun a j => ?_⟩⟩, C.S.new st.si (Sub.refl _) fun a o' j ha => ?_⟩
  · rw [upd_ne (fun z => by rw [z, h2] at ha; cases ha)]; exact st.aft.hh a o' hj ha
  · by_cases z : a = p
    · subst z; rw [upd_same]; exact Option.some_ne_none _
    · rw [upd_ne z]; exact st.aft.dm a ha
  · rw [upd_ne (fun z => by rw [z, h3] at ha; cases ha)]; exact st.aft.vis.sub a o' ha
  · rw [upd_ne (fun z => h4 (by rw [← z]; exact j))]; exact st.aft.vis.dom a j
  · rw [upd_ne (fun z => h4 (by rw [← z]; exact j))]; exact ha
theorem ty_lst {K : PySem.W.Frag} {H : Hp} {p : Addr} {vs : List V} (h : H p = some (.lst vs)) : tyV K "list" (.ref p) H := Or.inl ⟨rfl, _, SqL.of h⟩
theorem cs_mut1 {y name : Str} {p1 apos cpos pos : Pos} {e : Expr} {id : String} {r : V → List V → Hp → VK → Prop} {f : List D → D → Option (List D)} {xr : List D → m β} (i : Nat) {xs : List D} (pa : PlainAttrs "list") (slot : Slot "list" name id) (hty : typeOf (.builtin id) = pure (.type "method_descriptor"))
    (hm : MtR X id r) (hf : Mu1 X.K r f) (hi : ρ[i]? = some (some (.own (.lst xs)))) (hr : ∀ xs', CS C X (ρ.set i (some (.own (.lst xs')))) rest out outL rk (xr xs') kn kr kb kc) (he : CE C X ρ e dv x (fun d => bnd (need (f xs d)) xr))
    (hp : PE X (.Name y p1) (tVar i) := by exact pv _) (ha : starEach [e] X.env = (false, eval e X.env) :: starEach [] X.env := by rfl)
    (hpe : ∀ te, PE X e te → PE X (.Call (.Attribute (.Name y p1) name apos) [e] [] cpos) (tBM X.K "list" r (tVar i) (tCons te tNil)) := by intro te he; exact pe_bm (by assumption) (by assumption) (by assumption) (by assumption) (by assumption) (pa_cons he pa_nil))
    (hs : swapsWith (.Call (.Attribute (.Name y p1) name apos) [e] [] cpos) none pos.line X.env = pure false := by rfl) :
    CS C X ρ (.Expr (.Call (.Attribute (.Name y p1) name apos) [e] [] cpos) pos :: rest) out outL rk x kn kr kb kc := fun Qf =>
  PSs.imp (pss_cons (ps_expr (hpe _ (he Qf)) hs) (PSs.ex fun xs' => hr xs' Qf)) fun E σ H ⟨G, J, g, st, w, fi⟩ => by
    obtain ⟨p, h1, h2, h3, h4, vs, hv, rl⟩ := st.env.own i _ hi
    refine ⟨_, h1, ty_lst hv, G, J, g, st, w, fun v d H' G' J' g' af si rr w' => ?_⟩
    obtain ⟨xs', e1, w2⟩ := of_need w'
    have st' := st.go af si
    obtain ⟨p', k1, k2, k3, k4, ws, kv, kl⟩ := st'.env.own i _ hi
    rw [h1] at k1; cases k1
    exact hf H' G' p ws xs v d xs' _ af.vis.sub kv kl rr e1 fun u vs' rl' => ⟨xs', G', J', g', St.ownG st' hi h1 ⟨vs', upd_same, rl'⟩, w2, fi.sub af.gg⟩
/-- found.append(e) -/
theorem cs_append {y : Str} {p1 apos cpos pos : Pos} {e : Expr} {xr : List D → m β} (i : Nat) {xs : List D} (hi : ρ[i]? = some (some (.own (.lst xs)))) (hr : ∀ xs', CS C X (ρ.set i (some (.own (.lst xs')))) rest out outL rk (xr xs') kn kr kb kc)
    (he : CE C X ρ e dv x (fun d => bnd (need (appF xs d)) xr)) (hpe : ∀ te, PE X e te → PE X (.Call (.Attribute (.Name y p1) "append" apos) [e] [] cpos) (tBM X.K "list" rAppend (tVar i) (tCons te tNil)) := by intro te he; exact pe_bm PySem.F.plainAttrs_list PySem.F.slot_list_append PySem.F.type_list_append mt_append (pv _) (pa_cons he pa_nil))
    (hp : PE X (.Name y p1) (tVar i) := by exact pv _) (ha : starEach [e] X.env = (false, eval e X.env) :: starEach [] X.env := by rfl) (hs : swapsWith (.Call (.Attribute (.Name y p1) "append" apos) [e] [] cpos) none pos.line X.env = pure false := by rfl) :
    CS C X ρ (.Expr (.Call (.Attribute (.Name y p1) "append" apos) [e] [] cpos) pos :: rest) out outL rk x kn kr kb kc :=
  cs_mut1 i PySem.F.plainAttrs_list PySem.F.slot_list_append PySem.F.type_list_append mt_append mu_append hi hr he hp ha hpe hs
theorem cs_extend {y : Str} {p1 apos cpos pos : Pos} {e : Expr} {xr : List D → m β} (i : Nat) {xs : List D} (hi : ρ[i]? = some (some (.own (.lst xs)))) (hr : ∀ xs', CS C X (ρ.set i (some (.own (.lst xs')))) rest out outL rk (xr xs') kn kr kb kc)
    (he : CE C X ρ e dv x (fun d => bnd (need (extF xs d)) xr)) (hpe : ∀ te, PE X e te → PE X (.Call (.Attribute (.Name y p1) "extend" apos) [e] [] cpos) (tBM X.K "list" rExtend (tVar i) (tCons te tNil)) := by intro te he; exact pe_bm PySem.F.plainAttrs_list PySem.F.slot_list_extend PySem.F.type_list_extend mt_extend (pv _) (pa_cons he pa_nil))
    (hp : PE X (.Name y p1) (tVar i) := by exact pv _) (ha : starEach [e] X.env = (false, eval e X.env) :: starEach [] X.env := by rfl) (hs : swapsWith (.Call (.Attribute (.Name y p1) "extend" apos) [e] [] cpos) none pos.line X.env = pure false := by rfl) :
    CS C X ρ (.Expr (.Call (.Attribute (.Name y p1) "extend" apos) [e] [] cpos) pos :: rest) out outL rk x kn kr kb kc :=
  cs_mut1 i PySem.F.plainAttrs_list PySem.F.slot_list_extend PySem.F.type_list_extend mt_extend mu_extend hi hr he hp ha hpe hs

/-! ### targets -/
/-- only the slots sl are another -/
def But (sl : List Nat) (σ σ' : L2.St) : Prop := ∀ ws : List Nat, (∀ i ∈ sl, i ∈ ws) → wipe σ' ws = wipe σ ws
theorem wipe_set {i : Nat} {v : Option V} : ∀ {ws : List Nat} {σ : L2.St}, i ∈ ws → wipe (σ.set i v) ws = wipe σ ws
  | [], _, h => by simp at h
  | w :: ws, σ, h => by
    unfold wipe
    by_cases hi : i ∈ ws
    · rw [wipe_set hi]
    · have e : i = w := by
        rcases List.mem_cons.mp h with h | h
        · exact h
        · exact absurd h hi
      subst e
      have push : ∀ {vs : List Nat}, i ∉ vs → wipe (σ.set i v) vs = (wipe σ vs).set i v := fun {vs} => by
        induction vs with
        | nil => intro _; rfl
        | cons u us ih =>
          intro hn
          unfold wipe
          rw [ih (fun z => hn (List.mem_cons_of_mem _ z)), List.set_comm _ _ (fun z => hn (by rw [z]; exact List.mem_cons_self))]
      rw [push hi, List.set_set]
theorem But.trans {sl sl' : List Nat} {σ σ1 σ2 : L2.St} (a : But sl σ σ1) (b : But sl' σ1 σ2) : But (sl ++ sl') σ σ2 := fun ws h => (b ws fun i hi => h i (List.mem_append_right _ hi)).trans (a ws fun i hi => h i (List.mem_append_left _ hi))
def CG {α : Type} (C : Cc γ) (X : Cx) (ρ : En) (tg : Expr) (un : D → Option α) (out : α → En) (sl : List Nat) : Prop :=
  PG X tg (fun v σ H Q => ∃ G J d a, EnvR X.K C.H0 ρ σ H G J ∧ Sub G H ∧ Rp X.K G v d ∧ un d = some a ∧ ∀ σ', EnvR X.K C.H0 (out a) σ' H G J → But sl σ σ' → Q σ' H)
structure CGs {α : Type} (C : Cc γ) (X : Cx) (ρ : En) (ts : List Expr) (un : List D → Option α) (out : α → En) (sl : List Nat) : Prop where
  run : PGs X ts (fun vs σ H Q => ∃ G J ds a, EnvR X.K C.H0 ρ σ H G J ∧ Sub G H ∧ RpL X.K G vs ds ∧ un ds = some a ∧ ∀ σ', EnvR X.K C.H0 (out a) σ' H G J → But sl σ σ' → Q σ' H)
  len : ∀ ds a, un ds = some a → ds.length = ts.length
theorem PGs.imp {X : Cx} {ts : List Expr} {t t' : TGs} (h : PGs X ts t) (i : ∀ v σ H Q, t' v σ H Q → t v σ H Q) : PGs X ts t' := ⟨fun pins s σ H v u Q I r q => h.run pins s σ H v u Q I r (i v σ H Q q)⟩
theorem PG.ex {X : Cx} {e : Expr} {ι : Type} {t : ι → TG} (h : ∀ i, PG X e (t i)) : PG X e (fun v σ H Q => ∃ i, t i v σ H Q) := ⟨fun pins s σ H v u Q I r ⟨i, q⟩ => (h i).run pins s σ H v u Q I r q⟩
theorem PGs.ex {X : Cx} {e : List Expr} {ι : Type} {t : ι → TGs} (h : ∀ i, PGs X e (t i)) : PGs X e (fun v σ H Q => ∃ i, t i v σ H Q) := ⟨fun pins s σ H v u Q I r ⟨i, q⟩ => (h i).run pins s σ H v u Q I r q⟩
theorem cg_name (i : Nat) {y : Str} {pos : Pos} (hp : PG X (.Name y pos) (gName i)) : CG C X ρ (.Name y pos) some (fun d => ρ.set i (some (.val d))) [i] :=
  PG.imp hp fun v σ H Q ⟨G, J, d, a, e, sb, r, u, q⟩ => by
    cases u
    exact q _ (e.setV r) fun ws h => wipe_set (h i (by simp))
def un1 {α : Type} (u : D → Option α) : List D → Option α
  | [d] => u d
  | _ => none
def unC {α β : Type} (u : D → Option α) (us : List D → Option β) : List D → Option (α × β)
  | [] => none
  | d :: ds => match u d, us ds with
    | some a, some b => some (a, b)
    | _, _ => none
def unT {α : Type} (us : List D → Option α) : D → Option α
  | .tuple ds => us ds
  | _ => none
theorem cgs_one {α : Type} {t : Expr} {u : D → Option α} {o : α → En} {sl : List Nat} (h : CG C X ρ t u o sl) (hs : (assignEach [t] X.env).map (·.2) = assign t X.env :: (assignEach [] X.env).map (·.2) := by rfl) : CGs C X ρ [t] (un1 u) o sl where
  run := PGs.imp (pgs_cons h pgs_nil hs) fun vs σ H Q ⟨G, J, ds, a, e, sb, r, q, k⟩ => by
    cases r with
    | nil => cases q
    | cons r1 r2 =>
      cases r2 with
      | nil => exact ⟨_, _, rfl, G, J, _, a, e, sb, r1, q, fun σ' e' bt => ⟨rfl, k σ' e' bt⟩⟩
      | cons _ _ => cases q
  len := fun ds a q => by
    match ds, q with
    | [], q => cases q
    | [_], _ => rfl
    | _ :: _ :: _, q => cases q
theorem cgs_cons {α1 α2 : Type} {t : Expr} {ts : List Expr} {u : D → Option α1} {us : List D → Option α2} {o : α1 → En} {os : α1 → α2 → En} {sl sl' : List Nat} (h : CG C X ρ t u o sl) (hs : ∀ a, CGs C X (o a) ts us (os a) sl')
    (he : (assignEach (t :: ts) X.env).map (·.2) = assign t X.env :: (assignEach ts X.env).map (·.2) := by rfl) : CGs C X ρ (t :: ts) (unC u us) (fun p => os p.1 p.2) (sl ++ sl') where
  run := PGs.imp (pgs_cons h (PGs.ex fun a => (hs a).run) he) fun vs σ H Q ⟨G, J, ds, a, e, sb, r, q, k⟩ => by
    cases r with
    | nil => cases q
    | @cons v vs d ds r1 r2 =>
      unfold unC at q
      cases e1 : u d with
      | none => simp [e1] at q
      | some a1 =>
        cases e2 : us ds with
        | none => simp [e1, e2] at q
        | some a2 =>
          simp [e1, e2] at q
          subst q
          exact ⟨_, _, rfl, G, J, d, a1, e, sb, r1, e1, fun σ' e' bt => ⟨a1, G, J, ds, a2, e', sb, r2, e2, fun σ2 e2 bt2 => k σ2 e2 (bt.trans bt2)⟩⟩
  len := fun ds a q => by
    match ds, q with
    | [], q => cases q
    | d :: ds, q =>
      unfold unC at q
      cases e1 : u d with
      | none => simp [e1] at q
      | some a1 =>
        cases e2 : us ds with
        | none => simp [e1, e2] at q
        | some a2 =>
          have := CGs.len (hs a1) ds a2 e2
          rw [List.length_cons, List.length_cons, this]
theorem cg_tup {α : Type} {ts : List Expr} {k : Nat} {pos : Pos} {us : List D → Option α} {o : α → En} {sl : List Nat} (h : CGs C X ρ ts us o sl) (hc : X.calm = true := by rfl) (hn : (assignEach ts X.env).length = ts.length := by rfl) (hst : (assignEach ts X.env).findIdx? (·.1) = none := by rfl) : CG C X ρ (.Tuple ts k pos) (unT us) o sl :=
  PG.imp (pg_tup hc h.run hn hst) fun v σ H Q ⟨G, J, d, a, e, sb, r, q, kk⟩ => by
    cases r with
    | @tup b vs ds h1 h2 =>
      exact ⟨b, vs, rfl, sb.seq h1, by rw [h2.length]; exact h.len ds a q, G, J, ds, a, e, sb, h2, q, kk⟩
    | non => cases q
    | bl b => cases q
    | int i => cases q
    | str x => cases q
    | lst h1 h2 => cases q
    | dct h1 h2 => cases q
end
end Cl

set_option Elab.async false
set_option linter.all false
set_option maxRecDepth 100000
set_option maxHeartbeats 4000000
/-! the clean layer, part E: walks, loops, comprehensions -/
namespace Cl
open PySem PySem.Spec PyProof.Rows L2
open MO

/-- how a loop's turn ends -/
inductive Lp (δ τ : Type) where
  | nx (t : τ) | bk (t : τ) | rt (r : δ)
inductive Wh (δ τ : Type) where
  | go (t : τ) | out (t : τ) | rt (r : δ)
section
variable {m : Type → Type} [MO m] {β δ τ : Type}
def forL : List D → τ → (D → τ → m (Lp δ τ)) → m (Lp δ τ)
  | [], t, _ => pur (.nx t)
  | d :: ds, t, f => bnd (f d t) fun r => match r with
    | .nx t' => forL ds t' f
    | .bk t' => pur (.bk t')
    | .rt q => pur (.rt q)
def forP : List D → τ → (D → τ → m τ) → m τ
  | [], t, _ => pur t
  | d :: ds, t, f => bnd (f d t) fun t' => forP ds t' f
def whileL : Nat → τ → (τ → m (Wh δ τ)) → m (Lp δ τ)
  | 0, _, _ => lift .no
  | n + 1, t, f => bnd (f t) fun r => match r with
    | .go t' => whileL n t' f
    | .out t' => pur (.nx t')
    | .rt q => pur (.rt q)
def lpK (K : τ → m β) (kr : δ → m β) : Lp δ τ → m β
  | .nx t => K t
  | .bk t => K t
  | .rt r => kr r
def compL : List D → List D → (D → m (Option D)) → m (List D)
  | [], acc, _ => pur acc
  | d :: ds, acc, f => bnd (f d) fun o => match o with
    | some e => bnd (need (appF acc e)) fun acc' => compL ds acc' f
    | none => compL ds acc f
end

/-- what a walk yields: the items ds -/
def Walks (K : PySem.W.Frag) (J : It) (ds : List D) (G : Hp) : Prop := ∀ G2 H2, Sub G G2 → Sub G2 H2 → ∀ i : Nat, (i < ds.length → J.go i H2 ∧ ∀ x H3, J.yld i H2 x H3 → ∃ G3 d, ds[i]? = some d ∧ New G2 H2 G3 H3 ∧ Rp K G3 x d) ∧ (i = ds.length → J.stop i H2)

section
variable {γ : Type} {m : Type → Type} [PM γ m] {α β δ τ : Type}
variable {C : Cc γ} {X : Cx} {ρ : En} {rest : List Stmt} {out : α → En} {outL : τ → En} {rk : δ → R} {x : m β} {kn : α → m β} {kr : δ → m β} {kb kc : τ → m β}
def CI {β : Type} (C : Cc γ) (X : Cx) (ρ : En) (tg e : Expr) (x : m β) (k : List D → m β) : Prop :=
  ∀ Qf : β → γ → Prop, PI X tg e (fun σ H R => ∃ G J g, C.St X.K ρ σ H G J g ∧ PM.wp x g Qf C.EX ∧
    ∀ It ds H' G' J' g', Aft G J H G' J' H' → C.S.si g' G' J' H' → Walks X.K It ds G' → PM.wp (k ds) g' Qf C.EX → R It H')
/-- a list, a tuple -/
def items : D → Option (List D)
  | .list xs => some xs
  | .tuple xs => some xs
  | _ => none
theorem walks_list {K : PySem.W.Frag} {G : Hp} {a : Addr} {vs : List V} {ds : List D} (h : G a = some (.lst vs)) (r : RpL K G vs ds) : Walks K (Itl K a) ds G := fun G2 H2 s1 s2 i => by
  have hH : SqL K H2 a vs := SqL.of (s2 _ _ (s1 _ _ h))
  have r2 := r.sub s1
  refine ⟨fun hi => ?_, fun hi => ⟨vs, hH, by rw [r.length, hi]; exact Nat.le_refl _⟩⟩
  obtain ⟨v, e, _⟩ := r.get (i := i) (d := ds[i]) (List.getElem?_eq_getElem hi)
  refine ⟨⟨vs, v, hH, e⟩, fun x H3 y => ?_⟩
  obtain ⟨rfl, y⟩ := y
  obtain ⟨d, e1, e2⟩ := r2.get' (y vs hH)
  exact ⟨G2, d, e1, New.refl s2, e2⟩
theorem walks_tup {K : PySem.W.Frag} {G : Hp} {a : Addr} {vs : List V} {ds : List D} (h : SqF K G a vs) (r : RpL K G vs ds) : Walks K (Itt K a) ds G := fun G2 H2 s1 s2 i => by
  have hH : SqT K H2 a vs := s2.seq (s1.seqF h)
  have r2 := r.sub s1
  refine ⟨fun hi => ?_, fun hi => ⟨vs, hH, by rw [r.length, hi]; exact Nat.le_refl _⟩⟩
  obtain ⟨v, e, _⟩ := r.get (i := i) (d := ds[i]) (List.getElem?_eq_getElem hi)
  refine ⟨⟨vs, v, hH, e⟩, fun x H3 y => ?_⟩
  obtain ⟨rfl, y⟩ := y
  obtain ⟨d, e1, e2⟩ := r2.get' (y vs hH)
  exact ⟨G2, d, e1, New.refl s2, e2⟩
def rangeD (lo : Int) (n : Nat) : List D := (List.range n).map fun i => .int (lo + (i : Nat))
theorem walks_range {K : PySem.W.Frag} {G : Hp} {lo : Int} {n : Nat} : Walks K (Itr lo n) (rangeD lo n) G := fun G2 H2 s1 s2 i => by
  have hl : (rangeD lo n).length = n := by simp [rangeD]
  refine ⟨fun hi => ⟨by rw [hl] at hi; exact hi, fun x H3 y => ?_⟩, fun hi => by rw [hl] at hi; rw [hi]; exact Nat.le_refl _⟩
  rw [hl] at hi
  obtain ⟨rfl, rfl⟩ := y
  exact ⟨G2, .int (lo + i), by simp [rangeD, hi], New.refl s2, .int _⟩
/-- the walk of a list or a tuple, by its reading -/
def iSeq (K : PySem.W.Frag) (tl : TE) : TI := fun σ H R => tl σ H fun x H1 => ∃ a xs, x = .ref a ∧ ((SqL K H1 a xs ∧ R (Itl K a) H1) ∨ (SqT K H1 a xs ∧ R (Itt K a) H1))
theorem pi_seq {tg l : Expr} {tl : TE} (hl : PE X l tl) : PI X tg l (iSeq X.K tl) := by
  refine ⟨fun pins s σ H R I h => ?_⟩
  refine thn (hl.run pins s σ H _ I h) fun v s1 ⟨x, H1, I1, r1, q1⟩ => ?_
  obtain ⟨a, xs, e, q⟩ := q1
  subst e
  cases r1
  rcases q with ⟨hq, q⟩ | ⟨hq, q⟩
  · obtain ⟨its, rv, p, hz⟩ := I1.list hq
    refine wpAny_pyIter_list p.isList ?_
    refine ⟨s1.heap.objs.size, [s1.heap.objs.size], _, _, H1, rfl, I1.kept (t' := s1.toks) fun b o e => Heap.get?_push_of_some _ e, turn_list a _, ⟨_, Heap.get?_push_size _ rfl, rfl, rfl⟩, fun b hb => ?_, q⟩
    have e : b = s1.heap.objs.size := by simpa using hb
    subst e
    exact I1.fpOk (Nat.le_refl _) (I1.hok.fresh (Nat.le_refl _))
  · obtain ⟨its, rv, p, hz⟩ := I1.tuple hq
    refine wpAny_pyIter_tuple (show s1.heap.IsTuple a its.toArray from p) ?_
    refine ⟨s1.heap.objs.size, [s1.heap.objs.size], _, _, H1, rfl, I1.kept (t' := s1.toks) fun b o e => Heap.get?_push_of_some _ e, turn_tuple a _, ⟨_, Heap.get?_push_size _ rfl, rfl, rfl⟩, fun b hb => ?_, q⟩
    have e : b = s1.heap.objs.size := by simpa using hb
    subst e
    exact I1.fpOk (Nat.le_refl _) (I1.hok.fresh (Nat.le_refl _))
theorem ci_seq {tg e : Expr} {k : List D → m β} (he : CE C X ρ e dv x (fun d => bnd (need (items d)) k)) : CI C X ρ tg e x k := fun Qf =>
  PI.imp (pi_seq (he Qf)) fun σ H R ⟨G, J, g, st, w, h⟩ => ⟨G, J, g, st, w, fun v d H' G' J' g' af si rr w' => by
    obtain ⟨ds, e1, w2⟩ := of_need w'
    cases rr with
    | lst h1 h2 =>
      cases e1
      exact ⟨_, _, rfl, .inl ⟨SqL.of (af.vis.sub _ _ h1), h _ _ H' G' J' g' af si (walks_list h1 h2) w2⟩⟩
    | tup h1 h2 =>
      cases e1
      exact ⟨_, _, rfl, .inr ⟨af.vis.sub.seq h1, h _ _ H' G' J' g' af si (walks_tup h1 h2) w2⟩⟩
    | non => cases e1
    | bl b => cases e1
    | int i => cases e1
    | str x => cases e1
    | dct h1 h2 => cases e1⟩
def rng1 : List D → Option (List D)
  | [.int j] => if -(2 ^ 62) ≤ j ∧ j < 2 ^ 62 then some (rangeD 0 j.toNat) else none
  | _ => none
def rng2 : List D → Option (List D)
  | [.int i, .int j] => if -(2 ^ 62) ≤ i ∧ i < 2 ^ 62 ∧ -(2 ^ 62) ≤ j ∧ j < 2 ^ 62 then some (rangeD i (j - i).toNat) else none
  | _ => none
theorem ci_range1 {tg a : Expr} {p pos : Pos} {k : List D → m β} (hm : X.mg "range" = none) (ha : CD C X ρ [a] x (fun ds => bnd (need (rng1 ds)) k)) (hg : Gl X "range" := by rfl) (hs : starEach [a] X.env = [(false, eval a X.env)] := by rfl) :
    CI C X ρ tg (.Call (.Name "range" p) [a] [] pos) x k := fun Qf =>
  PI.imp (pi_range1 hg hm (ha Qf) hs) fun σ H R ⟨G, J, g, st, w, h⟩ => ⟨G, J, g, st, w, fun vs ds H' G' J' g' af si rl hl w' => by
    obtain ⟨xs, e1, w2⟩ := of_need w'
    unfold rng1 at e1
    split at e1
    · rename_i j
      split at e1
      · rename_i hj
        cases e1
        cases rl with
        | cons r1 r2 =>
          cases r1
          cases r2
          exact ⟨j, rfl, hj.1, hj.2, h _ _ H' G' J' g' af si walks_range w2⟩
      · cases e1
    · cases e1⟩
theorem ci_range2 {tg a b : Expr} {p pos : Pos} {k : List D → m β} (hm : X.mg "range" = none) (ha : CD C X ρ [a, b] x (fun ds => bnd (need (rng2 ds)) k)) (hg : Gl X "range" := by rfl)
    (hs : starEach [a, b] X.env = [(false, eval a X.env), (false, eval b X.env)] := by rfl) (hs2 : starEach [b] X.env = [(false, eval b X.env)] := by rfl) :
    CI C X ρ tg (.Call (.Name "range" p) [a, b] [] pos) x k := fun Qf =>
  PI.imp (pi_range2 hg hm (ha Qf) hs hs2) fun σ H R ⟨G, J, g, st, w, h⟩ => ⟨G, J, g, st, w, fun vs ds H' G' J' g' af si rl hl w' => by
    obtain ⟨xs, e1, w2⟩ := of_need w'
    unfold rng2 at e1
    split at e1
    · rename_i i j
      split at e1
      · rename_i hj
        cases e1
        cases rl with
        | cons r1 r2 =>
          cases r1
          cases r2 with
          | cons r3 r4 =>
            cases r3
            cases r4
            exact ⟨i, j, rfl, ⟨hj.1, hj.2.1, hj.2.2.1, hj.2.2.2⟩, h _ _ H' G' J' g' af si walks_range w2⟩
      · cases e1
    · cases e1⟩

/-! ### for -/
theorem cs_for {α1 : Type} {tg it : Expr} {B : List Stmt} {pos : Pos} {outl : τ → En} {un : D → Option α1} {outT : τ → α1 → En} {sl : List Nat} {body : α1 → τ → m (Lp δ τ)} {K : τ → m β} {τ2 : Type} {outL2 : τ2 → En} {kb2 kc2 : τ2 → m β} (t0 : τ)
    (hR : ∀ t, CS C X (outl t) rest out outL2 rk (K t) kn kr kb2 kc2)
    (hB : ∀ a t, CS C X (outT t a) B outl outl rk (body a t) (fun t => pur (.nx t)) (fun r => pur (.rt r)) (fun t => pur (.bk t)) (fun t => pur (.nx t)))
    (hg : ∀ t, CG C X (outl t) tg un (outT t) sl)
    (hI : CI C X ρ tg it x (fun ds => bnd (forL ds t0 (fun d t => bnd (need (un d)) fun a => body a t)) (lpK K kr)))
    (le : LeE (outl t0) ρ) (hp : PassesOwn (model X.prog X.w) X.A X.env X.xe := by exact PassesOwn.never) (hc : X.calm = true := by rfl) (hs : ∀ x, foldedSetIterable it X.env x = pure x := by intro _; rfl) :
    CS C X ρ (.For tg it B [] pos :: rest) out outL2 rk x kn kr kb2 kc2 := fun Qf =>
  PSs.imp (pss_cons (ps_for hp hc (hI Qf) (PG.ex hg) (PSs.ex fun a => PSs.ex fun t => PSs.ex fun q => hB a t q) hs) (PSs.ex fun t => hR t Qf)) fun E σ H ⟨G, J, g, st, w, fi⟩ => ⟨G, J, g, st, w, fun It ds H1 G1 J1 g1 af1 si1 wk w1 => by
    refine ⟨fun i n σ H => n = ds.length - i ∧ i ≤ ds.length ∧ ∃ G J g t, Sub G1 G ∧ C.St X.K (outl t) σ H G J g ∧ PM.wp (forL (ds.drop i) t (fun d t => bnd (need (un d)) fun a => body a t)) g (fun r g' => PM.wp (lpK K kr r) g' Qf C.EX) C.EX,
      ⟨ds.length, rfl, Nat.zero_le _, G1, J1, g1, t0, Sub.refl _, (st.go af1 si1).le le, PM.of_bnd w1⟩, ?_⟩
    rintro i n σ2 H2 ⟨rfl, hi, G2, J2, g2, t, s2, st2, w2⟩
    by_cases hlt : i < ds.length
    · obtain ⟨hgo, hy⟩ := (wk G2 H2 s2 st2.vis.sub i).1 hlt
      rw [List.drop_eq_getElem_cons hlt] at w2
      unfold forL at w2
      obtain ⟨a, ea, w3⟩ := of_need (PM.of_bnd w2)
      refine .inr ⟨hgo, _, fun σ' H' z => z, fun y H3 hyl => ?_⟩
      obtain ⟨G3, d, ed, nw, rp⟩ := hy y H3 hyl
      rw [List.getElem?_eq_getElem hlt] at ed
      cases ed
      have af3 := nw.aft st2.vis
      have si3 := SIx.nw st2.si nw
      refine ⟨t, G3, J2, ds[i], a, st2.env.aft af3, nw.sub, rp, ea, fun σ' e' _ => ?_⟩
      refine ⟨a, t, _, G3, J2, g2, ⟨e', st2.aft.trans af3, si3⟩, w3, ⟨fun t' σ4 H4 G4 J4 g4 s4 st4 w4 => ?_, fun r v H4 G4 J4 g4 af4 si4 r4 w4 => ?_, fun t' σ4 H4 G4 J4 g4 s4 st4 w4 => ?_, fun t' σ4 H4 G4 J4 g4 s4 st4 w4 => ?_⟩⟩
      · exact ⟨ds.length - (i + 1), by omega, rfl, hlt, G4, J4, g4, t', s2.trans (nw.gg.trans s4), st4, (by have z := PM.of_pur w4; exact z)⟩
      · exact fi.rt r v H4 G4 J4 g4 af4 si4 r4 (by have z := PM.of_pur w4; have z2 := PM.of_pur z; exact z2)
      · exact ⟨t', G4, J4, g4, st4, (by have z := PM.of_pur w4; have z2 := PM.of_pur z; exact z2), fi.sub (af1.gg.trans (s2.trans (nw.gg.trans s4)))⟩
      · exact ⟨ds.length - (i + 1), by omega, rfl, hlt, G4, J4, g4, t', s2.trans (nw.gg.trans s4), st4, (by have z := PM.of_pur w4; exact z)⟩
    · have e : i = ds.length := by omega
      subst e
      rw [List.drop_length] at w2
      unfold forL at w2
      exact .inl ⟨(wk G2 H2 s2 st2.vis.sub ds.length).2 rfl, t, G2, J2, g2, st2, (by have z := PM.of_pur w2; exact z), fi.sub (af1.gg.trans s2)⟩⟩
/-- a loop that neither breaks nor returns -/
theorem cs_forP {α1 : Type} {tg it : Expr} {B : List Stmt} {pos : Pos} {outl : τ → En} {un : D → Option α1} {outT : τ → α1 → En} {sl : List Nat} {body : α1 → τ → m τ} {K : τ → m β} {τ2 : Type} {outL2 : τ2 → En} {kb2 kc2 : τ2 → m β} (t0 : τ)
    (hR : ∀ t, CS C X (outl t) rest out outL2 rk (K t) kn kr kb2 kc2)
    (hB : ∀ a t, CS C X (outT t a) B outl outl rk (body a t) (fun t => pur t) (fun r => lift .no) (fun t => lift .no) (fun t => pur t))
    (hg : ∀ t, CG C X (outl t) tg un (outT t) sl)
    (hI : CI C X ρ tg it x (fun ds => bnd (forP ds t0 (fun d t => bnd (need (un d)) fun a => body a t)) K))
    (le : LeE (outl t0) ρ) (hp : PassesOwn (model X.prog X.w) X.A X.env X.xe := by exact PassesOwn.never) (hc : X.calm = true := by rfl) (hs : ∀ x, foldedSetIterable it X.env x = pure x := by intro _; rfl) :
    CS C X ρ (.For tg it B [] pos :: rest) out outL2 rk x kn kr kb2 kc2 := fun Qf =>
  PSs.imp (pss_cons (ps_for hp hc (hI Qf) (PG.ex hg) (PSs.ex fun a => PSs.ex fun t => PSs.ex fun q => hB a t q) hs) (PSs.ex fun t => hR t Qf)) fun E σ H ⟨G, J, g, st, w, fi⟩ => ⟨G, J, g, st, w, fun It ds H1 G1 J1 g1 af1 si1 wk w1 => by
    refine ⟨fun i n σ H => n = ds.length - i ∧ i ≤ ds.length ∧ ∃ G J g t, Sub G1 G ∧ C.St X.K (outl t) σ H G J g ∧ PM.wp (forP (ds.drop i) t (fun d t => bnd (need (un d)) fun a => body a t)) g (fun r g' => PM.wp (K r) g' Qf C.EX) C.EX,
      ⟨ds.length, rfl, Nat.zero_le _, G1, J1, g1, t0, Sub.refl _, (st.go af1 si1).le le, PM.of_bnd w1⟩, ?_⟩
    rintro i n σ2 H2 ⟨rfl, hi, G2, J2, g2, t, s2, st2, w2⟩
    by_cases hlt : i < ds.length
    · obtain ⟨hgo, hy⟩ := (wk G2 H2 s2 st2.vis.sub i).1 hlt
      rw [List.drop_eq_getElem_cons hlt] at w2
      unfold forP at w2
      obtain ⟨a, ea, w3⟩ := of_need (PM.of_bnd w2)
      refine .inr ⟨hgo, _, fun σ' H' z => z, fun y H3 hyl => ?_⟩
      obtain ⟨G3, d, ed, nw, rp⟩ := hy y H3 hyl
      rw [List.getElem?_eq_getElem hlt] at ed
      cases ed
      have af3 := nw.aft st2.vis
      have si3 := SIx.nw st2.si nw
      refine ⟨t, G3, J2, ds[i], a, st2.env.aft af3, nw.sub, rp, ea, fun σ' e' _ => ?_⟩
      refine ⟨a, t, _, G3, J2, g2, ⟨e', st2.aft.trans af3, si3⟩, w3, ⟨fun t' σ4 H4 G4 J4 g4 s4 st4 w4 => ?_, fun r v H4 G4 J4 g4 af4 si4 r4 w4 => ?_, fun t' σ4 H4 G4 J4 g4 s4 st4 w4 => ?_, fun t' σ4 H4 G4 J4 g4 s4 st4 w4 => ?_⟩⟩
      · exact ⟨ds.length - (i + 1), by omega, rfl, hlt, G4, J4, g4, t', s2.trans (nw.gg.trans s4), st4, (by have z := PM.of_pur w4; exact z)⟩
      · exact (PM.of_lift w4).elim
      · exact (PM.of_lift w4).elim
      · exact ⟨ds.length - (i + 1), by omega, rfl, hlt, G4, J4, g4, t', s2.trans (nw.gg.trans s4), st4, (by have z := PM.of_pur w4; exact z)⟩
    · have e : i = ds.length := by omega
      subst e
      rw [List.drop_length] at w2
      unfold forP at w2
      exact .inl ⟨(wk G2 H2 s2 st2.vis.sub ds.length).2 rfl, t, G2, J2, g2, st2, (by have z := PM.of_pur w2; exact z), fi.sub (af1.gg.trans s2)⟩⟩

/-! ### while -/
theorem cs_while {ts : Expr} {B : List Stmt} {pos : Pos} {outl : τ → En} {step body : τ → m (Wh δ τ)} {K : τ → m β} {τ2 : Type} {outL2 : τ2 → En} {kb2 kc2 : τ2 → m β} (n : Nat) (t0 : τ)
    (hR : ∀ t, CS C X (outl t) rest out outL2 rk (K t) kn kr kb2 kc2)
    (hB : ∀ t, CS C X (outl t) B outl outl rk (body t) (fun t => pur (.go t)) (fun r => pur (.rt r)) (fun t => pur (.out t)) (fun t => pur (.go t)))
    (hT : ∀ t, CT C X (outl t) ts (step t) (fun b => if b = true then body t else pur (.out t)))
    (le : LeE (outl t0) ρ) (hp : PassesOwn (model X.prog X.w) X.A X.env X.xe := by exact PassesOwn.never) :
    CS C X ρ (.While ts B [] pos :: rest) out outL2 rk (bnd (whileL n t0 step) (lpK K kr)) kn kr kb2 kc2 := fun Qf =>
  PSs.imp (pss_cons (ps_while hp (PT.ex fun t => PT.ex fun q => hT t q) (PSs.ex fun t => PSs.ex fun q => hB t q)) (PSs.ex fun t => hR t Qf)) fun E σ H ⟨G, J, g, st, w, fi⟩ => by
    refine ⟨fun n σ H => ∃ G1 J g t, Sub G G1 ∧ C.St X.K (outl t) σ H G1 J g ∧ PM.wp (whileL n t step) g (fun r g' => PM.wp (lpK K kr r) g' Qf C.EX) C.EX, ⟨n, G, J, g, t0, Sub.refl _, st.le le, PM.of_bnd w⟩, ?_⟩
    rintro n σ1 H1 ⟨G1, J1, g1, t, s1, st1, w1⟩
    cases n with
    | zero =>
      unfold whileL at w1
      exact (PM.of_lift w1).elim
    | succ n =>
      unfold whileL at w1
      refine ⟨t, _, G1, J1, g1, st1, PM.of_bnd w1, fun b H2 G2 J2 g2 af2 si2 w2 => ?_⟩
      cases b with
      | true =>
        rw [if_pos rfl]
        dsimp only at w2; rw [if_pos rfl] at w2
        refine ⟨_, fun σ' H' z => z, t, _, G2, J2, g2, st1.go af2 si2, w2, ⟨fun t' σ4 H4 G4 J4 g4 s4 st4 w4 => ?_, fun r v H4 G4 J4 g4 af4 si4 r4 w4 => ?_, fun t' σ4 H4 G4 J4 g4 s4 st4 w4 => ?_, fun t' σ4 H4 G4 J4 g4 s4 st4 w4 => ?_⟩⟩
        · exact ⟨n, by omega, G4, J4, g4, t', s1.trans (af2.gg.trans s4), st4, (by have z := PM.of_pur w4; exact z)⟩
        · exact fi.rt r v H4 G4 J4 g4 af4 si4 r4 (by have z := PM.of_pur w4; have z2 := PM.of_pur z; exact z2)
        · exact ⟨t', G4, J4, g4, st4, (by have z := PM.of_pur w4; have z2 := PM.of_pur z; exact z2), fi.sub (s1.trans (af2.gg.trans s4))⟩
        · exact ⟨n, by omega, G4, J4, g4, t', s1.trans (af2.gg.trans s4), st4, (by have z := PM.of_pur w4; exact z)⟩
      | false =>
        rw [if_neg Bool.false_ne_true]
        dsimp only at w2; rw [if_neg Bool.false_ne_true] at w2
        exact ⟨t, G2, J2, g2, st1.go af2 si2, (by have z := PM.of_pur w2; have z2 := PM.of_pur z; exact z2), fi.sub (s1.trans af2.gg)⟩
end
end Cl

set_option Elab.async false
set_option linter.all false
set_option maxRecDepth 100000
set_option maxHeartbeats 4000000
/-! the clean layer, part F: comprehensions -/
namespace Cl
open PySem PySem.Spec PyProof.Rows L2
open MO

def wipeE (ρ : En) : List Nat → En
  | [] => ρ
  | v :: vs => (wipeE ρ vs).set v none
theorem EnvR.setN {K : PySem.W.Frag} {H0 G H : Hp} {ρ : En} {σ : L2.St} {J : Addr → Prop} {i : Nat} {x : Option V} (e : EnvR K H0 ρ σ H G J) : EnvR K H0 (ρ.set i none) (σ.set i x) H G J := by
  have f : ∀ {j : Nat} {x : Ent}, (ρ.set i none)[j]? = some (some x) → i ≠ j ∧ ρ[j]? = some (some x) := fun {j x} h => by
    by_cases q : i = j
    · subst q
      rw [List.getElem?_set, if_pos rfl] at h
      split at h <;> cases h
    · rw [List.getElem?_set_ne q] at h
      exact ⟨q, h⟩
  refine ⟨fun j d h => ?_, fun j d h => ?_, fun j d h => ?_, fun j k c c' p hjk h1 h2 => ?_, by rw [List.length_set, List.length_set, e.len], fun j h => e.nb j (f h).2, e.kid.keep (Sub.refl _) (fun j xss h => ⟨(f h).2, List.getElem?_set_ne (f h).1⟩) (fun j c h => .inl ⟨c, (f h).2, List.getElem?_set_ne (f h).1⟩) (fun _ _ _ _ h => h) fun _ _ _ h0 hg hj _ => ⟨h0, hg, hj⟩⟩
  · obtain ⟨q, h⟩ := f h
    rw [List.getElem?_set_ne q]; exact e.val j d h
  · obtain ⟨q, h⟩ := f h
    rw [List.getElem?_set_ne q]; exact e.obj j d h
  · obtain ⟨q, h⟩ := f h
    rw [List.getElem?_set_ne q]; exact e.own j d h
  · obtain ⟨q1, h1⟩ := f h1
    obtain ⟨q2, h2⟩ := f h2
    rw [List.getElem?_set_ne q1, List.getElem?_set_ne q2]
    exact e.sep j k c c' p hjk h1 h2
theorem EnvR.unset {K : PySem.W.Frag} {H0 G H : Hp} {ρ : En} {σ : L2.St} {J : Addr → Prop} {i : Nat} (e : EnvR K H0 ρ σ H G J) : EnvR K H0 (ρ.set i none) (σ.set i none) H G J := e.setN
theorem EnvR.wipe {K : PySem.W.Frag} {H0 G H : Hp} {ρ : En} {σ : L2.St} {J : Addr → Prop} (e : EnvR K H0 ρ σ H G J) : ∀ vs : List Nat, EnvR K H0 (wipeE ρ vs) (L2.wipe σ vs) H G J
  | [] => e
  | v :: vs => (EnvR.wipe e vs).unset
theorem wipe_sub (σ : L2.St) (vs : List Nat) : ∀ ws : List Nat, (∀ i ∈ ws, i ∈ vs) → wipe (wipe σ ws) vs = wipe σ vs
  | [], _ => rfl
  | w :: ws, h => by
    show wipe ((wipe σ ws).set w none) vs = wipe σ vs
    rw [wipe_set (h w List.mem_cons_self)]
    exact wipe_sub σ vs ws fun i hi => h i (List.mem_cons_of_mem _ hi)
theorem wipe_wipe (σ : L2.St) (vs : List Nat) : wipe (wipe σ vs) vs = wipe σ vs := wipe_sub σ vs vs fun _ h => h

section
variable {γ : Type}
abbrev Cc.nx (C : Cc γ) : Cc γ := { C with EX := fun _ _ => False }
theorem Aft.own {G H G' H' : Hp} {J J' : Addr → Prop} {p : Addr} {o : HO} (a : Aft G J H G' J' H') (h : H p = none) (hg : G' p = none) (hj : ¬ J' p) : Aft G J H G' J' (upd H' p o) where
  gg := a.gg
  hh := fun c u hc e => by rw [upd_ne (fun z => by rw [z, h] at e; cases e)]; exact a.hh c u hc e
  dm := fun c e => by
    by_cases z : c = p
    · subst z; rw [upd_same]; exact Option.some_ne_none _
    · rw [upd_ne z]; exact a.dm c e
  gn := a.gn
  jn := a.jn
  vis := ⟨fun c u e => by rw [upd_ne (fun z => by rw [z, hg] at e; cases e)]; exact a.vis.sub c u e, a.vis.dis, fun c j => by rw [upd_ne (fun z => hj (by rw [← z]; exact j))]; exact a.vis.dom c j⟩
theorem SIx.own {S : SIx γ} {g : γ} {G H : Hp} {J : Addr → Prop} {p : Addr} {o : HO} (s : S.si g G J H) (hj : ¬ J p) : S.si g G J (upd H p o) :=
  S.new s (Sub.refl _) fun a u j e => by rw [upd_ne (fun z => hj (by rw [← z]; exact j))]; exact e
theorem Aft.keepD {G H G' H' : Hp} {J J' : Addr → Prop} {p : Addr} {o : HO} (a : Aft G J H G' J' H') (hp : H p = some o) (hg : G p = none) (hj : ¬ J p) : H' p = some o ∧ G' p = none ∧ ¬ J' p := by
  refine ⟨a.hh p o hj hp, ?_, fun j => ?_⟩
  · cases q : G' p with
    | none => rfl
    | some u =>
      rcases a.gn p (by rw [q]; exact Option.some_ne_none u) with z | z
      · exact absurd hg z
      · rw [hp] at z; cases z
  · rcases a.jn p j with z | z
    · exact hj z
    · rw [hp] at z; cases z
end

section
variable {γ : Type} {m : Type → Type} [PM γ m] {α β : Type} {C : Cc γ} {X : Cx} {ρ : En}
/-- a clause's tests -/
def CTs {β : Type} (C : Cc γ) (X : Cx) (ρ : En) (es : List Expr) (x : m β) (k : Bool → m β) : Prop :=
  ∀ Qf : β → γ → Prop, PTs X es (fun σ H Q => ∃ G J g, C.St X.K ρ σ H G J g ∧ PM.wp x g Qf C.EX ∧
    ∀ b H' G' J' g', Aft G J H G' J' H' → C.S.si g' G' J' H' → PM.wp (k b) g' Qf C.EX → Q b H')
theorem PTs.imp {X : Cx} {e : List Expr} {t t' : TT} (h : PTs X e t) (i : ∀ σ H Q, t' σ H Q → t σ H Q) : PTs X e t' := ⟨fun pins s σ H Q I q => h.run pins s σ H Q I (i σ H Q q)⟩
theorem PTs.ex {X : Cx} {e : List Expr} {ι : Type} {t : ι → TT} (h : ∀ i, PTs X e (t i)) : PTs X e (fun σ H Q => ∃ i, t i σ H Q) := ⟨fun pins s σ H Q I ⟨i, q⟩ => (h i).run pins s σ H Q I q⟩
theorem cts_nil {k : Bool → m β} : CTs C X ρ [] (k true) k := fun Qf => PTs.imp pts_nil fun σ H Q ⟨G, J, g, st, w, h⟩ => h true H G J g (Aft.refl st.vis) st.si w
theorem cts_one {e : Expr} {x : m β} {k : Bool → m β} (h : CT C X ρ e x k) : CTs C X ρ [e] x k := fun Qf => PTs.imp (pts_one (h Qf)) fun _ _ _ h => h

def rdG {α1 : Type} (C : Cc γ) (K : PySem.W.Frag) (ρ : En) (un : D → Option α1) (outT : α1 → En) (sl : List Nat) : TG :=
  fun v σ H Q => ∃ G J d a, EnvR K C.H0 ρ σ H G J ∧ Sub G H ∧ Rp K G v d ∧ un d = some a ∧ ∀ σ', EnvR K C.H0 (outT a) σ' H G J → But sl σ σ' → Q σ' H
def rdT {α1 : Type} (C : Cc γ) (K : PySem.W.Frag) (outT : α1 → En) (xt ye : α1 → m (Option D)) : TT :=
  fun σ H Q => ∃ (a : α1) (q : Option D → γ → Prop), ∃ G J g, C.nx.St K (outT a) σ H G J g ∧ PM.wp (xt a) g q C.nx.EX ∧ ∀ b H' G' J' g', Aft G J H G' J' H' → C.nx.S.si g' G' J' H' → PM.wp (if b = true then ye a else (pur none : m (Option D))) g' q C.nx.EX → Q b H'
def rdE {α1 : Type} (C : Cc γ) (K : PySem.W.Frag) (outT : α1 → En) (ye : α1 → m (Option D)) : TE :=
  fun σ H Q => ∃ (a : α1) (q : Option D → γ → Prop), ∃ G J g, C.nx.St K (outT a) σ H G J g ∧ PM.wp (ye a) g q C.nx.EX ∧ ∀ v d H' G' J' g', Aft G J H G' J' H' → C.nx.S.si g' G' J' H' → RR K G' J' H' H v (dv d) → PM.wp (pur (some d) : m (Option D)) g' q C.nx.EX → Q v H'
/-- the reading of a comprehension -/
theorem lc_imp {α1 : Type} {wi : TI} {vs : List Nat} {un : D → Option α1} {outT : α1 → En} {sl : List Nat} {xt ye : α1 → m (Option D)} {x : m β} {k : List D → m β} {Qf : β → γ → Prop} {K : PySem.W.Frag}
    (hsl : ∀ i ∈ sl, i ∈ vs) {σ : L2.St} {H : Hp} {Q : VK}
    (hwi : ∀ R : It → Hp → Prop, (∃ G J g, C.St K ρ σ H G J g ∧ PM.wp x g Qf C.EX ∧ ∀ It ds H' G' J' g', Aft G J H G' J' H' → C.S.si g' G' J' H' → Walks K It ds G' → PM.wp (bnd (nox (compL ds [] (fun d => bnd (need (un d)) xt))) k) g' Qf C.EX → R It H') → wi σ H R)
    (h : ∃ G J g, C.St K ρ σ H G J g ∧ PM.wp x g Qf C.EX ∧ ∀ v a H' G' J' g', Aft G J H G' J' H' → C.S.si g' G' J' H' → RR K G' J' H' H v (lv a) → PM.wp (k a) g' Qf C.EX → Q v H') :
    tLc wi (rdG C K (wipeE ρ vs) un outT sl) (rdT C K outT xt ye) (rdE C K outT ye) vs σ H Q := by
  obtain ⟨G, J, g, st, w, hQ⟩ := h
  refine hwi _ ⟨G, J, g, st, w, fun It ds H1 G1 J1 g1 af1 si1 wk w1 D hD => ?_⟩
  have w1' := PM.of_nox (PM.of_bnd w1)
  have g1D : G1 D = none := none_of_sub af1.vis.sub hD
  have j1D : ¬ J1 D := fun j => af1.vis.dom D j hD
  refine ⟨fun i n H => n = ds.length - i ∧ i ≤ ds.length ∧ ∃ G2 J2 g2 acc us, Aft G1 J1 H1 G2 J2 H ∧ C.S.si g2 G2 J2 H ∧ H D = some (.lst us) ∧ RpL K G2 us acc ∧ G2 D = none ∧ ¬ J2 D ∧
      PM.wp (compL (ds.drop i) acc (fun d => bnd (need (un d)) xt)) g2 (fun xs g' => PM.wp (k xs) g' Qf C.EX) (fun _ _ => False),
    ⟨ds.length, rfl, Nat.zero_le _, G1, J1, g1, [], [], (Aft.refl af1.vis).own hD g1D j1D, SIx.own si1 j1D, upd_same, .nil, g1D, j1D, w1'⟩, ?_⟩
  rintro i n H2 ⟨rfl, hi, G2, J2, g2, acc, us, af2, si2, hD2, rl2, g2D, j2D, w2⟩
  by_cases hlt : i < ds.length
  · obtain ⟨hgo, hy⟩ := (wk G2 H2 af2.gg af2.vis.sub i).1 hlt
    rw [List.drop_eq_getElem_cons hlt] at w2
    unfold compL at w2
    obtain ⟨a, ea, w3⟩ := of_need (PM.of_bnd w2)
    refine .inr ⟨hgo, _, fun H' z => z, fun y H3 hyl => ?_⟩
    obtain ⟨G3, d, ed, nw, rp⟩ := hy y H3 hyl
    rw [List.getElem?_eq_getElem hlt] at ed
    cases ed
    have af3 := nw.aft af2.vis
    have si3 := SIx.nw si2 nw
    obtain ⟨hD3, g3D, j3D⟩ := af3.keepD hD2 g2D j2D
    have rl3 := rl2.sub nw.gg
    have st3 : C.St K ρ σ H3 G3 J2 g2 := st.go (af1.trans (af2.trans af3)) si3
    refine ⟨G3, J2, ds[i], a, st3.env.wipe vs, nw.sub, rp, ea, fun σ' e' bt => ⟨by rw [bt vs hsl, wipe_wipe], ?_⟩⟩
    refine ⟨a, _, G3, J2, g2, ⟨e', st3.aft, si3⟩, w3, fun b H4 G4 J4 g4 af4 si4 w4 => ?_⟩
    obtain ⟨hD4, g4D, j4D⟩ := af4.keepD hD3 g3D j3D
    cases b with
    | true =>
      rw [if_pos rfl]
      rw [if_pos rfl] at w4
      refine ⟨a, _, G4, J4, g4, ⟨e'.aft af4, st3.aft.trans af4, si4⟩, w4, fun v d H5 G5 J5 g5 af5 si5 rr w5 => ?_⟩
      obtain ⟨hD5, g5D, j5D⟩ := af5.keepD hD4 g4D j4D
      have w6 := PM.of_pur w5
      dsimp only at w6
      obtain ⟨acc', e6, w7⟩ := of_need w6
      unfold appF at e6
      split at e6
      · rename_i hacc
        cases e6
        have rl5 := (rl3.sub af4.gg).sub af5.gg
        refine ⟨us, hD5, by rw [rl5.length]; exact hacc, ds.length - (i + 1), by omega, rfl, hlt, G5, J5, g5, acc ++ [d], us ++ [v], (af2.trans (af3.trans (af4.trans af5))).own hD g5D j5D, SIx.own si5 j5D, upd_same, rl5.append (.one rr), g5D, j5D, w7⟩
      · cases e6
    | false =>
      rw [if_neg Bool.false_ne_true]
      rw [if_neg Bool.false_ne_true] at w4
      have w6 := PM.of_pur w4
      dsimp only at w6
      exact ⟨ds.length - (i + 1), by omega, rfl, hlt, G4, J4, g4, acc, us, af2.trans (af3.trans af4), si4, hD4, rl3.sub af4.gg, g4D, j4D, w6⟩
  · have e : i = ds.length := by omega
    subst e
    rw [List.drop_length] at w2
    unfold compL at w2
    have w3 := PM.of_pur w2
    exact .inl ⟨(wk G2 H2 af2.gg af2.vis.sub ds.length).2 rfl, hQ _ acc H2 G2 J2 g2 (af1.trans af2) si2 ⟨D, rfl, af1.back D hD, g2D, j2D, us, hD2, rl2⟩ w3⟩
theorem ce_comp {α1 : Type} {elt tg iter : Expr} {ifs : List Expr} {scope : Scope} {own : List (Str × Nat)} {pos : Pos} {un : D → Option α1} {outT : α1 → En} {sl : List Nat} {xt ye : α1 → m (Option D)} {x : m β} {k : List D → m β}
    (he : ∀ (s : Shared) (H : Hp) (Ca : Addr) (cl : List (Str × Addr)) (fp : List Addr) (a : α1), CE C.nx (X.blk s H scope (compEnvC scope cl Ca X.env) fp) (outT a) elt dv (ye a) (fun d => pur (some d)))
    (ht : ∀ (s : Shared) (H : Hp) (Ca : Addr) (cl : List (Str × Addr)) (fp : List Addr) (a : α1), CTs C.nx (X.blk s H scope (compEnvC scope cl Ca X.env) fp) (outT a) ifs (xt a) (fun b => if b = true then ye a else pur none))
    (hg : ∀ (s : Shared) (H : Hp) (Ca : Addr) (cl : List (Str × Addr)) (fp : List Addr), CG C (X.blk s H scope (compEnvC scope cl Ca X.env) fp) (wipeE ρ (own.map fun p : Str × Nat => p.2)) tg un outT sl)
    (hI : CI C X ρ tg iter x (fun ds => bnd (nox (compL ds [] (fun d => bnd (need (un d)) xt))) k)) (hN : X.N.Nodup) (ok : BlkOk X.N X.env.scope scope own) (hsl : ∀ i ∈ sl, i ∈ own.map fun p : Str × Nat => p.2 := by decide) (hc : X.calm = true := by rfl) (hs : ∀ x, foldedSetIterable iter X.env x = pure x := by intro _; rfl) :
    CE C X ρ (.ListComp elt [⟨tg, iter, ifs, 0⟩] scope pos) lv x k := fun Qf =>
  PE.imp (pe_lc (g := rdG C X.K (wipeE ρ (own.map fun p : Str × Nat => p.2)) un outT sl) (tt := rdT C X.K outT xt ye) (te := rdE C X.K outT ye) hc hN (hI Qf) ok hg (fun s H Ca cl fp => PTs.ex fun a => PTs.ex fun q => ht s H Ca cl fp a q) (fun s H Ca cl fp => PE.ex fun a => PE.ex fun q => he s H Ca cl fp a q) hs) fun σ H Q h =>
    lc_imp (Qf := Qf) hsl (fun R h => h) h
/-- y = [..] on one line -/
theorem cs_setC {δ τ α2 : Type} {α1 : Type} {elt tg iter : Expr} {ifs : List Expr} {scope : Scope} {own : List (Str × Nat)} {pos spos py : Pos} {y : Str} {i : Nat} {un : D → Option α1} {outT : α1 → En} {sl : List Nat} {xt ye : α1 → m (Option D)} {x : m β} {xr : List D → m β}
    {rest : List Stmt} {out : α2 → En} {outL : τ → En} {rk : δ → R} {kn : α2 → m β} {kr : δ → m β} {kb kc : τ → m β}
    (hr : ∀ xs, CS C X (ρ.set i (some (.own (.lst xs)))) rest out outL rk (xr xs) kn kr kb kc)
    (he : ∀ (s : Shared) (H : Hp) (Ca : Addr) (cl : List (Str × Addr)) (fp : List Addr) (a : α1), CE C.nx (X.blk s H scope (compEnvC scope cl Ca X.env) fp) (outT a) elt dv (ye a) (fun d => pur (some d)))
    (ht : ∀ (s : Shared) (H : Hp) (Ca : Addr) (cl : List (Str × Addr)) (fp : List Addr) (a : α1), CTs C.nx (X.blk s H scope (compEnvC scope cl Ca X.env) fp) (outT a) ifs (xt a) (fun b => if b = true then ye a else pur none))
    (hg : ∀ (s : Shared) (H : Hp) (Ca : Addr) (cl : List (Str × Addr)) (fp : List Addr), CG C (X.blk s H scope (compEnvC scope cl Ca X.env) fp) (wipeE ρ (own.map fun p : Str × Nat => p.2)) tg un outT sl)
    (hI : CI C X ρ tg iter x (fun ds => bnd (nox (compL ds [] (fun d => bnd (need (un d)) xt))) xr)) (hN : X.N.Nodup) (ok : BlkOk X.N X.env.scope scope own)
    (hsw : swapsWith (.ListComp elt [⟨tg, iter, ifs, 0⟩] scope pos) (some (.Name y py)) spos.line X.env = pure true)
    (hy : X.N[i]? = some y := by rfl) (hyl : X.env.scope.names.lookup y = some .local := by rfl) (hsl : ∀ i ∈ sl, i ∈ own.map fun p : Str × Nat => p.2 := by decide) (hc : X.calm = true := by rfl) (hs : ∀ x, foldedSetIterable iter X.env x = pure x := by intro _; rfl) :
    CS C X ρ (.Assign [.Name y py] (.ListComp elt [⟨tg, iter, ifs, 0⟩] scope pos) spos :: rest) out outL rk x kn kr kb kc := fun Qf =>
  PSs.imp (pss_cons (ps_setLc (g := rdG C X.K (wipeE ρ (own.map fun p : Str × Nat => p.2)) un outT sl) (tt := rdT C X.K outT xt ye) (te := rdE C X.K outT ye) hc hN hy hyl hsw (hI Qf) ok hg (fun s H Ca cl fp => PTs.ex fun a => PTs.ex fun q => ht s H Ca cl fp a q) (fun s H Ca cl fp => PE.ex fun a => PE.ex fun q => he s H Ca cl fp a q) hs) (PSs.ex fun xs => hr xs Qf)) fun E σ H ⟨G, J, g, st, w, fi⟩ =>
    by
      delta tSeq tAsg gName
      dsimp only
      exact lc_imp (Qf := Qf) (K := X.K) (x := x) (k := xr) (un := un) (outT := outT) (sl := sl) (xt := xt) (ye := ye) hsl (fun R h => h) ⟨G, J, g, st, w, fun v xs H' G' J' g' af si rr w' => by
        obtain ⟨p, rfl, hb, hg, hj, hc⟩ := rr
        exact ⟨xs, G', J', g', st.setL af si hb hg hj hc, w', fi.sub af.gg⟩⟩
end
end Cl

set_option Elab.async false
set_option linter.all false
set_option maxRecDepth 100000
set_option maxHeartbeats 4000000
/-! the clean layer, part G: defs and their calls -/
namespace Cl
open PySem PySem.Spec PyProof.Rows L2
open MO

/-- nothing stands in the region -/
def S0 : SIx Unit where
  si := fun _ _ J _ => ∀ a, ¬ J a
  new := fun h _ _ => h
  cut := fun h _ _ _ => h

/-! ### arguments: true for a plain value, false for another object -/
abbrev Sig := List Bool
@[reducible] def El : Bool → Type
  | true => D
  | false => Addr
@[reducible] def Ar : Sig → Type
  | [] => Unit
  | b :: bs => El b × Ar bs
def unpack : (sig : Sig) → List R → Option (Ar sig)
  | [], [] => some ()
  | true :: bs, .v d :: rs => match unpack bs rs with
    | some a => some (d, a)
    | none => none
  | false :: bs, .o x :: rs => match unpack bs rs with
    | some a => some (x, a)
    | none => none
  | _, _ => none
def callM {m : Type → Type} [MO m] {δ : Type} (sig : Sig) (f : Ar sig → m δ) (rs : List R) : m δ := match unpack sig rs with
  | some a => f a
  | none => lift .no
@[reducible] def entA : {sig : Sig} → Ar sig → En
  | [], _ => []
  | true :: _, (d, a) => some (.val d) :: entA a
  | false :: _, (x, a) => some (.obj x) :: entA a
@[reducible] def entE {sig : Sig} (a : Ar sig) (n : Nat) : En := entA a ++ List.replicate (n - sig.length) none
inductive RAs (K : PySem.W.Frag) (G : Hp) : List V → List R → Prop
  | nil : RAs K G [] []
  | v {v : V} {d : D} {vs : List V} {rs : List R} : Rp K G v d → RAs K G vs rs → RAs K G (v :: vs) (.v d :: rs)
  | o {a : Addr} {vs : List V} {rs : List R} : RAs K G vs rs → RAs K G (.ref a :: vs) (.o a :: rs)
  | l {v : V} {c : Cell} {vs : List V} {rs : List R} : RAs K G vs rs → RAs K G (v :: vs) (.l c :: rs)
  | p {v : V} {xs : List D} {d : D} {vs : List V} {rs : List R} : RAs K G vs rs → RAs K G (v :: vs) (.p xs d :: rs)
theorem RRs.ras {K : PySem.W.Frag} {G H Hb : Hp} {J : Addr → Prop} : ∀ {vs : List V} {rs : List R}, RRs K G J H Hb vs rs → RAs K G vs rs
  | _, _, .nil => .nil
  | _, .v d :: _, .cons h t => .v h (RRs.ras t)
  | _, .o a :: _, .cons h t => by cases h; exact .o (RRs.ras t)
  | _, .l c :: _, .cons h t => .l (RRs.ras t)
  | _, .p _ _ :: _, .cons h t => .p (RRs.ras t)
theorem RAs.length {K : PySem.W.Frag} {G : Hp} : ∀ {vs : List V} {rs : List R}, RAs K G vs rs → vs.length = rs.length
  | _, _, .nil => rfl
  | _, _, .v _ t => by rw [List.length_cons, List.length_cons, RAs.length t]
  | _, _, .o t => by rw [List.length_cons, List.length_cons, RAs.length t]
  | _, _, .l t => by rw [List.length_cons, List.length_cons, RAs.length t]
  | _, _, .p t => by rw [List.length_cons, List.length_cons, RAs.length t]
theorem ent_nth {K : PySem.W.Frag} {G : Hp} : ∀ {sig : Sig} {rs : List R} {vs : List V} {a : Ar sig} {i : Nat} {x : Ent}, RAs K G vs rs → unpack sig rs = some a → (entA a)[i]? = some (some x) →
    (∃ d v, x = .val d ∧ vs[i]? = some v ∧ Rp K G v d) ∨ (∃ c, x = .obj c ∧ vs[i]? = some (.ref c))
  | [], rs, vs, a, i, x, r, e, h => by simp [entA] at h
  | true :: bs, rs, vs, a, i, x, r, e, h => by
    cases r with
    | nil => simp [unpack] at e
    | @v v d vs rs r1 r2 =>
      unfold unpack at e
      cases q : unpack bs rs with
      | none => simp [q] at e
      | some a1 =>
        simp [q] at e
        subst e
        cases i with
        | zero =>
          simp [entA] at h
          subst h
          exact .inl ⟨d, v, rfl, rfl, r1⟩
        | succ i => exact ent_nth (i := i) r2 q (by simpa [entA] using h)
    | o r2 => simp [unpack] at e
    | l r2 => simp [unpack] at e
    | p r2 => simp [unpack] at e
  | false :: bs, rs, vs, a, i, x, r, e, h => by
    cases r with
    | nil => simp [unpack] at e
    | v r1 r2 => simp [unpack] at e
    | @o c vs rs r2 =>
      unfold unpack at e
      cases q : unpack bs rs with
      | none => simp [q] at e
      | some a1 =>
        simp [q] at e
        subst e
        cases i with
        | zero =>
          simp [entA] at h
          subst h
          exact .inr ⟨c, rfl, rfl⟩
        | succ i => exact ent_nth (i := i) r2 q (by simpa [entA] using h)
    | l r2 => simp [unpack] at e
    | p r2 => simp [unpack] at e
theorem unpack_len : ∀ {sig : Sig} {rs : List R} {a : Ar sig}, unpack sig rs = some a → rs.length = sig.length ∧ (entA a).length = sig.length
  | [], [], _, _ => ⟨rfl, rfl⟩
  | [], _ :: _, _, h => by simp [unpack] at h
  | true :: bs, [], _, h => by simp [unpack] at h
  | false :: bs, [], _, h => by simp [unpack] at h
  | true :: bs, .o _ :: rs, _, h => by simp [unpack] at h
  | true :: bs, .l _ :: rs, _, h => by simp [unpack] at h
  | true :: bs, .p _ _ :: rs, _, h => by simp [unpack] at h
  | false :: bs, .v _ :: rs, _, h => by simp [unpack] at h
  | false :: bs, .l _ :: rs, _, h => by simp [unpack] at h
  | false :: bs, .p _ _ :: rs, _, h => by simp [unpack] at h
  | true :: bs, .v d :: rs, a, h => by
    unfold unpack at h
    cases q : unpack bs rs with
    | none => simp [q] at h
    | some a1 =>
      simp [q] at h
      subst h
      obtain ⟨e1, e2⟩ := unpack_len q
      exact ⟨by simp [e1], by simp [entA, e2]⟩
  | false :: bs, .o d :: rs, a, h => by
    unfold unpack at h
    cases q : unpack bs rs with
    | none => simp [q] at h
    | some a1 =>
      simp [q] at h
      subst h
      obtain ⟨e1, e2⟩ := unpack_len q
      exact ⟨by simp [e1], by simp [entA, e2]⟩

section
variable {γ : Type} {m : Type → Type} [PM γ m] {δ : Type}
/-- what a def promises: it does f -/
def spC {γ : Type} {m : Type → Type} [PM γ m] {δ : Type} (K : PySem.W.Frag) (S : SIx γ) (sig : Sig) (f : Ar sig → m δ) (rk : δ → R) : Sp := fun vs H Q E => ∃ G J g rs, Vis G J H ∧ S.si g G J H ∧ RAs K G vs rs ∧ rs.length = sig.length ∧
  PM.wp (callM sig f rs) g (fun d g' => ∀ v H' G' J', Aft G J H G' J' H' → S.si g' G' J' H' → RR K G' J' H' H v (rk d) → Q v H') (fun _ _ => False)
end
/-- a def's promise kept where no repr is under way -/
structure FnG (P : Program) (w : World) (K : PySem.W.Frag) (mg : Str → Option Value) (base : Heap) (k : Nat) (f : Addr) (fd : FuncData) (ps : List Str) (sp : Sp) : Prop where
  num : ∀ vs H Q E, sp vs H Q E → vs.length = ps.length
  does : ∀ (A : Around) (outer : List Env) (s : Shared) (H : Hp) (args : Args) (us : List Value) (vs : List V) (Q : VK) (E : XK), Room k A → A.guards = some [] → Env0 P w K mg base A outer s H → BindsTo s fd args (ps.zip us) → Vals vs us → sp vs H Q E →
    codeAny (model P w) A (.call (.ref f) args) (CR CX0 outer P w H s Q E) s
theorem FnG.lift {P : Program} {w : World} {K : PySem.W.Frag} {mg : Str → Option Value} {base : Heap} {j k : Nat} {f : Addr} {fd : FuncData} {ps : List Str} {sp : Sp} (F : FnG P w K mg base j f fd ps sp) (h : j ≤ k) : FnG P w K mg base k f fd ps sp where
  num := F.num
  does := fun A outer s H args us vs Q E hr => F.does A outer s H args us vs Q E (hr.mono h)
/-- a def that may be called -/
structure Cal (P : Program) (w : World) (K : PySem.W.Frag) (mg : Str → Option Value) (base : Heap) (x : Str) (lvl : Nat) (ps : List Str) (sp : Sp) : Prop where
  ex : ∃ f fd, mg x = some (.ref f) ∧ FnG P w K mg base lvl f fd ps sp ∧ PySem.W.keepIn K (.ref f) = true ∧ (∀ (s : Shared) (args : Args) (us : List Value), us.length = ps.length → bindArgs fd args = pure (ps.zip us) → BindsTo s fd args (ps.zip us)) ∧ (∀ us : List Value, us.length = ps.length → bindArgs fd ⟨us, []⟩ = pure (ps.zip us)) ∧ ∃ oc od sl, K.lookup f = some ⟨oc, od, .func fd, sl⟩
theorem Cal.mono {P : Program} {w : World} {K : PySem.W.Frag} {mg : Str → Option Value} {base : Heap} {x : Str} {j k : Nat} {ps : List Str} {sp : Sp} (c : Cal P w K mg base x j ps sp) (h : j ≤ k) : Cal P w K mg base x k ps sp := by
  obtain ⟨f, fd, a, b, r⟩ := c.ex
  exact ⟨f, fd, a, b.lift h, r⟩
/-- where a def stands behind the top -/
structure Dfd (K : PySem.W.Frag) (mg : Str → Option Value) (x qual : Str) (st : Stmt) (ps : List Str) : Prop where
  ex : ∃ f fd, mg x = some (.ref f) ∧ Fun K x qual st f fd ∧ ∀ us : List Value, us.length = ps.length → bindArgs fd ⟨us, []⟩ = pure (ps.zip us)
/-- a body run where it stands -/
theorem fnG_of {P : Program} {w : World} {K : PySem.W.Frag} {mg : Str → Option Value} {base : Heap} {x qual : Str} {st : Stmt} {f : Addr} {fd : FuncData} {N ps : List Str} {k : Nat} {sp : Sp} (F : Fun K x qual st f fd) (S : FnScope N ps (defScope st)) (num : ∀ vs H Q E, sp vs H Q E → vs.length = ps.length)
    (hb : ∀ (cdv : Value) (A : Around) (outer : List Env) (s : Shared) (H : Hp) (vs : List V) (Q : VK) (E : XK), Room k (A.deeper (envOfC qual (defScope st) s.heap.objs.size f cdv)) → A.guards = some [] → sp vs H Q E →
      ∃ t, PSs (cxOf CX0 P w K mg base N qual (defScope st) f cdv A outer s H E).nox (defBody st) t ∧ t { nx := fun _ H' => Q .non H', rt := Q } (L2.start N vs) H) : FnG P w K mg base (k + 1) f fd ps sp := by
  obtain ⟨oc, od, kV, doc, pm, an, cdv, ct, osl, rfl, lk, hcd⟩ := F.ex
  refine ⟨num, fun A outer s H args us vs Q E hr hgd e0 hbd rv hsp => ?_⟩
  have inK : K.In s.heap := e0.mod.kin.keeps fun b o e => (e0.bs b o e).1
  have nl : s.heap.NoLimit := e0.mod.nolimit.keeps fun b o e => (e0.bs b o e).1
  have kinds : ∀ y ∈ ps.zip us, (defScope st).names.lookup y.1 = some .local ∨ ((defScope st).names.lookup y.1 = some .cell ∧ ((cellsFrom (s.heap.objs.size + 1) (defScope st).names []).lookup y.1).isSome = true) := fun ⟨n, v⟩ hy => (S.par n (List.of_mem_zip hy).1).imp (fun q => q) fun q => ⟨q, PySem.W.cellsFrom_some _ _ _ (.inl q)⟩
  refine codeAny_call_function hr.depth (inK _ _ lk) rfl S.co S.gen rfl (PySem.W.codeRec_of inK hcd) (hbd _ _ _ _ (wpAny_newFunctionEnv_cells S.kind kinds fun env he s1 ic => ?_))
  subst he
  refine ⟨nl.keeps ic.toInCall.keep, codeAny_func ?_⟩
  obtain ⟨t, ht, hq⟩ := hb cdv A outer s H vs Q E (hr.deeper _) hgd hsp
  have I0 := inv_start (CX := CX0) (E := E) S hr.hd e0 (num _ _ _ _ hsp) rv ic
  refine wpAny_mono (ht.nox.run [] s1 _ H _ I0 hq) (fun fl s' hs => ?_) fun e s' hs => hs
  have give : ∀ {σ' : L2.St} {H' : Hp} {v : V} {u : Value}, Inv (cxOf CX0 P w K mg base N qual (defScope st) f cdv A outer s H E) [] σ' H' s' → RelV v u → Q v H' → L2.CE outer P w H s Q u s' := fun {σ' H' v u} i r q => ⟨v, H', i.os, i.bare, i.base, i.hok, r, q⟩
  cases fl with
  | next => obtain ⟨σ', H', i, q⟩ := hs; exact give (v := V.non) (u := Value.none) i rfl q
  | ret u => obtain ⟨v, σ', H', i, r, q⟩ := hs; exact give i r q
  | brk => obtain ⟨_, _, _, q⟩ := hs; exact q.elim
  | cont => obtain ⟨_, _, _, q⟩ := hs; exact q.elim
section
variable {X : Cx} {k : Nat} {f : Addr} {fd : FuncData} {ps : List Str} {sp : Sp}
theorem go_fnG {pins : List (Addr × Obj)} {σ : L2.St} {H : Hp} {s : Shared} {Q : VK} {us : List Value} {vs : List V} {kw : List (Str × Value)} {qs : List Value} (F : FnG X.prog X.w X.K X.mg X.base k f fd ps sp) (hr : Room k X.A) (hgd : X.A.guards = some [])
    (I : Inv X pins σ H s) (hb : BindsTo s fd ⟨qs, kw⟩ (ps.zip us)) (r : Vals vs us) (h : sp vs H Q E0) : wpAny (model X.prog X.w) X.A (call (.ref f) qs kw) (EP X pins σ Q) X.xe s := by
  refine wpAny_call (codeAny_mono (F.does X.A X.stack s H ⟨qs, kw⟩ us vs Q E0 hr hgd I.env0 hb r h) fun res s' hq => ?_)
  match res, hq with
  | .error _, hq => exact hq.elim
  | .ok (.ret u), hq => exact I.after hq
  | .ok .next, hq => exact False.elim hq
  | .ok .brk, hq => exact False.elim hq
  | .ok .cont, hq => exact False.elim hq
variable {x : Str} {p pos : Pos} {e : Expr} {es : List Expr} {t : TA}
def tCl (sp : Sp) (t : TA) : TE := fun σ H Q => t σ H fun vs H1 => sp vs H1 Q E0
theorem pe_callG (c : Cal X.prog X.w X.K X.mg X.base x k ps sp) (hr : Room k X.A) (hgd : X.A.guards = some []) (hg : Gl X x) (ha : PA X (e :: es) t) (hdb : (x == ("__debug__" : Str)) = false) (he : starEach (e :: es) X.env = (false, eval e X.env) :: starEach es X.env)
    (hpl : (backTo pos (starEach es X.env)).any (·.1) = false) : PE X (.Call (.Name x p) (e :: es) [] pos) (tCl sp t) := by
  obtain ⟨f, fd, hm, F, hk, hb, hb2, hlk⟩ := c.ex
  refine ⟨fun pins s σ H Q I h => wpAny_Call_Name_kw (ld_glob I hg hm (PySem.W.callWith_K (h₀ := X.base) I.ok.mod.kin hk (thn (ha.run pos pins s σ H _ I h) fun us s1 ⟨vs, H1, I1, r, q⟩ => ⟨I1.kIn, ?_⟩) he hpl) hdb)⟩
  have hn : us.length = ps.length := by rw [← r.length]; exact F.num _ _ _ _ q
  exact go_fnG F hr hgd I1 (hb s1 _ us hn (hb2 us hn)) r q
theorem pe_callG0 (c : Cal X.prog X.w X.K X.mg X.base x k ps sp) (hr : Room k X.A) (hgd : X.A.guards = some []) (hg : Gl X x) (hdb : (x == ("__debug__" : Str)) = false) : PE X (.Call (.Name x p) [] [] pos) (tCl sp tNil) := by
  obtain ⟨f, fd, hm, F, hk, hb, hb2, hlk⟩ := c.ex
  refine ⟨fun pins s σ H Q I h => wpAny_Call_Name_kw (ld_glob I hg hm (PySem.W.callWith_K0 I.kIn hk ?_) hdb)⟩
  have hn : ([] : List Value).length = ps.length := F.num _ _ _ _ h
  exact go_fnG (us := []) F hr hgd I (hb s _ [] hn (hb2 [] hn)) .nil h
end
section
variable {γ : Type} {m : Type → Type} [PM γ m] {δ : Type}
theorem entE_key {sig : Sig} {a : Ar sig} {n i : Nat} {y : Ent} (h : (entE a n)[i]? = some (some y)) : (entA a)[i]? = some (some y) := by
  unfold entE at h
  by_cases hi : i < (entA a).length
  · rw [List.getElem?_append_left hi] at h; exact h
  · rw [List.getElem?_append_right (by omega), List.getElem?_replicate] at h
    split at h <;> cases h
theorem env_start {K : PySem.W.Frag} {H G : Hp} {J : Addr → Prop} {sig : Sig} {rs : List R} {vs : List V} {a : Ar sig} {N : List Str} (ra : RAs K G vs rs) (e : unpack sig rs = some a) (hN : sig.length ≤ N.length) : EnvR K H (entE a N.length) (L2.start N vs) H G J := by
  have l1 := ra.length
  have l2 := unpack_len e
  have look : ∀ {i : Nat} {v : V}, vs[i]? = some v → (L2.start N vs)[i]? = some (some v) := fun {i v} h2 => by
    unfold L2.start
    rw [List.getElem?_append_left (by rw [List.length_map]; exact (List.getElem?_eq_some_iff.mp h2).1), List.getElem?_map, h2]
    rfl
  refine ⟨fun i d h => ?_, fun i c h => ?_, fun i c h => ?_, fun i j c c' p _ h => ?_, ?_, fun i h => ?_, LLok.none fun i xss h => ?_⟩
  · rcases ent_nth ra e (entE_key h) with ⟨d', v, h1, h2, h3⟩ | ⟨c, h1, _⟩
    · cases h1; exact ⟨v, look h2, h3⟩
    · cases h1
  · rcases ent_nth ra e (entE_key h) with ⟨d', v, h1, h2, h3⟩ | ⟨c', h1, h2⟩
    · cases h1
    · cases h1; exact look h2
  · rcases ent_nth ra e (entE_key h) with ⟨d', v, h1, h2, h3⟩ | ⟨c', h1, h2⟩ <;> cases h1
  · rcases ent_nth ra e (entE_key h) with ⟨d', v, h1, h2, h3⟩ | ⟨c', h1, h2⟩ <;> cases h1
  · unfold entE L2.start
    rw [List.length_append, List.length_append, List.length_map, List.length_replicate, List.length_replicate]
    have l3 := l2.1
    have l4 := l2.2
    rw [l4, l1, l3]
  · rcases ent_nth ra e (entE_key h) with ⟨d', v, h1, h2, h3⟩ | ⟨c', h1, h2⟩ <;> cases h1
  · rcases ent_nth ra e (entE_key h) with ⟨d', v, h1, h2, h3⟩ | ⟨c', h1, h2⟩ <;> cases h1
/-- THE RULE for a def, by its body -/
theorem cal_of {P : Program} {w : World} {K : PySem.W.Frag} {mg : Str → Option Value} {base : Heap} {x qual : Str} {st : Stmt} {N ps : List Str} {k : Nat} {S : SIx γ} {sig : Sig} {f : Ar sig → m δ} {rk : δ → R} (kn : Unit → m δ) (F : Dfd K mg x qual st ps) (sc : FnScope N ps (defScope st)) (hl : ps.length = sig.length)
    (hkn : kn = (fun _ => lift .no) ∨ ∃ d0, kn = (fun _ => pur d0) ∧ rk d0 = .v .none)
    (hbody : ∀ (f' : Addr) (cdv : Value) (A : Around) (outer : List Env) (s : Shared) (H G : Hp) (J : Addr → Prop) (E : XK) (a : Ar sig), Room k (A.deeper (envOfC qual (defScope st) s.heap.objs.size f' cdv)) → A.guards = some [] →
      CS (m := m) (⟨H, G, J, S, fun _ _ => False⟩ : Cc γ) ((cxOf CX0 P w K mg base N qual (defScope st) f' cdv A outer s H E).nox) (entE a N.length) (defBody st) (fun _ : Unit => List.replicate N.length none) (fun _ : Unit => badE) rk (f a) kn (fun r => pur r) (fun _ => lift .no) (fun _ => lift .no)) :
    Cal P w K mg base x (k + 1) ps (spC K S sig f rk) := by
  obtain ⟨fA, fd, hm, FF, hb⟩ := F.ex
  refine ⟨fA, fd, hm, fnG_of FF sc (fun vs H Q E h => ?_) (fun cdv A outer s H vs Q E hr hgd h => ?_), FF.kp, fun s args us _ e => .of_eq e, hb, by obtain ⟨oc, od, kV, doc, pm, an, cdv, ct, osl, rfl, lk, hcd⟩ := FF.ex; exact ⟨oc, od, osl, lk⟩⟩
  · obtain ⟨G, J, g, rs, _, _, ra, hlen, _⟩ := h
    rw [ra.length, hlen, hl]
  · obtain ⟨G, J, g, rs, vis, si, ra, hlen, w1⟩ := h
    unfold callM at w1
    have hN : ps.length ≤ N.length := by
      have := congrArg List.length sc.pre
      rw [List.length_take] at this
      omega
    cases e : unpack sig rs with
    | none =>
      rw [e] at w1
      exact (PM.of_lift w1).elim
    | some a =>
      rw [e] at w1
      refine ⟨_, hbody fA cdv A outer s H G J E a hr hgd _, G, J, g, ⟨env_start ra e (by rw [← hl]; exact hN), Aft.refl vis, si⟩, w1, ⟨fun _ σ' H' G' J' g' _ st w2 => ?_, fun r v H' G' J' g' af si' rr w2 => ?_, fun _ σ' H' G' J' g' _ st w2 => (PM.of_lift w2).elim, fun _ σ' H' G' J' g' _ st w2 => (PM.of_lift w2).elim⟩⟩
      · rcases hkn with q | ⟨d0, q, q2⟩
        · rw [q] at w2
          exact (PM.of_lift w2).elim
        · rw [q] at w2
          have w3 := PM.of_pur w2
          exact w3 .non H' G' J' st.aft st.si (by rw [q2]; exact .non)
      · have w3 := PM.of_pur w2
        exact w3 v H' G' J' af si' rr
end

section
variable {γ : Type} {m : Type → Type} [PM γ m] {α β δ : Type} {C : Cc γ} {X : Cx} {ρ : En}
/-- a call of a plain def -/
theorem ce_callP {x : Str} {lvl : Nat} {ps : List Str} {sig : Sig} {f : Ar sig → P δ} {rk : δ → R} {p pos : Pos} {e : Expr} {es : List Expr} {y : m β} {k : δ → m β} (c : Cal X.prog X.w X.K X.mg X.base x lvl ps (spC X.K S0 sig f rk)) (hr : Room lvl X.A) (hgd : X.A.guards = some [])
    (ha : CA C X ρ (e :: es) y (fun rs => bnd (lift (callM sig f rs)) k)) (hl : (e :: es).length = sig.length := by rfl) (hg : Gl X x := by rfl) (hEX : ∀ x g, C.EX x g → False := by exact fun _ _ h => h) (hdb : (x == ("__debug__" : Str)) = false := by decide)
    (he : starEach (e :: es) X.env = (false, eval e X.env) :: starEach es X.env := by rfl) (hpl : (backTo pos (starEach es X.env)).any (·.1) = false := by rfl) : CE C X ρ (.Call (.Name x p) (e :: es) [] pos) rk y k := fun Qf => by
  refine PE.imp (pe_callG c hr hgd hg (ha Qf) hdb he hpl) fun σ H Q ⟨G, J, g, st, w, h⟩ => ⟨G, J, g, st, w, fun vs rs H1 G1 J1 g1 af1 si1 rrs hn w1 => ?_⟩
  refine ⟨G1, fun _ => False, (), rs, ⟨af1.vis.sub, fun _ h => h.elim, fun _ h => h.elim⟩, fun _ h => h, rrs.ras, by rw [hn, hl], ?_⟩
  have w2 := PM.of_lift (PM.of_bnd w1)
  cases e1 : callM sig f rs with
  | no => rw [e1] at w2; exact w2.elim
  | ex q => rw [e1] at w2; exact (hEX _ _ w2).elim
  | ok d =>
    rw [e1] at w2
    intro v H' G' J' af si rr
    have n : New G1 H1 G' H' := ⟨af.gg, fun a o h => af.hh a o (fun z => z) h, af.gn, af.vis.sub⟩
    refine h v d H' G' J1 g1 (af1.trans (n.aft af1.vis)) (SIx.nw si1 n) ?_ w2
    have rr' : RR X.K G' J1 H' H1 v (rk d) := by
      cases q : rk d with
      | v d => rw [q] at rr; exact rr
      | o x => rw [q] at rr; exact rr
      | l c =>
        rw [q] at rr
        obtain ⟨p, h1, h2, h3, h4, h5⟩ := rr
        exact ⟨p, h1, h2, h3, fun j => af1.vis.dom p j h2, h5⟩
      | p xs d =>
        rw [q] at rr
        obtain ⟨t, p, v2, h1, ht, hr2, h2, h3, h4, h5⟩ := rr
        exact ⟨t, p, v2, h1, ht, hr2, h2, h3, fun j => af1.vis.dom p j h2, h5⟩
    exact rr'.base af1.back
/-- a call of a def with choices -/
theorem ce_callM {x : Str} {lvl : Nat} {ps : List Str} {sig : Sig} {f : Ar sig → m δ} {rk : δ → R} {p pos : Pos} {e : Expr} {es : List Expr} {y : m β} {k : δ → m β} (c : Cal X.prog X.w X.K X.mg X.base x lvl ps (spC X.K C.S sig f rk)) (hr : Room lvl X.A) (hgd : X.A.guards = some [])
    (ha : CA C X ρ (e :: es) y (fun rs => bnd (nox (callM sig f rs)) k)) (hl : (e :: es).length = sig.length := by rfl) (hg : Gl X x := by rfl) (hdb : (x == ("__debug__" : Str)) = false := by decide)
    (he : starEach (e :: es) X.env = (false, eval e X.env) :: starEach es X.env := by rfl) (hpl : (backTo pos (starEach es X.env)).any (·.1) = false := by rfl) : CE C X ρ (.Call (.Name x p) (e :: es) [] pos) rk y k := fun Qf => by
  refine PE.imp (pe_callG c hr hgd hg (ha Qf) hdb he hpl) fun σ H Q ⟨G, J, g, st, w, h⟩ => ⟨G, J, g, st, w, fun vs rs H1 G1 J1 g1 af1 si1 rrs hn w1 => ?_⟩
  refine ⟨G1, J1, g1, rs, af1.vis, si1, rrs.ras, by rw [hn, hl], ?_⟩
  exact PM.mono (PM.of_nox (PM.of_bnd w1)) fun d g' w2 v H' G' J' af si rr => h v d H' G' J' g' (af1.trans af) si (rr.base af1.back) w2
theorem ce_callP0 {x : Str} {lvl : Nat} {ps : List Str} {f : Ar [] → P δ} {rk : δ → R} {p pos : Pos} {k : δ → m β} (c : Cal X.prog X.w X.K X.mg X.base x lvl ps (spC X.K S0 [] f rk)) (hr : Room lvl X.A) (hgd : X.A.guards = some [])
    (hg : Gl X x := by rfl) (hEX : ∀ x g, C.EX x g → False := by exact fun _ _ h => h) (hdb : (x == ("__debug__" : Str)) = false := by decide) : CE C X ρ (.Call (.Name x p) [] [] pos) rk (bnd (lift (f ())) k) k := fun Qf => by
  refine PE.imp (pe_callG0 c hr hgd hg hdb) fun σ H Q ⟨G, J, g, st, w1, h⟩ => ?_
  refine ⟨G, fun _ => False, (), [], ⟨st.vis.sub, fun _ h => h.elim, fun _ h => h.elim⟩, fun _ h => h, .nil, rfl, ?_⟩
  have w2 := PM.of_lift (PM.of_bnd w1)
  show PM.wp (f ()) () _ _
  cases e1 : f () with
  | no => rw [e1] at w2; exact w2.elim
  | ex q => rw [e1] at w2; exact (hEX _ _ w2).elim
  | ok d =>
    rw [e1] at w2
    intro v H' G' J' af si rr
    have n : New G H G' H' := ⟨af.gg, fun a o h => af.hh a o (fun z => z) h, af.gn, af.vis.sub⟩
    refine h v d H' G' J g (n.aft st.vis) (SIx.nw st.si n) ?_ w2
    cases q : rk d with
    | v d => rw [q] at rr; exact rr
    | o x => rw [q] at rr; exact rr
    | l c =>
      rw [q] at rr
      obtain ⟨p, h1, h2, h3, h4, h5⟩ := rr
      exact ⟨p, h1, h2, h3, fun j => st.vis.dom p j h2, h5⟩
    | p xs d =>
      rw [q] at rr
      obtain ⟨t, p, v2, h1, ht, hr2, h2, h3, h4, h5⟩ := rr
      exact ⟨t, p, v2, h1, ht, hr2, h2, h3, fun j => st.vis.dom p j h2, h5⟩
end
end Cl

set_option Elab.async false
set_option linter.all false
set_option maxRecDepth 100000
set_option maxHeartbeats 4000000
/-! the clean layer, part H: operations -/
namespace Cl
open PySem PySem.Spec PyProof.Rows L2
open MO

/-! ### arithmetic and joining -/
def addF : D → D → Option D
  | .int a, .int b => some (.int (a + b))
  | .str a, .str b => if a.length + b.length ≤ sizeLine then some (.str (a ++ b)) else none
  | .tuple a, .tuple b => if a.length + b.length ≤ sizeLine then some (.tuple (a ++ b)) else none
  | .list a, .list b => if a.length + b.length ≤ sizeLine then some (.list (a ++ b)) else none
  | _, _ => none
def addL : D → D → Option (List D)
  | .list a, .list b => if a.length + b.length ≤ sizeLine then some (a ++ b) else none
  | _, _ => none
def rStrA : R2 := fun x y H Q => ∃ i j, x = .str i ∧ y = .str j ∧ i.length + j.length ≤ sizeLine ∧ Q (.str (i ++ j)) H
def rAddA (K : PySem.W.Frag) : R2 := fun x y H Q => (rI0 fun i j => .int (i + j)) x y H Q ∨ (rStrA x y H Q ∨ (rCatF K x y H Q ∨ rCat x y H Q))
section
variable {X : Cx}
theorem op_addA : OpR X (binaryOp .Add) (rAddA X.K) := op_add.or (op_add_str.or (op_catF.or op_cat))
end
theorem p2_add {K : PySem.W.Frag} : P2 K (rAddA K) addF (fun d => d) := fun H G v1 v2 d1 d2 d Q s r1 r2 e q => by
  cases r1 with
  | non => cases r2 <;> cases e
  | bl b => cases r2 <;> cases e
  | int i =>
    cases r2 with
    | int j =>
      cases e
      exact .inl ⟨i, j, rfl, rfl, q _ H G (New.refl s) (.int _)⟩
    | _ => cases e
  | str x =>
    cases r2 with
    | str y =>
      simp only [addF] at e
      split at e
      · rename_i h
        cases e
        exact .inr (.inl ⟨x, y, rfl, rfl, h, q _ H G (New.refl s) (.str _)⟩)
      · cases e
    | _ => cases e
  | @tup a vs ds h1 h2 =>
    cases r2 with
    | @tup b ws es h3 h4 =>
      simp only [addF] at e
      split at e
      · rename_i h
        cases e
        refine .inr (.inr (.inl ⟨a, b, vs, ws, rfl, rfl, s.seq h1, s.seq h3, by rw [h2.length, h4.length]; exact h, fun z => ?_, fun _ z => ?_, fun _ _ p ob hp oc od => ?_⟩))
        · subst z
          cases h2
          exact q _ H G (New.refl s) (.tup h3 h4)
        · subst z
          cases h4
          refine q _ H G (New.refl s) (.tup h1 ?_)
          rw [List.append_nil]; exact h2
        · exact q _ _ _ (New.laid s hp) (rp_newT oc od s hp (h2.append h4))
      · cases e
    | _ => cases e
  | @lst a vs ds h1 h2 =>
    cases r2 with
    | @lst b ws es h3 h4 =>
      simp only [addF] at e
      split at e
      · rename_i h
        cases e
        refine .inr (.inr (.inr ⟨a, b, vs, ws, rfl, rfl, s _ _ h1, s _ _ h3, by rw [h2.length, h4.length]; exact h, fun p hp => ?_⟩))
        exact q _ _ _ (New.laid s hp) (rp_new s hp (h2.append h4))
      · cases e
    | _ => cases e
  | dct h1 h2 => cases r2 <;> cases e
theorem p2_addL {K : PySem.W.Frag} : P2L K (rAddA K) addL := fun H G v1 v2 d1 d2 ds Q s r1 r2 e q => by
  cases r1 with
  | @lst a vs ds h1 h2 =>
    cases r2 with
    | @lst b ws es h3 h4 =>
      simp only [addL] at e
      split at e
      · rename_i h
        cases e
        refine .inr (.inr (.inr ⟨a, b, vs, ws, rfl, rfl, s _ _ h1, s _ _ h3, by rw [h2.length, h4.length]; exact h, fun p hp => ?_⟩))
        exact q p _ hp (h2.append h4)
      · cases e
    | _ => cases e
  | _ => cases e
def subF : D → D → Option D
  | .int a, .int b => some (.int (a - b))
  | _, _ => none
theorem p2_sub {K : PySem.W.Frag} : P2 K (rI0 fun i j => .int (i - j)) subF (fun d => d) := fun H G v1 v2 d1 d2 d Q s r1 r2 e q => by
  cases r1 with
  | int i =>
    cases r2 with
    | int j => cases e; exact ⟨i, j, rfl, rfl, q _ H G (New.refl s) (.int _)⟩
    | _ => cases e
  | _ => cases e
instance (i j : Int) : Decidable (CMul i j) := by unfold CMul; infer_instance
instance (i j : Int) : Decidable (CDiv i j) := by unfold CDiv; infer_instance
instance (i j : Int) : Decidable (CPow i j) := by unfold CPow; infer_instance
/-- a text, n times -/
def repS (a : Str) (n : Nat) : Str := ⟨(List.replicate n a.cps).foldl (· ++ ·) #[]⟩
def rRepS : R2 := fun x y H Q => ∃ a k, x = .str a ∧ y = .int k ∧ 1 ≤ a.length ∧ a.length ≤ 1000 ∧ 2 ≤ k ∧ k ≤ 10000 ∧ Q (.str (repS a k.toNat)) H
theorem rep_toList (c : Array Nat) : ∀ (n : Nat) (acc : Array Nat), ((List.replicate n c).foldl (· ++ ·) acc).toList = acc.toList ++ (List.replicate n c.toList).flatten
  | 0, acc => by simp
  | n + 1, acc => by
    rw [List.replicate_succ, List.foldl_cons, rep_toList c n, List.replicate_succ, List.flatten_cons, Array.toList_append, List.append_assoc]
theorem repS_tl (a : Str) (n : Nat) : (repS a n).cps.toList = (List.replicate n a.cps.toList).flatten := by
  show ((List.replicate n a.cps).foldl (· ++ ·) #[]).toList = _
  rw [rep_toList]
  rfl
theorem repS_len (a : Str) (n : Nat) : (repS a n).length = n * a.length := by
  rw [TL.len_tl, TL.len_tl a]
  show ((repS a n).cps.toList).length = _
  rw [repS_tl, List.length_flatten, List.map_replicate, List.sum_replicate_nat]
theorem op_repS {X : Cx} : OpR X (binaryOp .Mult) rRepS := by
  intro pins s σ H x y v u Q I rx ry h
  obtain ⟨a, k, rfl, rfl, h1, h2, h3, h4, q⟩ := h
  obtain ⟨t, rfl⟩ := rx
  obtain ⟨t2, rfl⟩ := ry
  have big := sizeLine_eq
  have hk : k.toNat ≤ 10000 := by omega
  have hm : a.length * k.toNat ≤ 1000 * 10000 := Nat.mul_le_mul h2 hk
  have c1 : (k == 1 || a.length == 0) = false := by
    rw [Bool.or_eq_false_iff, beq_eq_false_iff_ne, beq_eq_false_iff_ne]
    omega
  refine PySem.P.mul_str (by rw [Bool.or_eq_false_iff, decide_eq_false_iff_not, decide_eq_false_iff_not]; omega) (fun _ _ => ?_) (fun _ _ => ?_) ?_
  · have : (1000 : Int) ≤ (2 ^ 63 - 1) / k := by
      refine (Int.le_ediv_iff_mul_le (by omega)).mpr ?_
      have := Int.mul_le_mul_of_nonneg_left h4 (show (0 : Int) ≤ 1000 by decide)
      omega
    omega
  · show decide _ = false
    rw [decide_eq_false_iff_not]
    omega
  · rw [if_neg (by omega), if_neg (by rw [c1]; exact Bool.false_ne_true)]
    exact ⟨by
      have e := repS_len a k.toNat
      have : (repS a k.toNat).length ≤ sizeLine := by rw [e, Nat.mul_comm]; omega
      exact this, ⟨.str (repS a k.toNat), H, I.tok _, ⟨_, rfl⟩, q⟩⟩
def mulF : D → D → Option D
  | .int a, .int b => if CMul a b then some (.int (a * b)) else none
  | .list a, .int k => if -(2 ^ 63) ≤ k ∧ k < 2 ^ 63 ∧ a.length * k.toNat ≤ sizeLine then some (.list (List.replicate k.toNat a).flatten) else none
  | .tuple a, .int k => if a ≠ [] ∧ 2 ≤ k ∧ k ≤ 1000 ∧ a.length ≤ 1000 then some (.tuple (List.replicate k.toNat a).flatten) else none
  | .str a, .int k => if 1 ≤ a.length ∧ a.length ≤ 1000 ∧ 2 ≤ k ∧ k ≤ 10000 then some (.str (repS a k.toNat)) else none
  | _, _ => none
def rMulA (K : PySem.W.Frag) : R2 := fun x y H Q => (rI CMul fun i j => .int (i * j)) x y H Q ∨ (rRep x y H Q ∨ (rRepF K x y H Q ∨ rRepS x y H Q))
theorem op_mulA {X : Cx} : OpR X (binaryOp .Mult) (rMulA X.K) := op_mul.or (op_rep.or (op_repF.or op_repS))
theorem p2_mul {K : PySem.W.Frag} : P2 K (rMulA K) mulF (fun d => d) := fun H G v1 v2 d1 d2 d Q s r1 r2 e q => by
  cases r1 with
  | int i =>
    cases r2 with
    | int j =>
      simp only [mulF] at e
      split at e
      · rename_i h
        cases e; exact .inl ⟨i, j, rfl, rfl, h, q _ H G (New.refl s) (.int _)⟩
      · cases e
    | _ => cases e
  | @lst a vs ds h1 h2 =>
    cases r2 with
    | int k =>
      simp only [mulF] at e
      split at e
      · rename_i h
        cases e
        refine .inr (.inl ⟨a, k, vs, rfl, rfl, s _ _ h1, h.1, h.2.1, by rw [h2.length]; exact h.2.2, fun p hp => ?_⟩)
        exact q _ _ _ (New.laid s hp) (rp_new s hp h2.flatten)
      · cases e
    | _ => cases e
  | @tup a vs ds h1 h2 =>
    cases r2 with
    | int k =>
      simp only [mulF] at e
      split at e
      · rename_i h
        cases e
        refine .inr (.inr (.inl ⟨a, k, vs, rfl, rfl, s.seq h1, fun z => h.1 ?_, h.2.1, h.2.2.1, by rw [h2.length]; exact h.2.2.2, fun p ob hp oc od => ?_⟩))
        · subst z; cases h2; rfl
        · exact q _ _ _ (New.laid s hp) (rp_newT oc od s hp h2.flatten)
      · cases e
    | _ => cases e
  | str a =>
    cases r2 with
    | int k =>
      simp only [mulF] at e
      split at e
      · rename_i h
        cases e
        exact .inr (.inr (.inr ⟨a, k, rfl, rfl, h.1, h.2.1, h.2.2.1, h.2.2.2, q _ H G (New.refl s) (.str _)⟩))
      · cases e
    | _ => cases e
  | _ => cases e
def fdivF : D → D → Option D
  | .int a, .int b => if CDiv a b then some (.int (a / b)) else none
  | _, _ => none
theorem p2_fdiv {K : PySem.W.Frag} : P2 K (rI CDiv fun i j => .int (i / j)) fdivF (fun d => d) := fun H G v1 v2 d1 d2 d Q s r1 r2 e q => by
  cases r1 with
  | int i =>
    cases r2 with
    | int j =>
      simp only [fdivF] at e
      split at e
      · rename_i h
        cases e; exact ⟨i, j, rfl, rfl, h, q _ H G (New.refl s) (.int _)⟩
      · cases e
    | _ => cases e
  | _ => cases e
def modF : D → D → Option D
  | .int a, .int b => if 0 < b then some (.int (a % b)) else none
  | _, _ => none
theorem p2_mod {K : PySem.W.Frag} : P2 K (rI (fun _ j => 0 < j) fun i j => .int (i % j)) modF (fun d => d) := fun H G v1 v2 d1 d2 d Q s r1 r2 e q => by
  cases r1 with
  | int i =>
    cases r2 with
    | int j =>
      simp only [modF] at e
      split at e
      · rename_i h
        cases e; exact ⟨i, j, rfl, rfl, h, q _ H G (New.refl s) (.int _)⟩
      · cases e
    | _ => cases e
  | _ => cases e
def powF : D → D → Option D
  | .int a, .int b => if CPow a b then some (.int (a ^ b.toNat)) else none
  | _, _ => none
theorem p2_pow {K : PySem.W.Frag} : P2 K (rI CPow fun i j => .int (i ^ j.toNat)) powF (fun d => d) := fun H G v1 v2 d1 d2 d Q s r1 r2 e q => by
  cases r1 with
  | int i =>
    cases r2 with
    | int j =>
      simp only [powF] at e
      split at e
      · rename_i h
        cases e; exact ⟨i, j, rfl, rfl, h, q _ H G (New.refl s) (.int _)⟩
      · cases e
    | _ => cases e
  | _ => cases e
def negF : D → Option D
  | .int a => some (.int (-a))
  | _ => none
theorem p1_neg {K : PySem.W.Frag} : P1 K (rU fun i => .int (-i)) negF (fun d => d) := fun H G v1 d1 d Q s r1 e q => by
  cases r1 with
  | int i => cases e; exact ⟨i, rfl, q _ H G (New.refl s) (.int _)⟩
  | _ => cases e

/-! ### comparisons -/
mutual
theorem Rp.dp {K : PySem.W.Frag} {G H : Hp} (s : Sub G H) : ∀ {d : D} {v : V}, Rp K G v d → d.canLay0 = true → Dp K H v d
  | .none, _, h, _ => by cases h; exact .non
  | .bool _, _, h, _ => by cases h; exact .bl _
  | .int _, _, h, _ => by cases h; exact .int _
  | .str _, _, h, _ => by cases h; exact .str _
  | .list ds, _, h, l => by
    cases h with
    | lst h1 h2 => exact .lst (SqL.of (s _ _ h1)) (RpL.dp s h2 (by simpa [PyData.canLay0] using l))
  | .tuple ds, _, h, l => by
    cases h with
    | tup h1 h2 => exact .tup (s.seq h1) (RpL.dp s h2 (by simpa [PyData.canLay0] using l))
  | .dict ds, _, h, l => by simp [PyData.canLay0] at l
theorem RpL.dp {K : PySem.W.Frag} {G H : Hp} (s : Sub G H) : ∀ {ds : List D} {vs : List V}, RpL K G vs ds → PyData.canLayAll0 ds = true → DpAll K H vs ds
  | [], _, h, _ => by cases h; exact .nil
  | d :: ds, _, h, l => by
    rw [PyData.canLayAll0, Bool.and_eq_true] at l
    cases h with
    | cons h1 h2 => exact .cons (Rp.dp s h1 l.1) (RpL.dp s h2 l.2)
end
def eqF (a b : D) : Option Bool := match a, b with
  | .str x, .str y => some (decide (x = y))
  | a, b => if SeqAt.shaped a = true ∧ SeqAt.shaped b = true then some (PyData.eqv a b) else none
def neF (a b : D) : Option Bool := (eqF a b).map (!·)
def rEqA (K : PySem.W.Frag) : R2 := fun x y H Q => rEq x y H Q ∨ rEqD K x y H Q
def rNeA (K : PySem.W.Frag) : R2 := fun x y H Q => rNe x y H Q ∨ rNeD K x y H Q
section
variable {X : Cx}
theorem op_eqA (hu : X.A.units + 64 < cLine) : OpR X (compareOp .Eq) (rEqA X.K) := op_eq.or (op_eqD hu)
theorem op_neA (hu : X.A.units + 64 < cLine) : OpR X (compareOp .NotEq) (rNeA X.K) := op_ne.or (op_neD hu)
end
theorem eqF_cases {a b : D} {t : Bool} (h : eqF a b = some t) : (∃ x y, a = .str x ∧ b = .str y ∧ t = decide (x = y)) ∨ (SeqAt.shaped a = true ∧ SeqAt.shaped b = true ∧ t = PyData.eqv a b) := by
  unfold eqF at h
  split at h
  · cases h; exact .inl ⟨_, _, rfl, rfl, rfl⟩
  · split at h
    · rename_i q
      cases h; exact .inr ⟨q.1, q.2, rfl⟩
    · cases h
theorem p2_eq {K : PySem.W.Frag} : P2 K (rEqA K) eqF PyData.bool := fun H G v1 v2 d1 d2 d Q s r1 r2 e q => by
  rcases eqF_cases e with ⟨x, y, rfl, rfl, rfl⟩ | ⟨h1, h2, rfl⟩
  · cases r1; cases r2
    refine .inl ⟨rfl, ?_⟩
    have : decide (V.str x = V.str y) = decide (x = y) := by simp
    rw [this]
    exact q _ H G (New.refl s) (.bl _)
  · exact .inr ⟨d1, d2, r1.dp s (SeqAt.canLay_of_shaped h1), r2.dp s (SeqAt.canLay_of_shaped h2), h1, h2, q _ H G (New.refl s) (.bl _)⟩
theorem p2_ne {K : PySem.W.Frag} : P2 K (rNeA K) neF PyData.bool := fun H G v1 v2 d1 d2 d Q s r1 r2 e q => by
  unfold neF at e
  cases e1 : eqF d1 d2 with
  | none => rw [e1] at e; cases e
  | some t =>
    rw [e1] at e
    cases e
    rcases eqF_cases e1 with ⟨x, y, rfl, rfl, rfl⟩ | ⟨h1, h2, rfl⟩
    · cases r1; cases r2
      refine .inl ⟨rfl, ?_⟩
      have : decide (V.str x = V.str y) = decide (x = y) := by simp
      rw [this]
      exact q _ H G (New.refl s) (.bl _)
    · exact .inr ⟨d1, d2, r1.dp s (SeqAt.canLay_of_shaped h1), r2.dp s (SeqAt.canLay_of_shaped h2), h1, h2, q _ H G (New.refl s) (.bl _)⟩
def cmpI (p : Int → Int → Bool) : D → D → Option Bool
  | .int a, .int b => some (p a b)
  | _, _ => none
theorem p2_cmpI {K : PySem.W.Frag} (p : Int → Int → Bool) : P2 K (rI0 fun i j => .bl (p i j)) (cmpI p) PyData.bool := fun H G v1 v2 d1 d2 d Q s r1 r2 e q => by
  cases r1 with
  | int i =>
    cases r2 with
    | int j => cases e; exact ⟨i, j, rfl, rfl, q _ H G (New.refl s) (.bl _)⟩
    | _ => cases e
  | _ => cases e
abbrev ltF := cmpI fun i j => decide (i < j)
abbrev leF := cmpI fun i j => decide (i ≤ j)
abbrev gtF := cmpI fun i j => decide (j < i)
abbrev geF := cmpI fun i j => decide (j ≤ i)
/-- x in a list or tuple -/
def sc : D → Bool
  | .none | .bool _ | .int _ | .str _ => true
  | _ => false
/-- == of simple data -/
def eqS : D → D → Bool
  | .none, .none => true
  | .bool a, .bool b => a == b
  | .bool a, .int j => (if a then 1 else 0) == j
  | .int i, .bool b => i == (if b then 1 else 0)
  | .int i, .int j => i == j
  | .str x, .str y => x == y
  | _, _ => false
def inF (x : D) : D → Option Bool
  | .list ds => if sc x && ds.all sc then some (ds.any fun y => eqS y x) else if SeqAt.shaped x = true ∧ SeqAt.shaped (.list ds) = true then some (ds.any fun z => PyData.eqv z x) else none
  | .tuple ds => if sc x && ds.all sc then some (ds.any fun y => eqS y x) else none
  | _ => none
def ninF (x y : D) : Option Bool := (inF x y).map (!·)
theorem sc_flat {K : PySem.W.Frag} {G : Hp} {v : V} {d : D} (r : Rp K G v d) (h : sc d = true) : flatV v = true := by
  cases r <;> first | rfl | cases h
theorem sc_eq {K : PySem.W.Frag} {G : Hp} {v u : V} {d e : D} (r : Rp K G v d) (r' : Rp K G u e) (h : sc d = true) (h' : sc e = true) : eqV v u = eqS d e := by
  cases r <;> cases r' <;> first | rfl | (exact absurd h (by simp [sc])) | (exact absurd h' (by simp [sc]))
theorem sc_all {K : PySem.W.Frag} {G : Hp} : ∀ {vs : List V} {ds : List D}, RpL K G vs ds → ds.all sc = true → vs.all flatV = true
  | _, _, .nil, _ => rfl
  | _, _, .cons r t, h => by
    rw [List.all_cons, Bool.and_eq_true] at h ⊢
    exact ⟨sc_flat r h.1, sc_all t h.2⟩
theorem sc_any {K : PySem.W.Frag} {G : Hp} {v : V} {d : D} (r : Rp K G v d) (h : sc d = true) : ∀ {vs : List V} {ds : List D}, RpL K G vs ds → ds.all sc = true → inV v vs = ds.any fun y => eqS y d
  | _, _, .nil, _ => rfl
  | _, _, .cons r' t, h' => by
    rw [List.all_cons, Bool.and_eq_true] at h'
    have ih := sc_any r h t h'.2
    unfold inV at ih ⊢
    rw [List.any_cons, List.any_cons, sc_eq r' r h'.1 h, ih]
def rInA (K : PySem.W.Frag) : R2 := fun x y H Q => rIn K false x y H Q ∨ rInD K x y H Q
def rNinA (K : PySem.W.Frag) : R2 := fun x y H Q => rIn K true x y H Q ∨ rNotInD K x y H Q
section
variable {X : Cx}
theorem op_inA (hu : X.A.units + 65 < cLine) : OpR X (compareOp .In) (rInA X.K) := op_in_seq.or (op_inD hu)
theorem op_ninA (hu : X.A.units + 65 < cLine) : OpR X (compareOp .NotIn) (rNinA X.K) := op_notIn_seq.or (op_notInD hu)
end
theorem p2_in_aux {K : PySem.W.Frag} {neg : Bool} {H G : Hp} {v1 v2 : V} {d1 d2 : D} {b : Bool} {Q : VK} (s : Sub G H) (r1 : Rp K G v1 d1) (r2 : Rp K G v2 d2) (e : inF d1 d2 = some b) (q : Q (.bl (if neg then !b else b)) H) :
    rIn K neg v1 v2 H Q ∨ (∃ d ds, Dp K H v1 d ∧ Dp K H v2 (.list ds) ∧ SeqAt.shaped d = true ∧ SeqAt.shaped (.list ds) = true ∧ Q (.bl (if neg then !(ds.any fun z => PyData.eqv z d) else (ds.any fun z => PyData.eqv z d))) H) := by
  cases r2 with
  | @lst a vs ds h1 h2 =>
    simp only [inF] at e
    split at e
    · rename_i h
      rw [Bool.and_eq_true] at h
      cases e
      refine .inl ⟨a, vs, rfl, .inl (SqL.of (s _ _ h1)), sc_flat r1 h.1, sc_all h2 h.2, ?_⟩
      rw [sc_any r1 h.1 h2 h.2]; exact q
    · split at e
      · rename_i h
        cases e
        exact .inr ⟨d1, ds, r1.dp s (SeqAt.canLay_of_shaped h.1), Rp.dp s (.lst h1 h2) (SeqAt.canLay_of_shaped h.2), h.1, h.2, q⟩
      · cases e
  | @tup a vs ds h1 h2 =>
    simp only [inF] at e
    split at e
    · rename_i h
      rw [Bool.and_eq_true] at h
      cases e
      refine .inl ⟨a, vs, rfl, .inr (s.seq h1), sc_flat r1 h.1, sc_all h2 h.2, ?_⟩
      rw [sc_any r1 h.1 h2 h.2]; exact q
    · cases e
  | _ => cases e
theorem p2_in {K : PySem.W.Frag} : P2 K (rInA K) inF PyData.bool := fun H G v1 v2 d1 d2 d Q s r1 r2 e q => by
  rcases p2_in_aux (neg := false) (Q := Q) s r1 r2 e (q _ H G (New.refl s) (.bl _)) with h | ⟨d, ds, a1, a2, a3, a4, a5⟩
  · exact .inl h
  · exact .inr ⟨d, ds, a1, a2, a3, a4, a5⟩
theorem p2_nin {K : PySem.W.Frag} : P2 K (rNinA K) ninF PyData.bool := fun H G v1 v2 d1 d2 d Q s r1 r2 e q => by
  unfold ninF at e
  cases e1 : inF d1 d2 with
  | none => rw [e1] at e; cases e
  | some t =>
    rw [e1] at e
    cases e
    rcases p2_in_aux (neg := true) (Q := Q) s r1 r2 e1 (q _ H G (New.refl s) (.bl _)) with h | ⟨d, ds, a1, a2, a3, a4, a5⟩
    · exact .inl h
    · exact .inr ⟨d, ds, a1, a2, a3, a4, a5⟩
/-- is None -/
def isN : D → Bool
  | .none => true
  | _ => false
theorem rp_isN {K : PySem.W.Frag} {G : Hp} {v : V} {d : D} (r : Rp K G v d) : decide (v = .non) = isN d := by
  cases r <;> rfl
def isNF : D → D → Option Bool
  | d, .none => some (isN d)
  | _, _ => none
def notNF : D → D → Option Bool
  | d, .none => some (!isN d)
  | _, _ => none
theorem p2_isN {K : PySem.W.Frag} : P2 K (fun x y H Q => y = .non ∧ Q (.bl (decide (x = .non))) H) isNF PyData.bool := fun H G v1 v2 d1 d2 d Q s r1 r2 e q => by
  cases r2 with
  | non =>
    cases e
    exact ⟨rfl, by rw [rp_isN r1]; exact q _ H G (New.refl s) (.bl _)⟩
  | _ => cases e
theorem p2_notN {K : PySem.W.Frag} : P2 K (fun x y H Q => y = .non ∧ Q (.bl (!decide (x = .non))) H) notNF PyData.bool := fun H G v1 v2 d1 d2 d Q s r1 r2 e q => by
  cases r2 with
  | non =>
    cases e
    exact ⟨rfl, by rw [rp_isN r1]; exact q _ H G (New.refl s) (.bl _)⟩
  | _ => cases e
end Cl

set_option Elab.async false
set_option linter.all false
set_option maxRecDepth 100000
set_option maxHeartbeats 4000000
/-! the clean layer, part I: items, slices, built-in calls, methods -/
namespace Cl
open PySem PySem.Spec PyProof.Rows L2
open MO

/-! ### items -/
def eqK : D → D → Bool
  | .int a, .int b => decide (a = b)
  | .str a, .str b => decide (a = b)
  | _, _ => false
def keyOf : D → Option Key
  | .int a => some (.inl a)
  | .str a => some (.inr a)
  | _ => none
def getD : List (D × D) → D → Option D
  | [], _ => none
  | (k, v) :: r, y => if eqK k y = true then some v else getD r y
theorem kD_eq (k k' : Key) : eqK (kD k) (kD k') = decide (k = k') := by
  cases k <;> cases k' <;> simp [kD, eqK]
theorem rpk_get {K : PySem.W.Frag} {G : Hp} {k : Key} : ∀ {kvs : List (Key × V)} {ds : List (D × D)}, RpK K G kvs ds → (∀ d, getD ds (kD k) = some d → ∃ v, valV kvs k = some v ∧ Rp K G v d) ∧ (getD ds (kD k) = none → valV kvs k = none)
  | _, _, .nil => ⟨fun d h => (by cases h), fun _ => rfl⟩
  | _, _, .cons (k := k') r t => by
    obtain ⟨h1, h2⟩ := rpk_get (k := k) t
    unfold getD valV
    rw [kD_eq, List.find?_cons]
    by_cases e : k' = k
    · subst e
      rw [decide_eq_true rfl]
      simp only [if_true, decide_true]
      exact ⟨fun d h => (by cases h; exact ⟨_, rfl, r⟩), fun h => (by cases h)⟩
    · rw [decide_eq_false e]
      simp only [Bool.false_eq_true, if_false, decide_eq_false e]
      exact ⟨h1, h2⟩
theorem key_rp {K : PySem.W.Frag} {G : Hp} {v : V} {d : D} {k : Key} (r : Rp K G v d) (h : keyOf d = some k) : v = kV k ∧ d = kD k := by
  cases r <;> first | (have h' := Option.some.inj h; subst h'; exact ⟨rfl, rfl⟩) | (exact absurd h (by simp [keyOf]))
def ixF : D → D → Option D
  | .list xs, .int i => atI xs i
  | .tuple xs, .int i => atI xs i
  | .str z, .int i => if z.length ≤ sizeLine then (atI z.cps.toList i).map fun c => .str ⟨#[c]⟩ else none
  | .dict kvs, y => match keyOf y with
    | some _ => getD kvs y
    | none => none
  | _, _ => none
def rIxD : R2 := fun x y H Q => ∃ a v, x = .ref a ∧ DGet H a y (some v) ∧ Q v H
theorem ix_dict {X : Cx} (hu : X.A.units + 1 < cLine) : IxR X rIxD := by
  intro value slice pins s σ H x y v u Q I rx ry h hs
  obtain ⟨a, z, rfl, g, q⟩ := h
  cases rx
  exact tail_any (dict_typeIs I g) PySem.F.slot_dict_getitem.lookup (d_getItem hu I g ry fun w' s' I' r' => ⟨z, H, I', r', q⟩) hs
def rIxA (K : PySem.W.Frag) : R2 := fun x y H Q => rIx K x y H Q ∨ rIxD x y H Q
theorem ix_all {X : Cx} (hu : X.A.units + 1 < cLine) : IxR X (rIxA X.K) := ix_seq.or (ix_dict hu)
theorem atI_rp {K : PySem.W.Frag} {G : Hp} {vs : List V} {ds : List D} {i : Int} {d : D} (r : RpL K G vs ds) (h : atI ds i = some d) : ∃ v, atI vs i = some v ∧ Rp K G v d := by
  unfold atI at h ⊢
  rw [r.length]
  cases e : ixN ds.length i with
  | none => rw [e] at h; cases h
  | some j =>
    rw [e] at h
    exact r.get h
theorem p2_ix {K : PySem.W.Frag} : P2 K (rIxA K) ixF (fun d => d) := fun H G v1 v2 d1 d2 d Q s r1 r2 e q => by
  cases r1 with
  | @lst a vs ds h1 h2 =>
    cases r2 with
    | int i =>
      obtain ⟨v, e1, e2⟩ := atI_rp h2 (show atI ds i = some d from e)
      exact .inl (.inl ⟨a, vs, i, v, rfl, rfl, SqL.of (s _ _ h1), e1, q v H G (New.refl s) e2⟩)
    | _ => cases e
  | @tup a vs ds h1 h2 =>
    cases r2 with
    | int i =>
      obtain ⟨v, e1, e2⟩ := atI_rp h2 (show atI ds i = some d from e)
      exact .inl (.inr (.inl ⟨a, vs, i, v, rfl, rfl, s.seq h1, e1, q v H G (New.refl s) e2⟩))
    | _ => cases e
  | str z =>
    cases r2 with
    | int i =>
      simp only [ixF] at e
      split at e
      · rename_i hz
        obtain ⟨c, e1, rfl⟩ := Option.map_eq_some_iff.mp e
        exact .inl (.inr (.inr ⟨z, i, c, rfl, rfl, hz, e1, q _ H G (New.refl s) (.str _)⟩))
      · cases e
    | _ => cases e
  | @dct a kvs ds h1 h2 =>
    have e' : (match keyOf d2 with | some _ => getD ds d2 | none => none) = some d := e
    cases hk : keyOf d2 with
    | none => rw [hk] at e'; cases e'
    | some k =>
      rw [hk] at e'
      obtain ⟨rfl, rfl⟩ := key_rp r2 hk
      obtain ⟨v, h3, h4⟩ := (rpk_get (k := k) h2).1 d e'
      refine .inr ⟨a, v, rfl, ?_, q v H G (New.refl s) h4⟩
      rw [← h3]
      exact DGet.k (s _ _ h1)
  | _ => cases e
section
variable {γ : Type} {m : Type → Type} [PM γ m] {C : Cc γ} {X : Cx} {ρ : En} {α β : Type}
theorem ce_ix {a b : Expr} {pos : Pos} {x : m β} {x2 : D → m β} {k : D → m β} (hu : X.A.units + 1 < cLine) (hb : ∀ d1, CE C X ρ b dv (x2 d1) (fun d2 => bnd (need (ixF d1 d2)) k)) (ha : CE C X ρ a dv x x2) (hs : PlainIx b := by intro _ _; rfl) :
    CE C X ρ (.Subscript a b pos) dv x k := fun Qf =>
  PE.imp (pe_ix (ix_all hu) (ha Qf) (PE.ex fun d1 => hb d1 Qf) hs) fun σ H Q ⟨G, J, g, st, w, h⟩ => by
    refine ⟨G, J, g, st, w, fun v1 d1 H1 G1 J1 g1 af1 si1 r1 w1 => ⟨d1, G1, J1, g1, st.go af1 si1, w1, fun v2 d2 H2 G2 J2 g2 af2 si2 r2 w2 => ?_⟩⟩
    obtain ⟨d, e, w3⟩ := of_need w2
    exact p2_ix H2 G2 v1 v2 d1 d2 d Q af2.vis.sub (Rp.sub af2.gg r1) r2 e fun v H' G' n rr => h v d H' G' J2 g2 ((af1.trans af2).trans (n.aft af2.vis)) (SIx.nw si2 n) rr w3

/-! ### slices -/
def asI : D → Option Int
  | .int i => some i
  | _ => none
def CO {β : Type} (C : Cc γ) (X : Cx) (ρ : En) (e : Option Expr) (x : m β) (k : Option Int → m β) : Prop :=
  ∀ Qf : β → γ → Prop, PO X e (fun σ H Q => ∃ G J g, C.St X.K ρ σ H G J g ∧ PM.wp x g Qf C.EX ∧
    ∀ i H' G' J' g', Aft G J H G' J' H' → C.S.si g' G' J' H' → PM.wp (k i) g' Qf C.EX → Q i H')
theorem PO.imp {X : Cx} {e : Option Expr} {t t' : TO} (h : PO X e t) (i : ∀ σ H Q, t' σ H Q → t σ H Q) : PO X e t' := ⟨fun pins s σ H Q I q => h.run pins s σ H Q I (i σ H Q q)⟩
theorem PO.ex {X : Cx} {e : Option Expr} {ι : Type} {t : ι → TO} (h : ∀ i, PO X e (t i)) : PO X e (fun σ H Q => ∃ i, t i σ H Q) := ⟨fun pins s σ H Q I ⟨i, q⟩ => (h i).run pins s σ H Q I q⟩
theorem co_none {k : Option Int → m β} : CO C X ρ none (k none) k := fun Qf => PO.imp po_none fun σ H Q ⟨G, J, g, st, w, h⟩ => h none H G J g (Aft.refl st.vis) st.si w
theorem co_some {e : Expr} {x : m β} {k : Option Int → m β} (he : CE C X ρ e dv x (fun d => bnd (need (asI d)) fun i => k (some i))) : CO C X ρ (some e) x k := fun Qf =>
  PO.imp (po_some (he Qf)) fun σ H Q ⟨G, J, g, st, w, h⟩ => ⟨G, J, g, st, w, fun v d H' G' J' g' af si rr w' => by
    obtain ⟨i, e, w2⟩ := of_need w'
    cases rr with
    | int _ => cases e; exact ⟨_, rfl, h _ H' G' J' g' af si w2⟩
    | _ => cases e⟩
def cutD (xs : List D) (lo hi : Option Int) : List D := (xs.drop (HT.sIx xs.length 0 lo)).take (HT.sIx xs.length xs.length hi - HT.sIx xs.length 0 lo)
def slF (d : D) (lo hi : Option Int) : Option D := match d with
  | .list xs => some (.list (cutD xs lo hi))
  | .tuple xs => some (.tuple (cutD xs lo hi))
  | .str z => if z.length ≤ sizeLine then some (.str (cutS z lo hi)) else none
  | _ => none
def rSlAll (K : PySem.W.Frag) : V → Option Int → Option Int → Hp → VK → Prop := fun x lo hi H Q => rSlL K x lo hi H Q ∨ (rSlF0 K x lo hi H Q ∨ rSlS x lo hi H Q)
theorem sl_all : SlR X (rSlAll X.K) := sl_list.or (sl_tupF0.or sl_str)
theorem cut_rp {K : PySem.W.Frag} {G : Hp} {vs : List V} {ds : List D} {lo hi : Option Int} (r : RpL K G vs ds) : RpL K G (cutV vs lo hi) (cutD ds lo hi) := by
  unfold cutV cutD
  rw [r.length]
  exact (r.drop _).take _
theorem cut_whole {xs : List D} {lo hi : Option Int} (h : HT.sIx xs.length 0 lo = 0 ∧ HT.sIx xs.length xs.length hi = xs.length) : cutD xs lo hi = xs := by
  unfold cutD
  rw [h.1, h.2, Nat.sub_zero, List.drop_zero, List.take_length]
theorem sl_rp {K : PySem.W.Frag} {H G : Hp} {v : V} {d d' : D} {lo hi : Option Int} {Q : VK} (s : Sub G H) (r : Rp K G v d) (e : slF d lo hi = some d') (q : ∀ v H' G', New G H G' H' → Rp K G' v d' → Q v H') : rSlAll K v lo hi H Q := by
  cases r with
  | @lst a vs ds h1 h2 =>
    cases e
    exact .inl ⟨a, vs, rfl, SqL.of (s _ _ h1), fun p hp => q _ _ _ (New.laid s hp) (rp_new s hp (cut_rp h2))⟩
  | @tup a vs ds h1 h2 =>
    cases e
    refine .inr (.inl ⟨a, vs, rfl, s.seq h1, fun z => ?_, fun _ p ob hp oc od => q _ _ _ (New.laid s hp) (rp_newT oc od s hp (cut_rp h2))⟩)
    rw [h2.length] at z
    refine q _ H G (New.refl s) ?_
    rw [cut_whole z]
    exact .tup h1 h2
  | str z =>
    simp only [slF] at e
    split at e
    · rename_i hz
      cases e
      exact .inr (.inr ⟨z, rfl, hz, q _ H G (New.refl s) (.str _)⟩)
    · cases e
  | _ => cases e
theorem ce_slice {e : Expr} {lo hi : Option Expr} {p2 pos : Pos} {x : m β} {x1 : D → m β} {x2 : D → Option Int → m β} {k : D → m β} (hh : ∀ d l, CO C X ρ hi (x2 d l) (fun u => bnd (need (slF d l u)) k)) (hl : ∀ d, CO C X ρ lo (x1 d) (x2 d)) (he : CE C X ρ e dv x x1) :
    CE C X ρ (.Subscript e (.Slice lo hi none p2) pos) dv x k := fun Qf =>
  PE.imp (pe_slice sl_all (he Qf) (PO.ex fun d => hl d Qf) (PO.ex fun d => PO.ex fun l => hh d l Qf)) fun σ H Q ⟨G, J, g, st, w, h⟩ => ⟨G, J, g, st, w, fun v d H1 G1 J1 g1 af1 si1 rr w1 =>
    ⟨d, G1, J1, g1, st.go af1 si1, w1, fun l H2 G2 J2 g2 af2 si2 w2 => ⟨d, l, G2, J2, g2, (st.go af1 si1).go af2 si2, w2, fun u H3 G3 J3 g3 af3 si3 w3 => by
      obtain ⟨d', e1, w4⟩ := of_need w3
      have af := (af1.trans af2).trans af3
      exact sl_rp af3.vis.sub (Rp.sub (af2.trans af3).gg rr) e1 fun v' H' G' n r' => h v' d' H' G' J3 g3 (af.trans (n.aft af3.vis)) (SIx.nw si3 n) r' w4⟩⟩⟩

/-! ### built-in calls -/
def PC (K : PySem.W.Frag) (r : List V → Hp → VK → Prop) (p : List D → Option α) (rk : α → D) : Prop := ∀ (H G : Hp) (vs : List V) (ds : List D) (d : α) (Q : VK), Sub G H → RpL K G vs ds → p ds = some d →
  (∀ v H' G', New G H G' H' → Rp K G' v (rk d) → Q v H') → r vs H Q
def PCL (K : PySem.W.Frag) (r : List V → Hp → VK → Prop) (p : List D → Option (List D)) : Prop := ∀ (H G : Hp) (vs : List V) (ds xs : List D) (Q : VK), Sub G H → RpL K G vs ds → p ds = some xs →
  (∀ q us, H q = none → RpL K G us xs → Q (.ref q) (upd H q (.lst us))) → r vs H Q
theorem PCL.to {K : PySem.W.Frag} {r : List V → Hp → VK → Prop} {p : List D → Option (List D)} (h : PCL K r p) : PC K r p PyData.list := fun H G vs ds d Q s rl e hq =>
  h H G vs ds d Q s rl e fun q vs hn rl => hq _ _ _ (New.laid s hn) (rp_new s hn rl)
theorem ce_blt {id : String} {r : List V → Hp → VK → Prop} {p : List D → Option α} {rk : α → D} {f : Str} {p1 pos : Pos} {e : Expr} {es : List Expr} {x : m β} {k : α → m β} (hc : CallR X (.builtin id) r) (hp : PC X.K r p rk) (hm : X.mg f = none) (hv : bootBuiltins f = some (.builtin id))
    (ha : CD C X ρ (e :: es) x (fun ds => bnd (need (p ds)) k)) (hg : Gl X f := by rfl) (hn : f ≠ "__name__" := by decide) (hdb : (f == ("__debug__" : Str)) = false := by decide)
    (he : starEach (e :: es) X.env = (false, eval e X.env) :: starEach es X.env := by rfl) (hpl : (backTo pos (starEach es X.env)).any (·.1) = false := by rfl) : CE C X ρ (.Call (.Name f p1) (e :: es) [] pos) (fun a => .v (rk a)) x k := fun Qf =>
  PE.imp (pe_callB hc hg hm hv (ha Qf) hn hdb he hpl) fun σ H Q ⟨G, J, g, st, w, h⟩ => ⟨G, J, g, st, w, fun vs ds H1 G1 J1 g1 af1 si1 rl hl w1 => by
    obtain ⟨d, e1, w2⟩ := of_need w1
    exact hp H1 G1 vs ds d Q af1.vis.sub rl e1 fun v H' G' n rr => h v d H' G' J1 g1 (af1.trans (n.aft af1.vis)) (SIx.nw si1 n) rr w2⟩
theorem ce_bltL {id : String} {r : List V → Hp → VK → Prop} {p : List D → Option (List D)} {f : Str} {p1 pos : Pos} {e : Expr} {es : List Expr} {x : m β} {k : List D → m β} (hc : CallR X (.builtin id) r) (hp : PCL X.K r p) (hm : X.mg f = none) (hv : bootBuiltins f = some (.builtin id))
    (ha : CD C X ρ (e :: es) x (fun ds => bnd (need (p ds)) k)) (hg : Gl X f := by rfl) (hn : f ≠ "__name__" := by decide) (hdb : (f == ("__debug__" : Str)) = false := by decide)
    (he : starEach (e :: es) X.env = (false, eval e X.env) :: starEach es X.env := by rfl) (hpl : (backTo pos (starEach es X.env)).any (·.1) = false := by rfl) : CE C X ρ (.Call (.Name f p1) (e :: es) [] pos) lv x k := fun Qf =>
  PE.imp (pe_callB hc hg hm hv (ha Qf) hn hdb he hpl) fun σ H Q ⟨G, J, g, st, w, h⟩ => ⟨G, J, g, st, w, fun vs ds H1 G1 J1 g1 af1 si1 rl hl w1 => by
    obtain ⟨d, e1, w2⟩ := of_need w1
    refine hp H1 G1 vs ds d Q af1.vis.sub rl e1 fun q us hq rl' => ?_
    have n : New G1 H1 G1 (upd H1 q (.lst us)) := New.own af1.vis.sub hq
    exact h _ d _ G1 J1 g1 (af1.trans (n.aft af1.vis)) (SIx.nw si1 n) ⟨q, rfl, af1.back q hq, none_of_sub af1.vis.sub hq, fun j => af1.vis.dom q j hq, us, upd_same, rl'⟩ w2⟩
theorem ce_ty {T : String} {r : List V → Hp → VK → Prop} {p : List D → Option α} {rk : α → D} {f : Str} {p1 pos : Pos} {e : Expr} {es : List Expr} {x : m β} {k : α → m β} (hc : CallR X (.type T) r) (hp : PC X.K r p rk) (hm : X.mg f = none) (hv : bootBuiltins f = some (.type T))
    (ha : CD C X ρ (e :: es) x (fun ds => bnd (need (p ds)) k)) (hg : Gl X f := by rfl) (hn : f ≠ "__name__" := by decide) (hdb : (f == ("__debug__" : Str)) = false := by decide)
    (he : starEach (e :: es) X.env = (false, eval e X.env) :: starEach es X.env := by rfl) (hpl : (backTo pos (starEach es X.env)).any (·.1) = false := by rfl) : CE C X ρ (.Call (.Name f p1) (e :: es) [] pos) (fun a => .v (rk a)) x k := fun Qf =>
  PE.imp (pe_callTy hc hg hm hv (ha Qf) hn hdb he hpl) fun σ H Q ⟨G, J, g, st, w, h⟩ => ⟨G, J, g, st, w, fun vs ds H1 G1 J1 g1 af1 si1 rl hl w1 => by
    obtain ⟨d, e1, w2⟩ := of_need w1
    exact hp H1 G1 vs ds d Q af1.vis.sub rl e1 fun v H' G' n rr => h v d H' G' J1 g1 (af1.trans (n.aft af1.vis)) (SIx.nw si1 n) rr w2⟩
theorem ce_tyL {T : String} {r : List V → Hp → VK → Prop} {p : List D → Option (List D)} {f : Str} {p1 pos : Pos} {e : Expr} {es : List Expr} {x : m β} {k : List D → m β} (hc : CallR X (.type T) r) (hp : PCL X.K r p) (hm : X.mg f = none) (hv : bootBuiltins f = some (.type T))
    (ha : CD C X ρ (e :: es) x (fun ds => bnd (need (p ds)) k)) (hg : Gl X f := by rfl) (hn : f ≠ "__name__" := by decide) (hdb : (f == ("__debug__" : Str)) = false := by decide)
    (he : starEach (e :: es) X.env = (false, eval e X.env) :: starEach es X.env := by rfl) (hpl : (backTo pos (starEach es X.env)).any (·.1) = false := by rfl) : CE C X ρ (.Call (.Name f p1) (e :: es) [] pos) lv x k := fun Qf =>
  PE.imp (pe_callTy hc hg hm hv (ha Qf) hn hdb he hpl) fun σ H Q ⟨G, J, g, st, w, h⟩ => ⟨G, J, g, st, w, fun vs ds H1 G1 J1 g1 af1 si1 rl hl w1 => by
    obtain ⟨d, e1, w2⟩ := of_need w1
    refine hp H1 G1 vs ds d Q af1.vis.sub rl e1 fun q us hq rl' => ?_
    have n : New G1 H1 G1 (upd H1 q (.lst us)) := New.own af1.vis.sub hq
    exact h _ d _ G1 J1 g1 (af1.trans (n.aft af1.vis)) (SIx.nw si1 n) ⟨q, rfl, af1.back q hq, none_of_sub af1.vis.sub hq, fun j => af1.vis.dom q j hq, us, upd_same, rl'⟩ w2⟩
end
def lenF : List D → Option Int
  | [.str s] => if s.length ≤ sizeLine then some (s.length : Nat) else none
  | [.list xs] => some (xs.length : Nat)
  | [.tuple xs] => some (xs.length : Nat)
  | _ => none
theorem pc_len {K : PySem.W.Frag} : PC K (fun xs H Q => ∃ x n, xs = [x] ∧ LenV K x H n ∧ Q (.int n) H) lenF PyData.int := fun H G vs ds d Q s rl e q => by
  cases rl with
  | nil => cases e
  | @cons v vs d1 ds r1 r2 =>
    cases r2 with
    | cons _ _ => cases d1 <;> cases e
    | nil =>
      cases r1 with
      | str z =>
        simp only [lenF] at e
        split at e
        · rename_i hz
          cases e
          exact ⟨_, z.length, rfl, ⟨hz, rfl⟩, q _ H G (New.refl s) (.int _)⟩
        · cases e
      | @lst a us xs h1 h2 =>
        cases e
        exact ⟨_, us.length, rfl, .inl ⟨us, SqL.of (s _ _ h1), rfl⟩, by rw [h2.length]; exact q _ H G (New.refl s) (.int _)⟩
      | @tup a us xs h1 h2 =>
        cases e
        exact ⟨_, us.length, rfl, .inr ⟨us, s.seq h1, rfl⟩, by rw [h2.length]; exact q _ H G (New.refl s) (.int _)⟩
      | _ => cases e
def itemsF : List D → Option (List D)
  | [.list xs] => some xs
  | [.tuple xs] => some xs
  | _ => none
theorem pcl_list {K : PySem.W.Frag} : PCL K (fun xs H Q => ∃ p ys, xs = [.ref p] ∧ (SqL K H p ys ∨ SqT K H p ys) ∧ ∀ l, H l = none → Q (.ref l) (upd H l (.lst ys))) itemsF := fun H G vs ds xs Q s rl e q => by
  cases rl with
  | nil => cases e
  | @cons v vs d1 ds r1 r2 =>
    cases r2 with
    | cons _ _ => cases d1 <;> cases e
    | nil =>
      cases r1 with
      | @lst a us ys h1 h2 => cases e; exact ⟨a, us, rfl, .inl (SqL.of (s _ _ h1)), fun l hl => q l us hl h2⟩
      | @tup a us ys h1 h2 => cases e; exact ⟨a, us, rfl, .inr (s.seq h1), fun l hl => q l us hl h2⟩
      | _ => cases e
theorem pc_tuple {K : PySem.W.Frag} : PC K (fun xs H Q => ∃ p ys, xs = [.ref p] ∧ ((SqL K H p ys ∧ NewT H ys Q) ∨ (SqT K H p ys ∧ Q (.ref p) H))) itemsF PyData.tuple := fun H G vs ds xs Q s rl e q => by
  cases rl with
  | nil => cases e
  | @cons v vs d1 ds r1 r2 =>
    cases r2 with
    | cons _ _ => cases d1 <;> cases e
    | nil =>
      cases r1 with
      | @lst a us ys h1 h2 => cases e; exact ⟨a, us, rfl, .inl ⟨SqL.of (s _ _ h1), fun l ob hl oc od => q _ _ _ (New.laid s hl) (rp_newT oc od s hl h2)⟩⟩
      | @tup a us ys h1 h2 => cases e; exact ⟨a, us, rfl, .inr ⟨s.seq h1, q _ H G (New.refl s) (.tup h1 h2)⟩⟩
      | _ => cases e
def min2F : List D → Option Int
  | [.int i, .int j] => some (if j < i then j else i)
  | _ => none
theorem pc_min2 {K : PySem.W.Frag} : PC K (fun xs H Q => ∃ i j, xs = [.int i, .int j] ∧ Q (.int (if j < i then j else i)) H) min2F PyData.int := fun H G vs ds d Q s rl e q => by
  match ds, e with
  | [.int i, .int j], e =>
    cases e
    cases rl with
    | cons r1 r2 =>
      cases r2 with
      | cons r3 r4 =>
        cases r1; cases r3; cases r4
        exact ⟨i, j, rfl, q _ H G (New.refl s) (.int _)⟩
def absF : List D → Option Int
  | [.int i] => some (if i < 0 then -i else i)
  | _ => none
theorem pc_abs {K : PySem.W.Frag} : PC K (fun xs H Q => ∃ i, xs = [.int i] ∧ Q (.int (if i < 0 then -i else i)) H) absF PyData.int := fun H G vs ds d Q s rl e q => by
  match ds, e with
  | [.int i], e =>
    cases e
    cases rl with
    | cons r1 r2 =>
      cases r1; cases r2
      exact ⟨_, rfl, q _ H G (New.refl s) (.int _)⟩
def intF : List D → Option Int
  | [.int i] => some i
  | [.bool k] => some (if k then 1 else 0)
  | [.str a] => if a.length ≤ 640 then PySem.intText? a else none
  | _ => none
def rIntA : List V → Hp → VK → Prop := fun xs H Q => ((∃ i, xs = [.int i] ∧ Q (.int i) H) ∨ ∃ k, xs = [.bl k] ∧ Q (.int (if k then 1 else 0)) H) ∨ ∃ a n, xs = [.str a] ∧ PySem.intText? a = some n ∧ a.length ≤ 640 ∧ Q (.int n) H
theorem call_intA {X : Cx} : CallR X (.type "int") rIntA := by
  intro pins s σ H xs us Q I r h
  rcases h with h | h
  · exact call_int1 pins s σ H xs us Q I r h
  · exact call_int_str pins s σ H xs us Q I r h
theorem pc_int {K : PySem.W.Frag} : PC K rIntA intF PyData.int := fun H G vs ds d Q s rl e q => by
  match ds, e with
  | [.int i], e =>
    cases e
    cases rl with
    | cons r1 r2 =>
      cases r1; cases r2
      exact .inl (.inl ⟨_, rfl, q _ H G (New.refl s) (.int _)⟩)
  | [.bool b], e =>
    cases e
    cases rl with
    | cons r1 r2 =>
      cases r1; cases r2
      exact .inl (.inr ⟨_, rfl, q _ H G (New.refl s) (.int _)⟩)
  | [.str a], e =>
    cases rl with
    | cons r1 r2 =>
      cases r1; cases r2
      unfold intF at e
      dsimp only at e
      split at e
      · rename_i hl
        exact .inr ⟨a, d, rfl, e, hl, q _ H G (New.refl s) (.int _)⟩
      · cases e
def strF : List D → Option Str
  | [.int i] => if i.natAbs.log2 < 1920 then some (toString i) else none
  | [.str x] => some x
  | _ => none
def rStrF : List V → Hp → VK → Prop := fun xs H Q => (∃ i, xs = [.int i] ∧ i.natAbs.log2 < 1920 ∧ Q (.str (toString i)) H) ∨ (∃ a, xs = [.str a] ∧ Q (.str a) H)
theorem call_strF {X : Cx} : CallR X (.type "str") rStrF := call_str_int.or SkE.call_str_str
theorem pc_str {K : PySem.W.Frag} : PC K rStrF strF PyData.str := fun H G vs ds d Q s rl e q => by
  match ds, e with
  | [.int i], e =>
    simp only [strF] at e
    split at e
    · rename_i hz
      cases e
      cases rl with
      | cons r1 r2 =>
        cases r1; cases r2
        exact .inl ⟨_, rfl, hz, q _ H G (New.refl s) (.str _)⟩
    · cases e
  | [.str x], e =>
    cases e
    cases rl with
    | cons r1 r2 =>
      cases r1; cases r2
      exact .inr ⟨_, rfl, q _ H G (New.refl s) (.str _)⟩
def asInts : List D → Option (List Int)
  | [] => some []
  | .int i :: ds => (asInts ds).map (i :: ·)
  | _ => none
theorem rp_ints {K : PySem.W.Frag} {G : Hp} : ∀ {vs : List V} {ds : List D} {ns : List Int}, RpL K G vs ds → asInts ds = some ns → vs = ns.map V.int
  | _, _, _, .nil, e => by cases e; rfl
  | _, _, _, .cons (d := d) r t, e => by
    cases r with
    | int i =>
      obtain ⟨ms, e1, rfl⟩ := Option.map_eq_some_iff.mp (show (asInts _).map (i :: ·) = some _ from e)
      rw [rp_ints t e1]; rfl
    | _ => cases e
theorem rp_of_ints {K : PySem.W.Frag} {G : Hp} : ∀ (ns : List Int), RpL K G (ns.map V.int) (ns.map PyData.int)
  | [] => .nil
  | n :: ns => .cons (.int n) (rp_of_ints ns)
def sumF : List D → Option Int
  | [.list xs] => (asInts xs).map List.sum
  | _ => none
theorem pc_sum {K : PySem.W.Frag} : PC K (rSum K) sumF PyData.int := fun H G vs ds d Q s rl e q => by
  match ds, e with
  | [.list xs], e =>
    obtain ⟨ns, e1, rfl⟩ := Option.map_eq_some_iff.mp (show (asInts xs).map List.sum = some d from e)
    cases rl with
    | cons r1 r2 =>
      cases r2
      cases r1 with
      | @lst a us _ h1 h2 =>
        have := rp_ints h2 e1
        subst this
        exact ⟨a, ns, rfl, SqL.of (s _ _ h1), q _ H G (New.refl s) (.int _)⟩
def minL : List Int → Int
  | [] => 0
  | [a] => a
  | a :: r => if minL r < a then minL r else a
theorem minL_uniq : ∀ {ns : List Int} {k : Int}, k ∈ ns → (∀ y ∈ ns, k ≤ y) → minL ns = k
  | [], _, h, _ => by simp at h
  | [a], k, h, _ => by
    rw [List.mem_singleton] at h; rw [h]; rfl
  | a :: b :: r, k, h, hl => by
    unfold minL
    have hm : ∀ {l : List Int}, l ≠ [] → minL l ∈ l ∧ ∀ y ∈ l, minL l ≤ y := by
      intro l
      induction l with
      | nil => intro h; exact absurd rfl h
      | cons c t ih =>
        intro _
        cases t with
        | nil => exact ⟨by simp [minL], fun y hy => by rw [List.mem_singleton] at hy; rw [hy]; exact Int.le_refl _⟩
        | cons d u =>
          obtain ⟨i1, i2⟩ := ih (List.cons_ne_nil _ _)
          unfold minL
          split
          · rename_i hlt
            exact ⟨List.mem_cons_of_mem _ i1, fun y hy => by
              rcases List.mem_cons.mp hy with z | z
              · rw [z]; exact Int.le_of_lt hlt
              · exact i2 y z⟩
          · rename_i hlt
            exact ⟨List.mem_cons_self, fun y hy => by
              rcases List.mem_cons.mp hy with z | z
              · rw [z]; exact Int.le_refl _
              · exact Int.le_trans (Int.not_lt.mp hlt) (i2 y z)⟩
    obtain ⟨i1, i2⟩ := hm (List.cons_ne_nil b r)
    have hx := hl a List.mem_cons_self
    have hy := hl _ (List.mem_cons_of_mem _ i1)
    split
    · rename_i hlt
      rcases List.mem_cons.mp h with z | z
      · omega
      · have := i2 k z; omega
    · rename_i hlt
      rcases List.mem_cons.mp h with z | z
      · exact z.symm
      · have := i2 k z; omega
def minF : List D → Option Int
  | [.list xs] => match asInts xs with
    | some ns => if ns = [] then none else some (minL ns)
    | none => none
  | _ => none
theorem pc_min {K : PySem.W.Frag} : PC K (rMin K) minF PyData.int := fun H G vs ds d Q s rl e q => by
  match ds, e with
  | [.list xs], e =>
    simp only [minF] at e
    cases e1 : asInts xs with
    | none => rw [e1] at e; cases e
    | some ns =>
      rw [e1] at e
      dsimp only at e
      split at e
      · cases e
      · rename_i hne
        cases e
        cases rl with
        | cons r1 r2 =>
          cases r2
          cases r1 with
          | @lst a us _ h1 h2 =>
            have := rp_ints h2 e1
            subst this
            refine ⟨a, ns, rfl, SqL.of (s _ _ h1), List.length_pos_iff.mpr hne, fun k h1 h2 => ?_⟩
            rw [← minL_uniq h1 h2]
            exact q _ H G (New.refl s) (.int _)
def asBools : List D → Option (List Bool)
  | [] => some []
  | .bool i :: ds => (asBools ds).map (i :: ·)
  | _ => none
theorem rp_bools {K : PySem.W.Frag} {G : Hp} : ∀ {vs : List V} {ds : List D} {ns : List Bool}, RpL K G vs ds → asBools ds = some ns → vs = ns.map V.bl
  | _, _, _, .nil, e => by cases e; rfl
  | _, _, _, .cons (d := d) r t, e => by
    cases r with
    | bl i =>
      obtain ⟨ms, e1, rfl⟩ := Option.map_eq_some_iff.mp (show (asBools _).map (i :: ·) = some _ from e)
      rw [rp_bools t e1]; rfl
    | _ => cases e
def allF : List D → Option Bool
  | [.list xs] => (asBools xs).map (·.all id)
  | _ => none
def anyF : List D → Option Bool
  | [.list xs] => (asBools xs).map (·.any id)
  | _ => none
theorem pc_all {K : PySem.W.Frag} : PC K (rAll K) allF PyData.bool := fun H G vs ds d Q s rl e q => by
  match ds, e with
  | [.list xs], e =>
    obtain ⟨ns, e1, rfl⟩ := Option.map_eq_some_iff.mp (show (asBools xs).map (·.all id) = some d from e)
    cases rl with
    | cons r1 r2 =>
      cases r2
      cases r1 with
      | @lst a us _ h1 h2 =>
        have := rp_bools h2 e1
        subst this
        exact ⟨a, ns, rfl, SqL.of (s _ _ h1), q _ H G (New.refl s) (.bl _)⟩
theorem pc_any {K : PySem.W.Frag} : PC K (rAny K) anyF PyData.bool := fun H G vs ds d Q s rl e q => by
  match ds, e with
  | [.list xs], e =>
    obtain ⟨ns, e1, rfl⟩ := Option.map_eq_some_iff.mp (show (asBools xs).map (·.any id) = some d from e)
    cases rl with
    | cons r1 r2 =>
      cases r2
      cases r1 with
      | @lst a us _ h1 h2 =>
        have := rp_bools h2 e1
        subst this
        exact ⟨a, ns, rfl, SqL.of (s _ _ h1), q _ H G (New.refl s) (.bl _)⟩
end Cl

set_option Elab.async false
set_option linter.all false
set_option maxRecDepth 100000
set_option maxHeartbeats 4000000
/-! the clean layer, part J: binds, globals, isinstance, repr, texts, calls with keywords -/
namespace Cl
open PySem PySem.Spec PyProof.Rows L2
open MO

section
variable {γ : Type} {m : Type → Type} [PM γ m] {α β δ τ : Type} {C : Cc γ} {X : Cx} {ρ : En}
/-! ### what is worked out apart -/
theorem ce_bnd {e : Expr} {rk : α → R} {x : m α} {k : α → m β} (h : CE C X ρ e rk x pur) : CE C X ρ e rk (bnd x k) k := fun Qf =>
  PE.imp (h fun a g' => PM.wp (k a) g' Qf C.EX) fun σ H Q ⟨G, J, g, st, w, q⟩ => ⟨G, J, g, st, PM.of_bnd w, fun v a H' G' J' g' af si rr w' => q v a H' G' J' g' af si rr (by have z := PM.of_pur w'; exact z)⟩
theorem ct_bnd {e : Expr} {x : m Bool} {k : Bool → m β} (h : CT C X ρ e x pur) : CT C X ρ e (bnd x k) k := fun Qf =>
  PT.imp (h fun a g' => PM.wp (k a) g' Qf C.EX) fun σ H Q ⟨G, J, g, st, w, q⟩ => ⟨G, J, g, st, PM.of_bnd w, fun b H' G' J' g' af si w' => q b H' G' J' g' af si (by have z := PM.of_pur w'; exact z)⟩
/-! ### a name of the module -/
def Glo (K : PySem.W.Frag) (mg : Str → Option Value) (x : Str) (d : D) : Prop := ∃ u v, mg x = some u ∧ RelV v u ∧ ∀ G, Rp K G v d
theorem ce_glob {x : Str} {pos : Pos} {d : D} {k : D → m β} (h : Glo X.K X.mg x d) (hg : Gl X x := by rfl) (hd : (x == ("__debug__" : Str)) = false := by decide) : CE C X ρ (.Name x pos) dv (k d) k := by
  obtain ⟨u, v, hm, r, hr⟩ := h
  exact ce_c (pe_glob hg hm r hd) hr
end
def asStrs : List D → Option (List Str)
  | [] => some []
  | .str x :: r => (asStrs r).map (x :: ·)
  | _ => none
theorem rp_strs {K : PySem.W.Frag} {G : Hp} : ∀ {vs : List V} {ds : List D} {ns : List Str}, RpL K G vs ds → asStrs ds = some ns → vs = ns.map V.str
  | _, _, _, .nil, e => by cases e; rfl
  | _, d :: ds, ns, .cons r t, e => by
    cases r with
    | str x =>
      unfold asStrs at e
      cases q : asStrs ds with
      | none => simp [q] at e
      | some z =>
        simp [q] at e
        subst e
        rw [rp_strs t q]
        rfl
    | _ => cases e
theorem rp_of_strs {K : PySem.W.Frag} {G : Hp} : ∀ (ns : List Str), RpL K G (ns.map V.str) (ns.map PyData.str)
  | [] => .nil
  | x :: r => .cons (.str x) (rp_of_strs r)

/-! ### isinstance(x, T), T the name of a built-in type -/
def isT : String → D → Bool
  | "str", .str _ => true
  | "int", .int _ => true
  | "int", .bool _ => true
  | "bool", .bool _ => true
  | "list", .list _ => true
  | "tuple", .tuple _ => true
  | "dict", .dict _ => true
  | _, _ => false
def tyN : D → String
  | .none => "NoneType"
  | .bool _ => "bool"
  | .int _ => "int"
  | .str _ => "str"
  | .list _ => "list"
  | .tuple _ => "tuple"
  | .dict _ => "dict"
def KitOk (T : String) : Prop := kitB "NoneType" T = some (isT T .none) ∧ kitB "bool" T = some (isT T (.bool true)) ∧ kitB "int" T = some (isT T (.int 0)) ∧ kitB "str" T = some (isT T (.str Str.empty)) ∧ kitB "list" T = some (isT T (.list [])) ∧ kitB "tuple" T = some (isT T (.tuple [])) ∧ kitB "dict" T = some (isT T (.dict []))
theorem kit_str : KitOk "str" := by unfold KitOk; decide +kernel
theorem kit_int : KitOk "int" := by unfold KitOk; decide +kernel
theorem kit_bool : KitOk "bool" := by unfold KitOk; decide +kernel
theorem kit_list : KitOk "list" := by unfold KitOk; decide +kernel
theorem kit_tuple : KitOk "tuple" := by unfold KitOk; decide +kernel
theorem kit_dict : KitOk "dict" := by unfold KitOk; decide +kernel
theorem KitOk.at {T : String} (k : KitOk T) (hT : T ∈ ["str", "int", "bool", "list", "tuple", "dict"]) (d : D) : kitB (tyN d) T = some (isT T d) := by
  obtain ⟨a, b, c, d', e, f, g⟩ := k
  simp only [List.mem_cons, List.not_mem_nil, or_false] at hT
  rcases hT with rfl | rfl | rfl | rfl | rfl | rfl <;> cases d <;> assumption
theorem rp_tyX {K : PySem.W.Frag} {G H : Hp} {v : V} {d : D} (s : Sub G H) (r : Rp K G v d) : TyX K H v (.type (tyN d)) := by
  cases r with
  | non => exact .base .non
  | bl b => exact .base (.bl b)
  | int i => exact .base (.int i)
  | str x => exact .base (.str x)
  | lst h1 h2 => exact .base (.lst (s _ _ h1))
  | tup h1 h2 =>
    rcases s.seq h1 with (h | ⟨o, h⟩) | ⟨o, its, n, h, hc, _⟩
    · exact .base (.tup h)
    · exact .fTuple h
    · exact .kTuple h hc
  | dct h1 h2 => exact .base (.dK (s _ _ h1))
section
variable {γ : Type} {m : Type → Type} [PM γ m] {α β δ τ : Type} {C : Cc γ} {X : Cx} {ρ : En}
theorem ce_isi {T : String} {t : Str} {p1 p2 pos : Pos} {e : Expr} {x : m β} {k : Bool → m β} (kt : KitOk T) (hm : X.mg "isinstance" = none) (hmt : X.mg t = none) (hv : bootBuiltins t = some (.type T)) (ha : CE C X ρ e dv x (fun d => k (isT T d)))
    (hT : T ∈ ["str", "int", "bool", "list", "tuple", "dict"] := by decide) (hg : Gl X "isinstance" := by rfl) (hgt : Gl X t := by rfl) (hnt : t ≠ "__name__" := by decide) (hdbt : (t == ("__debug__" : Str)) = false := by decide)
    (he : starEach [e, .Name t p2] X.env = (false, eval e X.env) :: starEach [.Name t p2] X.env := by rfl) (he2 : starEach [.Name t p2] X.env = (false, eval (.Name t p2) X.env) :: starEach [] X.env := by rfl) (hpl : (backTo pos (starEach [.Name t p2] X.env)).any (·.1) = false := by rfl) :
    CE C X ρ (.Call (.Name "isinstance" p1) [e, .Name t p2] [] pos) bv x k := fun Qf =>
  PE.imp (pe_callB call_isi hg hm PyProof.Rows.boot_isinstance (pa_cons (ha Qf) (pa_cons (pe_bltn (v := .ty T) hgt hmt hv rfl hnt hdbt) pa_nil he2) he) (by decide) (by decide) he hpl) fun σ H Q ⟨G, J, g, st, w, h⟩ => ⟨G, J, g, st, w, fun v d H1 G1 J1 g1 af1 si1 rr w1 => by
    exact ⟨v, .ty T, _, _, _, rfl, .ty T, rp_tyX af1.vis.sub rr, kit_ty (kt.at hT d), h _ _ H1 G1 J1 g1 af1 si1 (.bl _) w1⟩⟩
end

/-! ### repr -/
def reprOk (d : D) : Bool := d.showable && d.canLay0 && decide (d.depth ≤ 64) && decide (d.shown.length ≤ sizeLine)
def reprF : List D → Option Str
  | [d] => if reprOk d = true then some d.shown else none
  | _ => none
def rRepr (K : PySem.W.Frag) : List V → Hp → VK → Prop := fun xs H Q => ∃ v d, xs = [v] ∧ Dp K H v d ∧ reprOk d = true ∧ Q (.str d.shown) H
theorem call_repr {X : Cx} (hgd : X.A.guards = some []) (hu : X.A.units + 65 < cLine) : CallR X (.builtin "repr") (rRepr X.K) := by
  intro pins s σ H xs us Q I r h
  obtain ⟨v, d, rfl, dp, ok, q⟩ := h
  cases r with
  | cons r1 r2 =>
    cases r2
    unfold reprOk at ok
    rw [Bool.and_eq_true, Bool.and_eq_true, Bool.and_eq_true] at ok
    obtain ⟨⟨⟨h1, h2⟩, h3⟩, h4⟩ := ok
    have h3 := of_decide_eq_true h3
    have h4 := of_decide_eq_true h4
    have fin : ∀ (h' : Heap) u tk, (∀ b o, s.heap.get? b = some o → h'.get? b = some o) → EP X pins σ Q (.str d.shown u) { s with heap := h', toks := tk } := fun h' u tk hk => ⟨.str d.shown, H, I.kept (t' := tk) hk, ⟨u, rfl⟩, q⟩
    obtain ⟨as, rd⟩ := Dp.reads I d v _ dp r1
    cases dp with
    | non => cases r1; exact PySem.P.repr_of_none (fin s.heap _ _ fun _ _ e => e)
    | bl b => cases r1; exact PySem.P.repr_of_bool (fin s.heap _ _ fun _ _ e => e)
    | int i => obtain ⟨t, rfl⟩ := r1; exact PySem.P.repr_of_int (by simpa [PyData.showable] using h1) (fin s.heap _ _ fun _ _ e => e)
    | str x => obtain ⟨t, rfl⟩ := r1; exact PySem.P.repr_of_str (fin s.heap _ _ fun _ _ e => e) h4
    | lst a b => cases r1; exact PySem.repr_of_reads' rd h1 (PyData.noDict_hsm (PyData.hasDict_of_canLay _ h2)) hgd (by omega) (fun _ _ e => e) fin h4
    | tup a b => cases r1; exact PySem.repr_of_reads' rd h1 (PyData.noDict_hsm (PyData.hasDict_of_canLay _ h2)) hgd (by omega) (fun _ _ e => e) fin h4
theorem pc_repr {K : PySem.W.Frag} : PC K (rRepr K) reprF PyData.str := fun H G vs ds d Q s rl e q => by
  cases rl with
  | nil => cases e
  | @cons v vs d1 ds r1 r2 =>
    cases r2 with
    | cons _ _ => cases e
    | nil =>
      unfold reprF at e
      dsimp only at e
      split at e
      · rename_i hk
        cases e
        have h2 : d1.canLay0 = true := by
          unfold reprOk at hk
          rw [Bool.and_eq_true, Bool.and_eq_true, Bool.and_eq_true] at hk
          exact hk.1.1.2
        exact ⟨v, d1, rfl, r1.dp s h2, hk, q _ H G (New.refl s) (.str _)⟩
      · cases e

/-! ### texts -/
def joinF (s d : D) : Option D := match s, d with
  | .str a, .list ds => match asStrs ds with
    | some ys => if (ys.map (·.length)).sum + ys.length * a.length ≤ 16777216 then some (.str (Txt.join a ys)) else none
    | none => none
  | .str a, .tuple ds => match asStrs ds with
    | some ys => if (ys.map (·.length)).sum + ys.length * a.length ≤ 16777216 then some (.str (Txt.join a ys)) else none
    | none => none
  | _, _ => none
def splitF (s d : D) : Option (List D) := match s, d with
  | .str a, .str b => if (b.length == 0) = false ∧ a.length + 2 ≤ sizeLine then some ((Txt.split a b).map PyData.str) else none
  | _, _ => none
def isS : D → Bool
  | .str _ => true
  | _ => false
def asS (d : D) : Option Unit := if isS d = true then some () else none
section
variable {γ : Type} {m : Type → Type} [PM γ m] {α β δ τ : Type} {C : Cc γ} {X : Cx} {ρ : En}
theorem ce_join {o e : Expr} {apos pos : Pos} {x : m β} {x2 : D → m β} {k : D → m β} (he : ∀ d1, CE C X ρ e dv (x2 d1) (fun d2 => bnd (need (joinF d1 d2)) k)) (ho : CE C X ρ o dv x (fun d => bnd (need (asS d)) fun _ => x2 d))
    (hs : starEach [e] X.env = [(false, eval e X.env)] := by rfl) (hbase : attributeBase o "join" X.env (eval o X.env) = eval o X.env := by rfl) (hline : (apos.endLine == pos.line) = true := by rfl) :
    CE C X ρ (.Call (.Attribute o "join" apos) [e] [] pos) dv x k := fun Qf =>
  PE.imp (pe_join (ho Qf) (PE.ex fun d1 => he d1 Qf) hs hbase hline) fun σ H Q ⟨G, J, g, st, w, h⟩ => ⟨G, J, g, st, w, fun v1 d1 H1 G1 J1 g1 af1 si1 r1 w1 => by
    obtain ⟨_, e0, w1⟩ := of_need w1
    have hS : ∃ a, v1 = .str a := by
      cases r1 with
      | str a => exact ⟨a, rfl⟩
      | _ => cases e0
    refine ⟨hS, d1, G1, J1, g1, st.go af1 si1, w1, fun v2 d2 H2 G2 J2 g2 af2 si2 r2 w2 => ?_⟩
    obtain ⟨d, e1, w3⟩ := of_need w2
    cases r1 with
    | str a =>
      cases r2 with
      | @lst p us ds h1 h2 =>
        unfold joinF at e1
        dsimp only at e1
        cases q : asStrs ds with
        | none => simp [q] at e1
        | some ys =>
          simp only [q] at e1
          split at e1
          · rename_i hz
            cases e1
            refine ⟨a, p, ys, rfl, rfl, .inl ?_, hz, h _ _ H2 G2 J2 g2 (af1.trans af2) si2 (.str _) w3⟩
            rw [← rp_strs h2 q]
            exact SqL.of (af2.vis.sub _ _ h1)
          · cases e1
      | @tup p us ds h1 h2 =>
        unfold joinF at e1
        dsimp only at e1
        cases q : asStrs ds with
        | none => simp [q] at e1
        | some ys =>
          simp only [q] at e1
          split at e1
          · rename_i hz
            cases e1
            refine ⟨a, p, ys, rfl, rfl, .inr ?_, hz, h _ _ H2 G2 J2 g2 (af1.trans af2) si2 (.str _) w3⟩
            rw [← rp_strs h2 q]
            exact af2.vis.sub.seq h1
          · cases e1
      | _ => cases e1
    | _ => cases e0⟩
theorem ce_split {o e : Expr} {apos pos : Pos} {x : m β} {x2 : D → m β} {k : List D → m β} (he : ∀ d1, CE C X ρ e dv (x2 d1) (fun d2 => bnd (need (splitF d1 d2)) k)) (ho : CE C X ρ o dv x (fun d => bnd (need (asS d)) fun _ => x2 d))
    (hs : starEach [e] X.env = [(false, eval e X.env)] := by rfl) (hbase : attributeBase o "split" X.env (eval o X.env) = eval o X.env := by rfl) (hline : (apos.endLine == pos.line) = true := by rfl) :
    CE C X ρ (.Call (.Attribute o "split" apos) [e] [] pos) lv x k := fun Qf =>
  PE.imp (pe_split (ho Qf) (PE.ex fun d1 => he d1 Qf) hs hbase hline) fun σ H Q ⟨G, J, g, st, w, h⟩ => ⟨G, J, g, st, w, fun v1 d1 H1 G1 J1 g1 af1 si1 r1 w1 => by
    obtain ⟨_, e0, w1⟩ := of_need w1
    have hS : ∃ a, v1 = .str a := by
      cases r1 with
      | str a => exact ⟨a, rfl⟩
      | _ => cases e0
    refine ⟨hS, d1, G1, J1, g1, st.go af1 si1, w1, fun v2 d2 H2 G2 J2 g2 af2 si2 r2 w2 => ?_⟩
    obtain ⟨d, e1, w3⟩ := of_need w2
    cases r1 with
    | str a =>
      cases r2 with
      | str b =>
        unfold splitF at e1
        dsimp only at e1
        split at e1
        · rename_i hz
          cases e1
          refine ⟨a, b, rfl, rfl, hz.1, hz.2, fun q hq => ?_⟩
          have n : New G2 H2 G2 (upd H2 q (.lst ((Txt.split a b).map V.str))) := New.own af2.vis.sub hq
          exact h _ _ _ G2 J2 g2 ((af1.trans af2).trans (n.aft af2.vis)) (SIx.nw si2 n) ⟨q, rfl, (af1.trans af2).back q hq, none_of_sub af2.vis.sub hq, fun j => af2.vis.dom q j hq, _, upd_same, rp_of_strs _⟩ w3
        · cases e1
      | _ => cases e1
    | _ => cases e0⟩
end
end Cl

set_option Elab.async false
set_option linter.all false
set_option maxRecDepth 100000
set_option maxHeartbeats 4000000
/-! the clean layer, part K: enumerate and zip over lists and tuples -/
namespace Cl
open PySem PySem.Spec PyProof.Rows L2
open MO

/-! ### a list (false) or a tuple (true) -/
def SqK (κ : Bool) (K : PySem.W.Frag) (H : Hp) (a : Addr) (xs : List V) : Prop := match κ with
  | false => SqL K H a xs
  | true => SqT K H a xs
def IsK (κ : Bool) (h : Heap) (a : Addr) (its : Array Value) : Prop := match κ with
  | false => h.IsList a its
  | true => h.IsTuple a its
def IsI (κ : Bool) (h : Heap) (it a : Addr) (i : Nat) : Prop := match κ with
  | false => h.IsListIter it a i
  | true => h.IsTupleIter it a i
def itO (κ : Bool) (a : Addr) : Obj := match κ with
  | false => { cls := .type "list_iterator", data := .fields #[.ref a, .int 0 0] }
  | true => { cls := .type "tuple_iterator", data := .fields #[.ref a, .int 0 0] }
theorem IsI.get {κ : Bool} {h : Heap} {it a : Addr} {i : Nat} (x : IsI κ h it a i) : ∃ o, h.get? it = some o ∧ (∀ v, o.data ≠ .cell v) ∧ o.cls = .type (if κ then "tuple_iterator" else "list_iterator") := by
  cases κ <;> (obtain ⟨o, h1, h2, h3⟩ := x; exact ⟨o, h1, (fun v q => by rw [h3] at q; cases q), h2⟩)
theorem IsI.keep {κ : Bool} {h h' : Heap} {it a : Addr} {i : Nat} (x : IsI κ h it a i) (k : ∀ o, h.get? it = some o → h'.get? it = some o) : IsI κ h' it a i := by
  cases κ <;> (obtain ⟨o, h1, h2, h3⟩ := x; exact ⟨o, k o h1, h2, h3⟩)
theorem IsI.zero {κ : Bool} {h : Heap} {it a : Addr} (e : h.get? it = some (itO κ a)) : IsI κ h it a 0 := by
  cases κ <;> exact ⟨_, e, rfl, rfl⟩
theorem IsK.get {κ : Bool} {h : Heap} {a : Addr} {its : Array Value} (x : IsK κ h a its) : ∃ o, h.get? a = some o ∧ o.cls = .type (if κ then "tuple" else "list") := by
  cases κ <;> (obtain ⟨o, h1, h2, _⟩ := x; exact ⟨o, h1, h2⟩)
theorem drawsK {κ : Bool} {prog : Program} {w : World} {A : Around} (hh : A.handled = none) (it a : Addr) (hne : a ≠ it) (items : Array Value) :
    Draws prog w A it [it, a] items.size (fun i v => items[i]? = some v) (fun i h => IsI κ h it a i ∧ IsK κ h a items) := by
  cases κ with
  | false => exact Draws.list hh it a hne items
  | true => exact Draws.tuple hh it a hne items
theorem beginsK {κ : Bool} (a : Addr) (items : Array Value) : Begins (.ref a) (itO κ a) (fun h => IsK κ h a items) := by
  cases κ with
  | false => exact begins_list a items
  | true => exact begins_tuple a items
section
variable {X : Cx} {pins : List (Addr × Obj)} {σ : L2.St} {H : Hp} {s : Shared} {κ : Bool} {a : Addr} {xs ys : List V}
theorem sqk_is (I : Inv X pins σ H s) (h : SqK κ X.K H a xs) : ∃ its : List Value, Vals xs its ∧ IsK κ s.heap a its.toArray := by
  cases κ with
  | false => obtain ⟨its, r, p, _⟩ := I.list h; exact ⟨its, r, p.isList⟩
  | true => obtain ⟨its, r, p, _⟩ := I.tuple h; exact ⟨its, r, p⟩
theorem sqk_inj (I : Inv X pins σ H s) (h : SqK κ X.K H a xs) (h' : SqK κ X.K H a ys) : xs = ys := by
  cases κ with
  | false => exact I.list_inj h h'
  | true => exact I.tuple_inj h h'
end
theorem ne_of_cls {h : Heap} {a b : Addr} {o o' : Obj} {n n' : String} (ha : h.get? a = some o) (hb : h.get? b = some o') (hc : o.cls = .type n) (hc' : o'.cls = .type n') (hn : n ≠ n') : a ≠ b := fun e => by
  subst e
  rw [ha] at hb
  cases hb
  rw [hc] at hc'
  exact hn (Value.type.inj hc')

set_option maxHeartbeats 4000000 in
theorem meets_enumerate_new1 {v : Value} {o : Obj} {H : Heap → Prop} (B : Begins v o H) :
    Meets (Builtin.«enumerate.__new__» ⟨[.type "enumerate", v], []⟩) (fun _ R s => H s.heap ∧
      R (.ok (.ret (.ref (s.heap.push o).objs.size))) { s with heap := (s.heap.push o).push { cls := .type "enumerate", data := .fields #[.none, .bool false, .ref s.heap.objs.size, rawInt 0, .none, .none] } }) :=
  .of_wp fun prog w A R s h => by
    obtain ⟨hp, g, d, tk, os⟩ := s; obtain ⟨h1, h⟩ := h
    have hsub := sub_enumerate
    have q1 : ∀ {A' : Around} {E : Value → Shared → Prop} {Q : Value → Shared → Prop}, Q (.ref hp.objs.size) ⟨hp.push o, g, d, tk, os⟩ → wpAny (model prog w) A' (pyIter v) Q E ⟨hp, g, d, tk, os⟩ :=
      fun q => B.iter prog w _ _ ⟨hp, g, d, tk, os⟩ _ h1 q
    wp_walk using q1
    refine wpAny_stack_any fun st => wpAny_pure ?_
    split
    · rename_i c _ _ _ _ _
      cases (c == Value.type "enumerate")
      · wp_walk using q1
        exact ⟨_, rfl, h⟩
      · wp_walk using q1
        exact ⟨_, rfl, h⟩
    · wp_walk using q1
      exact ⟨_, rfl, h⟩
section
variable {prog : Program} {w : World} {A : Around} {E : Value → Shared → Prop} {s : Shared}
theorem enum_begins1 {v : Value} {o : Obj} {H : Heap → Prop} {Q : Value → Shared → Prop} (B : Begins v o H) (h1 : H s.heap)
    (h : ∀ h', IsEnum h' (s.heap.objs.size + 1) s.heap.objs.size 0 .none → h'.get? s.heap.objs.size = some o → h'.objs.size = s.heap.objs.size + 2 →
      (∀ b o, s.heap.get? b = some o → h'.get? b = some o) → Q (.ref (s.heap.objs.size + 1)) { s with heap := h' }) :
    wpAny (model prog w) A (call (.type "enumerate") [v]) Q E s := by
  refine callType_new PySem.F.called_enumerate (by decide) (PySem.F.typeCall_enumerate_1 _) (PySem.F.newCall_enumerate_1 _) (fun obj => PySem.F.args_object_init_2 obj _) PySem.F.entry_enumerate_new
    (meets_enumerate_new1 B) ⟨h1, ?_⟩
  have hz : (s.heap.push o).objs.size = s.heap.objs.size + 1 := Heap.size_push ..
  show _ ∧ _
  rw [hz]
  have he : IsEnum ((s.heap.push o).push { cls := .type "enumerate", data := .fields #[.none, .bool false, .ref s.heap.objs.size, rawInt 0, .none, .none] }) (s.heap.objs.size + 1) s.heap.objs.size 0 .none := by
    have := Heap.get?_push_size (s.heap.push o) (o := { cls := .type "enumerate", data := .fields #[.none, .bool false, .ref s.heap.objs.size, rawInt 0, .none, .none] }) rfl
    rw [hz] at this; exact this
  refine ⟨⟨_, he, rfl⟩, h _ he (Heap.get?_push_of_some _ (Heap.get?_push_size _ B.free)) (by rw [Heap.size_push, hz]) fun b o x => Heap.get?_push_of_some _ (Heap.get?_push_of_some _ x)⟩
end

/-! ### enumerate -/
def IteK (κ : Bool) (K : PySem.W.Frag) (a : Addr) : It :=
  ⟨fun i H => ∃ (xs : List V) (x : V), SqK κ K H a xs ∧ xs[i]? = some x, fun i H v H' => ∃ T x, v = .ref T ∧ H T = none ∧ (∃ o : Obj, o.cls = .type "tuple" ∧ o.dict = none ∧ H' = upd H T (.frz o (.tup [.int (i : Nat), x]))) ∧ ∀ xs, SqK κ K H a xs → xs[i]? = some x, fun i H => ∃ xs : List V, SqK κ K H a xs ∧ i = xs.length⟩
theorem turn_enumK {κ : Bool} {P : Program} {w : World} {K : PySem.W.Frag} {elts : List Expr} {kk : Nat} {tpos : Pos} (a e it : Addr) :
    Turn P w K (.Tuple elts kk tpos) (IteK κ K a) [e, it] e (fun i h => (∃ old, IsEnum h e it ((i : Nat) : Int) old) ∧ IsI κ h it a i ∧ e ≠ it) where
  mem := by simp
  obj := fun i h st b hb => by
    obtain ⟨⟨old, he⟩, hi, _⟩ := st
    obtain ⟨o, ho, hd, _⟩ := hi.get
    have e' : b = e ∨ b = it := by simpa using hb
    rcases e' with z | z
    · rw [z]; exact ⟨_, he, fun v q => nomatch q⟩
    · rw [z]; exact ⟨o, ho, hd⟩
  keep := fun i h h' st k => let ⟨⟨old, he⟩, hi, hne⟩ := st; ⟨⟨old, k e (by simp) _ he⟩, hi.keep fun o q => k it (by simp) o q, hne⟩
  item := by
    intro X hP hw hK hc i pins s σ H E I hf st hg
    subst hP hw hK
    obtain ⟨⟨old, he⟩, hit, hne⟩ := st
    obtain ⟨xs, x, hq, hx⟩ := hg
    obtain ⟨its, rv, p⟩ := sqk_is I hq
    obtain ⟨u, hu, ru⟩ := rv.get hx
    obtain ⟨oa, hoa, hca⟩ := p.get
    obtain ⟨oi, hoi, _, hci⟩ := hit.get
    have nae : a ≠ e := ne_of_cls hoa he hca rfl (by cases κ <;> decide)
    have nai : a ≠ it := ne_of_cls hoa hoi hca hci (by cases κ <;> decide)
    have hel : e < s.heap.objs.size := Heap.lt_size he
    have hil : it < s.heap.objs.size := Heap.lt_size hoi
    have hlt : i < its.length := by rw [← rv.length]; exact (List.getElem?_eq_some_iff.mp hx).1
    refine wpAny_pyNext_enum_itemC (drawsK (A := X.A.in1) (I.ok.hd hc) it a nai its.toArray) he ⟨hit, p⟩ (by simpa using hlt) hne (by simp [hne, Ne.symm nae]) fun u' h' tk hP ho hst hT hsz hk => ?_
    have eu : u' = u := by
      have : its.toArray[i]? = some u' := hP
      rw [List.getElem?_toArray, hu] at this
      exact (Option.some.inj this).symm
    subst eu
    refine ⟨_, rfl, wpAny_letOwnedTupleGo_enum (s := { s with heap := h', toks := tk + 1 }) ho fun h'' he' sb => ?_⟩
    have hT2 : h''.get? s.heap.objs.size = some { cls := .type "tuple", data := .seq #[.int i tk, u'] } := (sb.2 _ (Nat.ne_of_gt hel)).trans hT
    have new : ObjOk X.prog X.w (upd H s.heap.objs.size (.frz { cls := .type "tuple", data := .seq #[.int i tk, u'] } (.tup [.int (i : Nat), x]))) h'' s.heap.objs.size (.frz { cls := .type "tuple", data := .seq #[.int i tk, u'] } (.tup [.int (i : Nat), x])) :=
      ⟨hT2, by show 2 ≤ sizeLine; decide, [.int i tk, u'], .cons ⟨_, rfl⟩ (.cons ru .nil), ⟨_, hT2, rfl, _, rfl⟩⟩
    have I1 : Inv X pins σ (upd H s.heap.objs.size (.frz { cls := .type "tuple", data := .seq #[.int i tk, u'] } (.tup [.int (i : Nat), x]))) { s with heap := h'', toks := tk + 1 } :=
      I.turnedNew (ch := [e, it]) (fun b ob hb q => (sb.2 b (fun z => hb (by simp [z]))).trans (hk b ob (fun z => hb (by simp [z])) (fun z => hb (by simp [z])) q)) hf (Nat.le_refl _) new
    refine ⟨.ref s.heap.objs.size, _, I1, rfl, ⟨_, x, rfl, I.hok.fresh (Nat.le_refl _), ⟨_, rfl, rfl, rfl⟩, fun ys hy => by rw [sqk_inj I hy hq]; exact hx⟩, ⟨⟨u', ?_⟩, hst.1.keep fun o q => (sb.2 it (Ne.symm hne)).trans q, hne⟩, fun b hb => ?_⟩
    · have e1 : ((i + 1 : Nat) : Int) = (i : Int) + 1 := by omega
      rw [e1]; exact he'
    · have hb' : b < s.heap.objs.size := by
        have e' : b = e ∨ b = it := by simpa using hb
        rcases e' with z | z
        · rw [z]; exact hel
        · rw [z]; exact hil
      rw [upd_ne (Nat.ne_of_lt hb')]
      exact (hf b hb).1
  done := by
    intro X hP hw hK hc i pins s σ H E I hf st hg
    subst hP hw hK
    obtain ⟨⟨old, he⟩, hit, hne⟩ := st
    obtain ⟨xs, hq, hx⟩ := hg
    obtain ⟨its, rv, p⟩ := sqk_is I hq
    obtain ⟨f0, f1, f2, f3, f4, f5⟩ := hf it (by simp)
    obtain ⟨oa, hoa, hca⟩ := p.get
    obtain ⟨oi, hoi, _, hci⟩ := hit.get
    have nai : a ≠ it := ne_of_cls hoa hoi hca hci (by cases κ <;> decide)
    have hn : i = its.toArray.size := by rw [hx, rv.length]; simp
    refine wpAny_pyNext_enum_endD (drawsK (A := X.A.in1) (I.ok.hd hc) it a nai its.toArray) he ⟨hn ▸ hit, p⟩ fun h' eb => ⟨rfl, I.turned (t' := s.toks) (fun b o hb q => eb b o hb q) f0 f1 f3 f4 f5⟩
  self := fun A i s Q E st h => let ⟨⟨_, he⟩, _⟩ := st; wpAny_pyIter_enum he h
def iEnumK (K : PySem.W.Frag) (ta : TA) : TI := fun σ H R => ta σ H fun vs H1 => ∃ κ a xs, vs = [.ref a] ∧ SqK κ K H1 a xs ∧ R (IteK κ K a) H1
theorem one_call {f : Value} {x : Value} {M : Model} {A : Around} {Q : Value → Shared → Prop} {E : Value → Shared → Prop} {s : Shared} (h : wpAny M A (call f [x]) Q E s) : wpAny M A (call f [x]) Q E s := h
theorem pi_enumK {X : Cx} {e : Expr} {ta : TA} {p pos tpos : Pos} {elts : List Expr} {kk : Nat} (hg : Gl X "enumerate") (hm : X.mg "enumerate" = none) (ha : PA X [e] ta) (hs : starEach [e] X.env = [(false, eval e X.env)] := by rfl) :
    PI X (.Tuple elts kk tpos) (.Call (.Name "enumerate" p) [e] [] pos) (iEnumK X.K ta) := by
  refine ⟨fun pins s σ H R I h => ?_⟩
  refine Call_ (ld_blt I hg hm boot_enumerate (PyProof.Rows.callWith_type1 (thn (ha.run pos pins s σ H _ I h) fun us s1 ⟨vs, H1, I1, r1, q1⟩ => ?_) hs rfl))
  obtain ⟨κ, a, xs, ex, hq, q⟩ := q1
  subst ex
  cases r1 with
  | cons r rr =>
    cases rr
    cases r
    obtain ⟨its, rv, p'⟩ := sqk_is I1 hq
    have fin : ∀ h' : Heap, IsEnum h' (s1.heap.objs.size + 1) s1.heap.objs.size ((0 : Nat) : Int) .none → IsI κ h' s1.heap.objs.size a 0 → (∀ b o, s1.heap.get? b = some o → h'.get? b = some o) → PIE X pins σ (.Tuple elts kk tpos) R (.ref (s1.heap.objs.size + 1)) { s1 with heap := h' } := fun h' he hit hk => by
      have I2 : Inv X pins σ H1 { s1 with heap := h' } := I1.kept (t' := s1.toks) hk
      refine ⟨s1.heap.objs.size + 1, [s1.heap.objs.size + 1, s1.heap.objs.size], _, _, H1, rfl, I2, turn_enumK (κ := κ) a (s1.heap.objs.size + 1) s1.heap.objs.size, ⟨⟨.none, he⟩, hit, Nat.succ_ne_self _⟩, fun b hb => ?_, q⟩
      have e' : b = s1.heap.objs.size + 1 ∨ b = s1.heap.objs.size := by simpa using hb
      have hle : s1.heap.objs.size ≤ b := by
        rcases e' with z | z
        · rw [z]; exact Nat.le_add_right _ _
        · rw [z]; exact Nat.le_refl _
      exact I1.fpOk hle (I1.hok.fresh hle)
    exact enum_begins1 (beginsK a its.toArray) p' fun h' he hg hsz hk => wpAny_pyIter_enum he (fin h' he (.zero hg) hk)
/-! ### zip -/
def ItzK (κ κ2 : Bool) (K : PySem.W.Frag) (a b : Addr) : It :=
  ⟨fun i H => ∃ (xs ys : List V) (x y : V), SqK κ K H a xs ∧ SqK κ2 K H b ys ∧ xs[i]? = some x ∧ ys[i]? = some y,
    fun i H v H' => ∃ T x y, v = .ref T ∧ H T = none ∧ (∃ o : Obj, o.cls = .type "tuple" ∧ o.dict = none ∧ H' = upd H T (.frz o (.tup [x, y]))) ∧ (∀ xs, SqK κ K H a xs → xs[i]? = some x) ∧ ∀ ys, SqK κ2 K H b ys → ys[i]? = some y,
    fun i H => ∃ xs ys : List V, SqK κ K H a xs ∧ SqK κ2 K H b ys ∧ i ≤ xs.length ∧ i ≤ ys.length ∧ (i = xs.length ∨ i = ys.length)⟩
theorem turn_zipK {κ κ2 : Bool} {P : Program} {w : World} {K : PySem.W.Frag} {elts : List Expr} {kk : Nat} {tpos : Pos} {a b z TI TO i1 i2 : Addr} (S : ZipSep2 z TI TO i1 i2 [i1, a] [i2, b]) :
    Turn P w K (.Tuple elts kk tpos) (ItzK κ κ2 K a b) [z, TI, TO, i1, i2] z (fun i h => IsZip h z TI TO .none ∧ IsTupOf2 h TI (.ref i1) (.ref i2) ∧ (∃ x y, IsTupOf2 h TO x y) ∧ IsI κ h i1 a i ∧ IsI κ2 h i2 b i) where
  mem := by simp
  obj := fun i h st c hc => by
    obtain ⟨hz, hTI, ⟨x, y, hTO⟩, h1, h2⟩ := st
    obtain ⟨o1, e1, d1, _⟩ := h1.get
    obtain ⟨o2, e2, d2, _⟩ := h2.get
    have e' : c = z ∨ c = TI ∨ c = TO ∨ c = i1 ∨ c = i2 := by simpa using hc
    rcases e' with q | q | q | q | q
    · rw [q]; exact ⟨_, hz, fun v q => nomatch q⟩
    · rw [q]; exact ⟨_, hTI, fun v q => nomatch q⟩
    · rw [q]; exact ⟨_, hTO, fun v q => nomatch q⟩
    · rw [q]; exact ⟨o1, e1, d1⟩
    · rw [q]; exact ⟨o2, e2, d2⟩
  keep := fun i h h' st k => by
    obtain ⟨hz, hTI, ⟨x, y, hTO⟩, h1, h2⟩ := st
    exact ⟨k z (by simp) _ hz, k TI (by simp) _ hTI, ⟨x, y, k TO (by simp) _ hTO⟩, h1.keep fun o q => k i1 (by simp) o q, h2.keep fun o q => k i2 (by simp) o q⟩
  item := by
    intro X hP hw hK hc i pins s σ H E I hf st hg
    subst hP hw hK
    obtain ⟨hz, hTI, ⟨x0, y0, hTO⟩, h1, h2⟩ := st
    obtain ⟨xs, ys, x, y, hqx, hqy, hx, hy⟩ := hg
    obtain ⟨its, rv, p⟩ := sqk_is I hqx
    obtain ⟨its2, rv2, p2⟩ := sqk_is I hqy
    obtain ⟨u, hu, ru⟩ := rv.get hx
    obtain ⟨u2, hu2, ru2⟩ := rv2.get hy
    have hzl : z < s.heap.objs.size := Heap.lt_size hz
    obtain ⟨oa, hoa, hca⟩ := p.get
    obtain ⟨ob, hob, hcb⟩ := p2.get
    obtain ⟨o1, ho1, _, hc1⟩ := h1.get
    obtain ⟨o2, ho2, _, hc2⟩ := h2.get
    have n1 : a ≠ i1 := ne_of_cls hoa ho1 hca hc1 (by cases κ <;> decide)
    have n2 : b ≠ i2 := ne_of_cls hob ho2 hcb hc2 (by cases κ2 <;> decide)
    have l1 : i < its.length := by rw [← rv.length]; exact (List.getElem?_eq_some_iff.mp hx).1
    have l2 : i < its2.length := by rw [← rv2.length]; exact (List.getElem?_eq_some_iff.mp hy).1
    refine wpAny_pyNext_zipD2_item S (drawsK (A := X.A.in1) (I.ok.hd hc) i1 a n1 its.toArray) (drawsK (A := X.A.in1) (I.ok.hd hc) i2 b n2 its2.toArray) hz hTI hTO ⟨h1, p⟩ ⟨h2, p2⟩ (by simpa using l1) (by simpa using l2) fun u' u2' h' tk hP1 hP2 z' TO' st1 st2 hT hsz hk => ?_
    have eu : u' = u := by
      have : its.toArray[i]? = some u' := hP1
      rw [List.getElem?_toArray, hu] at this
      exact (Option.some.inj this).symm
    have eu2 : u2' = u2 := by
      have : its2.toArray[i]? = some u2' := hP2
      rw [List.getElem?_toArray, hu2] at this
      exact (Option.some.inj this).symm
    subst eu eu2
    refine ⟨_, rfl, wpAny_letOwnedTupleGo_zip (s := { s with heap := h', toks := tk }) z' fun h'' z'' sb => ?_⟩
    have hT2 : h''.get? s.heap.objs.size = some { cls := .type "tuple", data := .seq #[u', u2'] } := (sb.2 _ (Nat.ne_of_gt hzl)).trans hT
    have new : ObjOk X.prog X.w (upd H s.heap.objs.size (.frz { cls := .type "tuple", data := .seq #[u', u2'] } (.tup [x, y]))) h'' s.heap.objs.size (.frz { cls := .type "tuple", data := .seq #[u', u2'] } (.tup [x, y])) :=
      ⟨hT2, by show 2 ≤ sizeLine; decide, [u', u2'], .cons ru (.cons ru2 .nil), ⟨_, hT2, rfl, _, rfl⟩⟩
    have I1 : Inv X pins σ (upd H s.heap.objs.size (.frz { cls := .type "tuple", data := .seq #[u', u2'] } (.tup [x, y]))) { s with heap := h'', toks := tk } :=
      I.turnedNew (ch := [z, TI, TO, i1, i2]) (fun c o hb q => (sb.2 c (fun q' => hb (by simp [q']))).trans (hk c o (fun q' => hb (by simp [q'])) (fun q' => hb (by simp [q'])) (fun q' => hb (by simp [q'])) (fun q' => hb (by simp [q'])) q)) hf (Nat.le_refl _) new
    refine ⟨.ref s.heap.objs.size, _, I1, rfl, ⟨_, x, y, rfl, I.hok.fresh (Nat.le_refl _), ⟨_, rfl, rfl, rfl⟩, fun l hl => by rw [sqk_inj I hl hqx]; exact hx, fun l hl => by rw [sqk_inj I hl hqy]; exact hy⟩, ⟨z'', ?_, ⟨u', u2', ?_⟩, ?_, ?_⟩, fun c hcm => ?_⟩
    · exact (sb.2 _ S.TIz).trans (hk _ _ S.TIz S.TITO S.TIi1 S.TIi2 hTI)
    · exact (sb.2 _ S.TOz).trans TO'
    · exact st1.1.keep fun o q => (sb.2 _ (Ne.symm S.zi1)).trans q
    · exact st2.1.keep fun o q => (sb.2 _ (Ne.symm S.zi2)).trans q
    · have hlt : c < s.heap.objs.size := by
        have e' : c = z ∨ c = TI ∨ c = TO ∨ c = i1 ∨ c = i2 := by simpa using hcm
        rcases e' with q | q | q | q | q
        · rw [q]; exact hzl
        · rw [q]; exact Heap.lt_size hTI
        · rw [q]; exact Heap.lt_size hTO
        · rw [q]; exact Heap.lt_size ho1
        · rw [q]; exact Heap.lt_size ho2
      rw [upd_ne (Nat.ne_of_lt hlt)]
      exact (hf c hcm).1
  done := by
    intro X hP hw hK hc i pins s σ H E I hf st hg
    subst hP hw hK
    obtain ⟨hz, hTI, ⟨x0, y0, hTO⟩, h1, h2⟩ := st
    obtain ⟨xs, ys, hqx, hqy, hl1, hl2, hend⟩ := hg
    obtain ⟨its, rv, p⟩ := sqk_is I hqx
    obtain ⟨its2, rv2, p2⟩ := sqk_is I hqy
    obtain ⟨oa, hoa, hca⟩ := p.get
    obtain ⟨ob, hob, hcb⟩ := p2.get
    obtain ⟨o1, ho1, _, hc1⟩ := h1.get
    obtain ⟨o2, ho2, _, hc2⟩ := h2.get
    have n1 : a ≠ i1 := ne_of_cls hoa ho1 hca hc1 (by cases κ <;> decide)
    have n2 : b ≠ i2 := ne_of_cls hob ho2 hcb hc2 (by cases κ2 <;> decide)
    have e1 : its.toArray.size = xs.length := by rw [rv.length]; simp
    have e2 : its2.toArray.size = ys.length := by rw [rv2.length]; simp
    exact wpAny_pyNext_zipD2_end S (drawsK (A := X.A.in1) (I.ok.hd hc) i1 a n1 its.toArray) (drawsK (A := X.A.in1) (I.ok.hd hc) i2 b n2 its2.toArray) hz hTI hTO ⟨h1, p⟩ ⟨h2, p2⟩ (by rw [e1]; exact hl1) (by rw [e2]; exact hl2) (by rw [e1, e2]; exact hend)
      fun h' tk hk => ⟨rfl, I.turnedL (t' := tk) (ch := [z, TI, TO, i1, i2]) (fun c o hb q =>
        hk c o (fun q' => hb (by simp [q'])) (fun q' => hb (by simp [q'])) (fun q' => hb (by simp [q'])) (fun q' => hb (by simp [q'])) q) hf⟩
  self := fun A i s Q E st h => wpAny_pyIter_zip st.1 h
def iZipK (K : PySem.W.Frag) (ta : TA) : TI := fun σ H R => ta σ H fun vs H1 => ∃ κ κ2 a b xs ys, vs = [.ref a, .ref b] ∧ SqK κ K H1 a xs ∧ SqK κ2 K H1 b ys ∧ R (ItzK κ κ2 K a b) H1
theorem pi_zipK {X : Cx} {e e2 : Expr} {ta : TA} {p pos tpos : Pos} {elts : List Expr} {kk : Nat} (hg : Gl X "zip") (hm : X.mg "zip" = none) (ha : PA X [e, e2] ta)
    (hs : starEach [e, e2] X.env = (false, eval e X.env) :: starEach [e2] X.env := by rfl) (hpl : (backTo pos (starEach [e2] X.env)).any (·.1) = false := by rfl) :
    PI X (.Tuple elts kk tpos) (.Call (.Name "zip" p) [e, e2] [] pos) (iZipK X.K ta) := by
  refine ⟨fun pins s σ H R I h => ?_⟩
  refine Call_ (ld_blt I hg hm PyProof.Rows.boot_zip (PyProof.Rows.callWith_type1 (thn (ha.run pos pins s σ H _ I h) fun us s1 ⟨vs, H1, I1, r1, q1⟩ => ?_) hs hpl))
  obtain ⟨κ, κ2, a, b, xs, ys, ex, hqx, hqy, q⟩ := q1
  subst ex
  cases r1 with
  | cons r rr =>
    cases rr with
    | cons r' rr =>
      cases rr
      cases r
      cases r'
      have fresh5 : ∀ c, c ∈ [s1.heap.objs.size + 4, s1.heap.objs.size + 2, s1.heap.objs.size + 3, s1.heap.objs.size, s1.heap.objs.size + 1] → FpOk X pins H1 c := fun c hcm => by
        have e' : c = s1.heap.objs.size + 4 ∨ c = s1.heap.objs.size + 2 ∨ c = s1.heap.objs.size + 3 ∨ c = s1.heap.objs.size ∨ c = s1.heap.objs.size + 1 := by simpa using hcm
        have hle : s1.heap.objs.size ≤ c := by
          rcases e' with z | z | z | z | z
          · rw [z]; exact Nat.le_add_right _ _
          · rw [z]; exact Nat.le_add_right _ _
          · rw [z]; exact Nat.le_add_right _ _
          · rw [z]; exact Nat.le_refl _
          · rw [z]; exact Nat.le_add_right _ _
        exact I1.fpOk hle (I1.hok.fresh hle)
      obtain ⟨its, rv, p1⟩ := sqk_is I1 hqx
      obtain ⟨its2, rv2, p2⟩ := sqk_is I1 hqy
      obtain ⟨oa, hoa, _⟩ := p1.get
      obtain ⟨ob, hob, _⟩ := p2.get
      have la : a < s1.heap.objs.size := Heap.lt_size hoa
      have lb : b < s1.heap.objs.size := Heap.lt_size hob
      refine zip_begins2 (beginsK a its.toArray) (beginsK b its2.toArray) p1 p2 fun h' hz hTI hTO g1 g2 hsz hk => wpAny_pyIter_zip hz ?_
      have I2 : Inv X pins σ H1 { s1 with heap := h' } := I1.kept (t' := s1.toks) hk
      exact ⟨s1.heap.objs.size + 4, [s1.heap.objs.size + 4, s1.heap.objs.size + 2, s1.heap.objs.size + 3, s1.heap.objs.size, s1.heap.objs.size + 1], _, _, H1, rfl, I2,
        turn_zipK (zip_sep2 (fp1 := [a]) (fp2 := [b]) (fun c hc => by rw [List.mem_singleton.mp hc]; exact la) (fun c hc => by rw [List.mem_singleton.mp hc]; exact lb)), ⟨hz, hTI, ⟨_, _, hTO⟩, .zero g1, .zero g2⟩, fresh5, q⟩

/-! ### their walks over plain data -/
theorem rp_sqk {K : PySem.W.Frag} {G : Hp} {v : V} {d : D} {ds : List D} (r : Rp K G v d) (e : items d = some ds) : ∃ κ a vs, v = .ref a ∧ RpL K G vs ds ∧ (κ = false → G a = some (.lst vs)) ∧ (κ = true → SqF K G a vs) := by
  cases r with
  | lst h1 h2 => cases e; exact ⟨false, _, _, rfl, h2, (fun _ => h1), fun z => by cases z⟩
  | tup h1 h2 => cases e; exact ⟨true, _, _, rfl, h2, (fun z => by cases z), fun _ => h1⟩
  | _ => cases e
theorem sqk_of {κ : Bool} {K : PySem.W.Frag} {G H : Hp} {a : Addr} {vs : List V} (h1 : κ = false → G a = some (.lst vs)) (h2 : κ = true → SqF K G a vs) (s : Sub G H) : SqK κ K H a vs := by
  cases κ with
  | false => exact SqL.of (s _ _ (h1 rfl))
  | true => exact s.seq (h2 rfl)
def enumD (ds : List D) : List D := ds.zipIdx.map fun p => .tuple [.int (p.2 : Nat), p.1]
def zipD (xs ys : List D) : List D := List.zipWith (fun a b => .tuple [a, b]) xs ys
theorem pair_new {K : PySem.W.Frag} {G H : Hp} {T : Addr} {o : Obj} {x y : V} {d e : D} (hc : o.cls = .type "tuple") (hd : o.dict = none) (s : Sub G H) (h : H T = none) (r1 : Rp K G x d) (r2 : Rp K G y e) : New G H (upd G T (.frz o (.tup [x, y]))) (upd H T (.frz o (.tup [x, y]))) ∧ Rp K (upd G T (.frz o (.tup [x, y]))) (.ref T) (.tuple [d, e]) :=
  ⟨New.laid s h, rp_newT hc hd s h (.cons r1 (.cons r2 .nil))⟩
theorem walks_enum {κ : Bool} {K : PySem.W.Frag} {G : Hp} {a : Addr} {vs : List V} {ds : List D} (h1 : κ = false → G a = some (.lst vs)) (h2 : κ = true → SqF K G a vs) (r : RpL K G vs ds) : Walks K (IteK κ K a) (enumD ds) G := fun G2 H2 s1 s2 i => by
  have hl : (enumD ds).length = ds.length := by simp [enumD]
  have hH : SqK κ K H2 a vs := sqk_of h1 h2 (s1.trans s2)
  have r2 := r.sub s1
  rw [hl]
  refine ⟨fun hi => ?_, fun hi => ⟨vs, hH, by rw [r.length]; exact hi⟩⟩
  obtain ⟨v, e, _⟩ := r.get (i := i) (d := ds[i]) (List.getElem?_eq_getElem hi)
  refine ⟨⟨vs, v, hH, e⟩, fun x H3 y => ?_⟩
  obtain ⟨T, x', rfl, nT, ⟨ob, oc, od, rfl⟩, f⟩ := y
  obtain ⟨d, e1, e2⟩ := r2.get' (f vs hH)
  obtain ⟨n, rp⟩ := pair_new oc od s2 nT (.int (i : Nat)) e2
  refine ⟨_, .tuple [.int (i : Nat), d], ?_, n, rp⟩
  unfold enumD
  rw [List.getElem?_map, List.getElem?_zipIdx, e1]
  simp
theorem walks_zip {κ κ2 : Bool} {K : PySem.W.Frag} {G : Hp} {a b : Addr} {vs us : List V} {ds es : List D} (h1 : κ = false → G a = some (.lst vs)) (h2 : κ = true → SqF K G a vs) (r : RpL K G vs ds)
    (k1 : κ2 = false → G b = some (.lst us)) (k2 : κ2 = true → SqF K G b us) (r' : RpL K G us es) : Walks K (ItzK κ κ2 K a b) (zipD ds es) G := fun G2 H2 s1 s2 i => by
  have hl : (zipD ds es).length = min ds.length es.length := by simp [zipD]
  have hH : SqK κ K H2 a vs := sqk_of h1 h2 (s1.trans s2)
  have kH : SqK κ2 K H2 b us := sqk_of k1 k2 (s1.trans s2)
  have r2 := r.sub s1
  have r2' := r'.sub s1
  have l1 := r.length
  have l2 := r'.length
  rw [hl]
  refine ⟨fun hi => ?_, fun hi => ⟨vs, us, hH, kH, by omega, by omega, by omega⟩⟩
  obtain ⟨v, e, _⟩ := r.get (i := i) (d := ds[i]) (List.getElem?_eq_getElem (by omega))
  obtain ⟨v', e', _⟩ := r'.get (i := i) (d := es[i]) (List.getElem?_eq_getElem (by omega))
  refine ⟨⟨vs, us, v, v', hH, kH, e, e'⟩, fun x H3 y => ?_⟩
  obtain ⟨T, x', y', rfl, nT, ⟨ob, oc, od, rfl⟩, f, f'⟩ := y
  obtain ⟨d, e1, e2⟩ := r2.get' (f vs hH)
  obtain ⟨d', e1', e2'⟩ := r2'.get' (f' us kH)
  obtain ⟨n, rp⟩ := pair_new oc od s2 nT e2 e2'
  refine ⟨_, .tuple [d, d'], ?_, n, rp⟩
  unfold zipD
  rw [List.getElem?_zipWith, e1, e1']
def enumF : List D → Option (List D)
  | [d] => (items d).map enumD
  | _ => none
def zipF : List D → Option (List D)
  | [a, b] => match items a, items b with
    | some xs, some ys => some (zipD xs ys)
    | _, _ => none
  | _ => none
section
variable {γ : Type} {m : Type → Type} [PM γ m] {β : Type} {C : Cc γ} {X : Cx} {ρ : En} {x : m β}
theorem ci_enum {elts : List Expr} {kk : Nat} {tpos : Pos} {a : Expr} {p pos : Pos} {k : List D → m β} (hm : X.mg "enumerate" = none) (ha : CD C X ρ [a] x (fun ds => bnd (need (enumF ds)) k)) (hg : Gl X "enumerate" := by rfl) (hs : starEach [a] X.env = [(false, eval a X.env)] := by rfl) :
    CI C X ρ (.Tuple elts kk tpos) (.Call (.Name "enumerate" p) [a] [] pos) x k := fun Qf =>
  PI.imp (pi_enumK hg hm (ha Qf) hs) fun σ H R ⟨G, J, g, st, w, h⟩ => ⟨G, J, g, st, w, fun vs ds H' G' J' g' af si rl hl w' => by
    obtain ⟨xs, e1, w2⟩ := of_need w'
    match ds, rl, e1 with
    | [d], .cons r1 .nil, e1 =>
      unfold enumF at e1
      cases q : items d with
      | none => simp [q] at e1
      | some ys =>
        simp [q] at e1
        subst e1
        obtain ⟨κ, a, vs, rfl, r2, h1, h2⟩ := rp_sqk r1 q
        exact ⟨κ, a, vs, rfl, sqk_of h1 h2 af.vis.sub, h _ _ H' G' J' g' af si (walks_enum h1 h2 r2) w2⟩
    | [], _, e1 => cases e1
    | _ :: _ :: _, _, e1 => cases e1⟩
theorem ci_zip {elts : List Expr} {kk : Nat} {tpos : Pos} {a b : Expr} {p pos : Pos} {k : List D → m β} (hm : X.mg "zip" = none) (ha : CD C X ρ [a, b] x (fun ds => bnd (need (zipF ds)) k)) (hg : Gl X "zip" := by rfl)
    (hs : starEach [a, b] X.env = (false, eval a X.env) :: starEach [b] X.env := by rfl) (hpl : (backTo pos (starEach [b] X.env)).any (·.1) = false := by rfl) :
    CI C X ρ (.Tuple elts kk tpos) (.Call (.Name "zip" p) [a, b] [] pos) x k := fun Qf =>
  PI.imp (pi_zipK hg hm (ha Qf) hs hpl) fun σ H R ⟨G, J, g, st, w, h⟩ => ⟨G, J, g, st, w, fun vs ds H' G' J' g' af si rl hl w' => by
    obtain ⟨xs, e1, w2⟩ := of_need w'
    match ds, rl, e1 with
    | [d, e], .cons r1 (.cons rB .nil), e1 =>
      unfold zipF at e1
      cases q : items d with
      | none => simp [q] at e1
      | some ys =>
        cases q' : items e with
        | none => simp [q, q'] at e1
        | some zs =>
          simp [q, q'] at e1
          subst e1
          obtain ⟨κ, a, vs, rfl, r2, h1, h2⟩ := rp_sqk r1 q
          obtain ⟨κ2, b, us, rfl, r2', k1, k2⟩ := rp_sqk rB q'
          exact ⟨κ, κ2, a, b, vs, us, rfl, sqk_of h1 h2 af.vis.sub, sqk_of k1 k2 af.vis.sub, h _ _ H' G' J' g' af si (walks_zip h1 h2 r2 k1 k2 r2') w2⟩
    | [], _, e1 => cases e1
    | [_], _, e1 => cases e1
    | _ :: _ :: _ :: _, _, e1 => cases e1⟩
end
end Cl

set_option Elab.async false
set_option linter.all false
set_option maxRecDepth 100000
set_option maxHeartbeats 4000000
/-! the clean layer, part L: calls with keywords, stores of several names, one's own list's items -/
namespace Cl
open PySem PySem.Spec PyProof.Rows L2
open MO

section
variable {γ : Type} {m : Type → Type} [PM γ m] {α β δ τ : Type} {C : Cc γ} {X : Cx} {ρ : En}
/-! ### keywords -/
def CK {β : Type} (C : Cc γ) (X : Cx) (ρ : En) (es : List Keyword) (x : m β) (k : List R → m β) : Prop :=
  ∀ Qf : β → γ → Prop, PK X es (fun σ H Q => ∃ G J g, C.St X.K ρ σ H G J g ∧ PM.wp x g Qf C.EX ∧
    ∀ vs rs H' G' J' g', Aft G J H G' J' H' → C.S.si g' G' J' H' → RRs X.K G' J' H' H vs rs → rs.length = es.length → PM.wp (k rs) g' Qf C.EX → Q vs H')
theorem PK.imp {X : Cx} {e : List Keyword} {t t' : TA} (h : PK X e t) (i : ∀ σ H Q, t' σ H Q → t σ H Q) : PK X e t' := ⟨fun pos pins s σ H Q I q => h.run pos pins s σ H Q I (i σ H Q q)⟩
theorem PK.ex {X : Cx} {e : List Keyword} {ι : Type} {t : ι → TA} (h : ∀ i, PK X e (t i)) : PK X e (fun σ H Q => ∃ i, t i σ H Q) := ⟨fun pos pins s σ H Q I ⟨i, q⟩ => (h i).run pos pins s σ H Q I q⟩
theorem ck_nil {k : List R → m β} : CK C X ρ [] (k []) k := fun Qf => PK.imp pk_nil fun σ H Q ⟨G, J, g, st, w, h⟩ => h [] [] H G J g (Aft.refl st.vis) st.si .nil rfl w
theorem ck_cons {nm : Option Str} {kpos : Pos} {e : Expr} {es : List Keyword} {rk : α → R} {x : m β} {y : α → m β} {k : List R → m β} (hr : ∀ a, CK C X ρ es (y a) (fun rs => k (rk a :: rs))) (he : CE C X ρ e rk x y) : CK C X ρ (⟨nm, e, kpos⟩ :: es) x k := fun Qf =>
  PK.imp (pk_cons (he Qf) (PK.ex fun a => hr a Qf)) fun σ H Q ⟨G, J, g, st, w, h⟩ => ⟨G, J, g, st, w, fun v a H1 G1 J1 g1 af1 si1 rr w1 => ⟨a, G1, J1, g1, st.go af1 si1, w1, fun vs rs H' G' J' g' af si rrs hl w' =>
    h (v :: vs) (rk a :: rs) H' G' J' g' (af1.trans af) si (.cons (rr.aft af) (rrs.base fun c h => Classical.byContradiction fun z => af1.dm c z h)) (by rw [List.length_cons, List.length_cons, hl]) w'⟩⟩
end
/-- how a def's parameters are filled: n values by place, the keywords ks, each parameter's source -/
def pick {α : Type} (d : α) (perm : List Nat) (xs : List α) : List α := perm.map fun i => xs.getD i d
structure KwB (K : PySem.W.Frag) (mg : Str → Option Value) (x : Str) (ps : List Str) (n : Nat) (ks : List Str) (perm : List Nat) : Prop where
  b : ∀ f fd oc od sl, mg x = some (.ref f) → K.lookup f = some ⟨oc, od, .func fd, sl⟩ → ∀ us ws : List Value, us.length = n → ws.length = ks.length → bindArgs fd ⟨us, ks.zip ws⟩ = pure (ps.zip (pick Value.none perm (us ++ ws)))
theorem kwb_of {K : PySem.W.Frag} {mg : Str → Option Value} {x qual : Str} {st : Stmt} {ps : List Str} {n : Nat} {ks : List Str} {perm : List Nat} (F : Dfd K mg x qual st ps)
    (h : ∀ (kV doc pm : Value) (an : Option Addr) (cdv ct : Value) (us ws : List Value), us.length = n → ws.length = ks.length → bindArgs (PySem.W.fnOf x qual (defArgs st) (defBody st) (defScope st) .none kV doc pm an cdv ct) ⟨us, ks.zip ws⟩ = pure (ps.zip (pick Value.none perm (us ++ ws)))) : KwB K mg x ps n ks perm := by
  obtain ⟨f, fd, hm, FF, hb⟩ := F.ex
  obtain ⟨oc, od, kV, doc, pm, an, cdv, ct, osl, rfl, lk, hcd⟩ := FF.ex
  refine ⟨fun f' fd' oc' od' sl' hm' lk' us ws h1 h2 => ?_⟩
  rw [hm] at hm'
  cases hm'
  rw [lk] at lk'
  cases lk'
  exact h kV doc pm an cdv ct us ws h1 h2
theorem pick_vals {perm : List Nat} {vs : List V} {us : List Value} (r : Vals vs us) : Vals (pick V.non perm vs) (pick Value.none perm us) := by
  induction perm with
  | nil => exact .nil
  | cons i is ih =>
    refine .cons ?_ ih
    cases q : vs[i]? with
    | none =>
      have q2 : us[i]? = none := by
        rw [List.getElem?_eq_none_iff] at q ⊢
        rw [← r.length]; exact q
      dsimp only
      rw [List.getD_eq_getElem?_getD, List.getD_eq_getElem?_getD, q, q2]
      rfl
    | some v =>
      obtain ⟨u, hu, ru⟩ := r.get q
      dsimp only
      rw [List.getD_eq_getElem?_getD, List.getD_eq_getElem?_getD, q, hu]
      exact ru
theorem RAs.get {K : PySem.W.Frag} {G : Hp} : ∀ {vs : List V} {rs : List R} (i : Nat), RAs K G vs rs → ∀ {vs' : List V} {rs' : List R}, RAs K G vs' rs' → RAs K G (vs.getD i V.non :: vs') (rs.getD i (R.v .none) :: rs')
  | _, _, _, .nil, _, _, t => by simp; exact .v .non t
  | _, _, 0, .v h _, _, _, t => .v h t
  | _, _, 0, .o _, _, _, t => .o t
  | _, _, 0, .l _, _, _, t => .l t
  | _, _, 0, .p _, _, _, t => .p t
  | _, _, i + 1, .v _ s, _, _, t => by simpa using RAs.get i s t
  | _, _, i + 1, .o s, _, _, t => by simpa using RAs.get i s t
  | _, _, i + 1, .l s, _, _, t => by simpa using RAs.get i s t
  | _, _, i + 1, .p s, _, _, t => by simpa using RAs.get i s t
theorem pick_ras {K : PySem.W.Frag} {G : Hp} {perm : List Nat} {vs : List V} {rs : List R} (r : RAs K G vs rs) : RAs K G (pick V.non perm vs) (pick (R.v .none) perm rs) := by
  induction perm with
  | nil => exact .nil
  | cons i is ih => exact RAs.get i r ih
theorem RAs.append {K : PySem.W.Frag} {G : Hp} : ∀ {vs us : List V} {rs qs : List R}, RAs K G vs rs → RAs K G us qs → RAs K G (vs ++ us) (rs ++ qs)
  | _, _, _, _, .nil, t => t
  | _, _, _, _, .v h s, t => .v h (RAs.append s t)
  | _, _, _, _, .o s, t => .o (RAs.append s t)
  | _, _, _, _, .l s, t => .l (RAs.append s t)
  | _, _, _, _, .p s, t => .p (RAs.append s t)
section
variable {X : Cx} {k : Nat} {ps ks : List Str} {perm : List Nat} {sp : Sp} {x : Str} {p pos : Pos} {e : Expr} {es : List Expr} {kws : List Keyword} {t tk : TA}
theorem vals_app : ∀ {vs vs' : List V} {us us' : List Value}, Vals vs us → Vals vs' us' → Vals (vs ++ vs') (us ++ us')
  | _, _, _, _, .nil, t => t
  | _, _, _, _, .cons r s, t => .cons r (vals_app s t)
theorem pe_callGK0 (c : Cal X.prog X.w X.K X.mg X.base x k ps sp) (b : KwB X.K X.mg x ps 0 ks perm) (hr : Room k X.A) (hgd : X.A.guards = some []) (hg : Gl X x) (ha : PK X kws tk) (hpm : perm.length = ps.length) (hkl : kws.length = ks.length) (hdb : (x == ("__debug__" : Str)) = false)
    (hln : ∀ σ H Q, tk σ H Q → tk σ H fun zs H' => zs.length = kws.length ∧ Q zs H')
    (hall : (backToKw pos (keywordEach kws X.env)).all (·.1.isSome) = true) (hks : (backToKw pos (keywordEach kws X.env)).filterMap (·.1) = ks)
    (hpl : ((backTo pos (starEach [] X.env)).any (·.1) || (backToKw pos (keywordEach kws X.env)).any (·.1.isNone)) = false) : PE X (.Call (.Name x p) [] kws pos) (fun σ H Q => tk σ H fun zs H1 => sp (pick V.non perm zs) H1 Q E0) := by
  obtain ⟨f, fd, hm, F, hk, hb, hb2, oc, od, sl, hlk⟩ := c.ex
  refine ⟨fun pins s σ H Q I h => wpAny_Call_Name_kw (ld_glob I hg hm (PySem.W.callWith_KW0 (h₀ := X.base) I.ok.mod.kin hk hall (thn (ha.run pos pins s σ H _ I (hln σ H _ h)) fun ws s1 ⟨zs, H1, I1, rz, hl, q⟩ => ⟨I1.kIn, ?_⟩) hpl) hdb)⟩
  rw [hks]
  have hw : ws.length = ks.length := by rw [← rz.length, hl, hkl]
  have e1 := b.b f fd oc od sl hm hlk [] ws rfl hw
  have r2 := pick_vals (perm := perm) rz
  exact go_fnG (us := pick Value.none perm ws) F hr hgd I1 (hb s1 ⟨[], ks.zip ws⟩ _ (by unfold pick; rw [List.length_map, hpm]) (by rw [List.nil_append] at e1; exact e1)) r2 q
theorem pe_callGK (c : Cal X.prog X.w X.K X.mg X.base x k ps sp) (b : KwB X.K X.mg x ps (es.length + 1) ks perm) (hr : Room k X.A) (hgd : X.A.guards = some []) (hg : Gl X x) (ha : PA X (e :: es) t) (hkw : PK X kws tk) (hpm : perm.length = ps.length) (hkl : kws.length = ks.length) (hdb : (x == ("__debug__" : Str)) = false)
    (hla : ∀ σ H Q, t σ H Q → t σ H fun zs H' => zs.length = es.length + 1 ∧ Q zs H') (hln : ∀ σ H Q, tk σ H Q → tk σ H fun zs H' => zs.length = kws.length ∧ Q zs H') (hmono : ∀ σ H (Q Q' : List V → Hp → Prop), t σ H Q → (∀ vs H1, Q vs H1 → Q' vs H1) → t σ H Q')
    (hall : (backToKw pos (keywordEach kws X.env)).all (·.1.isSome) = true) (hks : (backToKw pos (keywordEach kws X.env)).filterMap (·.1) = ks) (he : starEach (e :: es) X.env = (false, eval e X.env) :: starEach es X.env)
    (hpl : ((backTo pos (starEach (e :: es) X.env)).any (·.1) || (backToKw pos (keywordEach kws X.env)).any (·.1.isNone)) = false) : PE X (.Call (.Name x p) (e :: es) kws pos) (fun σ H Q => t σ H fun vs H0 => tk σ H0 fun zs H1 => sp (pick V.non perm (vs ++ zs)) H1 Q E0) := by
  obtain ⟨f, fd, hm, F, hk, hb, hb2, oc, od, sl, hlk⟩ := c.ex
  refine ⟨fun pins s σ H Q I h => wpAny_Call_Name_kw (ld_glob I hg hm (PySem.W.callWith_KW (h₀ := X.base) I.ok.mod.kin hk hall (thn (ha.run pos pins s σ H _ I (hla σ H _ h)) fun us s0 ⟨vs, H0, I0, ru, hlu, q0⟩ => (thn (hkw.run pos pins s0 σ H0 _ I0 (hln σ H0 _ q0)) fun ws s1 ⟨zs, H1, I1, rz, hl, q⟩ => ⟨I1.kIn, ?_⟩)) hpl he) hdb)⟩
  rw [hks]
  have hw : ws.length = ks.length := by rw [← rz.length, hl, hkl]
  have hu : us.length = es.length + 1 := by rw [← ru.length, hlu]
  have e1 := b.b f fd oc od sl hm hlk us ws hu hw
  have r2 := pick_vals (perm := perm) (vals_app ru rz)
  exact go_fnG (us := pick Value.none perm (us ++ ws)) F hr hgd I1 (hb s1 ⟨us, ks.zip ws⟩ _ (by unfold pick; rw [List.length_map, hpm]) e1) r2 q
end
section
variable {γ : Type} {m : Type → Type} [PM γ m] {α β δ τ : Type} {C : Cc γ} {X : Cx} {ρ : En}
theorem fin_callP {sig : Sig} {f : Ar sig → P δ} {rk : δ → R} {rs : List R} {vs : List V} {k : δ → m β} {Qf : β → γ → Prop} {Q : VK} {H H1 G G1 : Hp} {J J1 : Addr → Prop} {g1 : γ} (hEX : ∀ x g, C.EX x g → False) (af1 : Aft G J H G1 J1 H1) (si1 : C.S.si g1 G1 J1 H1) (ra : RAs X.K G1 vs rs) (hn : rs.length = sig.length)
    (w1 : PM.wp (bnd (lift (callM sig f rs) : m δ) k) g1 Qf C.EX)
    (h : ∀ v a H' G' J' g', Aft G J H G' J' H' → C.S.si g' G' J' H' → RR X.K G' J' H' H v (rk a) → PM.wp (k a) g' Qf C.EX → Q v H') : spC X.K S0 sig f rk vs H1 Q E0 := by
  refine ⟨G1, fun _ => False, (), rs, ⟨af1.vis.sub, fun _ h => h.elim, fun _ h => h.elim⟩, fun _ h => h, ra, hn, ?_⟩
  have w2 := PM.of_lift (PM.of_bnd w1)
  cases e1 : callM sig f rs with
  | no => rw [e1] at w2; exact w2.elim
  | ex q => rw [e1] at w2; exact (hEX _ _ w2).elim
  | ok d =>
    rw [e1] at w2
    intro v H' G' J' af si rr
    have n : New G1 H1 G' H' := ⟨af.gg, fun a o h => af.hh a o (fun z => z) h, af.gn, af.vis.sub⟩
    refine h v d H' G' J1 g1 (af1.trans (n.aft af1.vis)) (SIx.nw si1 n) ?_ w2
    have rr' : RR X.K G' J1 H' H1 v (rk d) := by
      cases q : rk d with
      | v d => rw [q] at rr; exact rr
      | o x => rw [q] at rr; exact rr
      | l c =>
        rw [q] at rr
        obtain ⟨p, h1, h2, h3, h4, h5⟩ := rr
        exact ⟨p, h1, h2, h3, fun j => af1.vis.dom p j h2, h5⟩
      | p xs d =>
        rw [q] at rr
        obtain ⟨t, p, v2, h1, ht, hr2, h2, h3, h4, h5⟩ := rr
        exact ⟨t, p, v2, h1, ht, hr2, h2, h3, fun j => af1.vis.dom p j h2, h5⟩
    exact rr'.base af1.back
theorem RRs.length {K : PySem.W.Frag} {G H Hb : Hp} {J : Addr → Prop} : ∀ {vs : List V} {rs : List R}, RRs K G J H Hb vs rs → vs.length = rs.length
  | _, _, .nil => rfl
  | _, _, .cons _ t => by rw [List.length_cons, List.length_cons, RRs.length t]
/-- f(k = e, ..): only keywords, a plain def -/
theorem ce_callPK0 {x : Str} {lvl : Nat} {ps ks : List Str} {perm : List Nat} {sig : Sig} {f : Ar sig → P δ} {rk : δ → R} {p pos : Pos} {kws : List Keyword} {y : m β} {k : δ → m β} (c : Cal X.prog X.w X.K X.mg X.base x lvl ps (spC X.K S0 sig f rk)) (b : KwB X.K X.mg x ps 0 ks perm) (hr : Room lvl X.A) (hgd : X.A.guards = some [])
    (ha : CK C X ρ kws y (fun rs => bnd (lift (callM sig f (pick (R.v .none) perm rs))) k)) (hpm : perm.length = ps.length := by rfl) (hl : perm.length = sig.length := by rfl) (hkl : kws.length = ks.length := by rfl) (hg : Gl X x := by rfl) (hEX : ∀ x g, C.EX x g → False := by exact fun _ _ h => h) (hdb : (x == ("__debug__" : Str)) = false := by decide)
    (hall : (backToKw pos (keywordEach kws X.env)).all (·.1.isSome) = true := by rfl) (hks : (backToKw pos (keywordEach kws X.env)).filterMap (·.1) = ks := by rfl)
    (hpl : ((backTo pos (starEach [] X.env)).any (·.1) || (backToKw pos (keywordEach kws X.env)).any (·.1.isNone)) = false := by rfl) : CE C X ρ (.Call (.Name x p) [] kws pos) rk y k := fun Qf => by
  refine PE.imp (pe_callGK0 c b hr hgd hg (ha Qf) hpm hkl hdb (fun σ H Q ⟨G, J, g, st, w, h⟩ => ⟨G, J, g, st, w, fun vs rs H' G' J' g' af si rrs hn w' => ⟨by rw [rrs.length, hn], h vs rs H' G' J' g' af si rrs hn w'⟩⟩) hall hks hpl)
    fun σ H Q ⟨G, J, g, st, w, h⟩ => ⟨G, J, g, st, w, fun vs rs H1 G1 J1 g1 af1 si1 rrs hn w1 => ?_⟩
  exact fin_callP hEX af1 si1 (pick_ras rrs.ras) (by unfold pick; rw [List.length_map, hl]) w1 h
/-- f(e, .., k = e, ..) -/
theorem ce_callPK {x : Str} {lvl : Nat} {ps ks : List Str} {perm : List Nat} {sig : Sig} {f : Ar sig → P δ} {rk : δ → R} {p pos : Pos} {e : Expr} {es : List Expr} {kws : List Keyword} {y : m β} {y2 : List R → m β} {k : δ → m β} (c : Cal X.prog X.w X.K X.mg X.base x lvl ps (spC X.K S0 sig f rk)) (b : KwB X.K X.mg x ps (es.length + 1) ks perm) (hr : Room lvl X.A) (hgd : X.A.guards = some [])
    (hk : ∀ rs, CK C X ρ kws (y2 rs) (fun qs => bnd (lift (callM sig f (pick (R.v .none) perm (rs ++ qs)))) k)) (ha : CA C X ρ (e :: es) y y2) (hpm : perm.length = ps.length := by rfl) (hl : perm.length = sig.length := by rfl) (hkl : kws.length = ks.length := by rfl) (hg : Gl X x := by rfl) (hEX : ∀ x g, C.EX x g → False := by exact fun _ _ h => h) (hdb : (x == ("__debug__" : Str)) = false := by decide)
    (hall : (backToKw pos (keywordEach kws X.env)).all (·.1.isSome) = true := by rfl) (hks : (backToKw pos (keywordEach kws X.env)).filterMap (·.1) = ks := by rfl) (he : starEach (e :: es) X.env = (false, eval e X.env) :: starEach es X.env := by rfl)
    (hpl : ((backTo pos (starEach (e :: es) X.env)).any (·.1) || (backToKw pos (keywordEach kws X.env)).any (·.1.isNone)) = false := by rfl) : CE C X ρ (.Call (.Name x p) (e :: es) kws pos) rk y k := fun Qf => by
  refine PE.imp (pe_callGK c b hr hgd hg (ha Qf) (PK.ex fun rs => hk rs Qf) hpm hkl hdb (fun σ H Q ⟨G, J, g, st, w, h⟩ => ⟨G, J, g, st, w, fun vs rs H' G' J' g' af si rrs hn w' => ⟨by rw [rrs.length, hn]; rfl, h vs rs H' G' J' g' af si rrs hn w'⟩⟩)
    (fun σ H Q ⟨rs, G, J, g, st, w, h⟩ => ⟨rs, G, J, g, st, w, fun vs rs H' G' J' g' af si rrs hn w' => ⟨by rw [rrs.length, hn], h vs rs H' G' J' g' af si rrs hn w'⟩⟩)
    (fun σ H Q Q' ⟨G, J, g, st, w, h⟩ hm => ⟨G, J, g, st, w, fun vs rs H' G' J' g' af si rrs hn w' => hm _ _ (h vs rs H' G' J' g' af si rrs hn w')⟩) hall hks he hpl)
    fun σ H Q ⟨G, J, g, st, w, h⟩ => ⟨G, J, g, st, w, fun vs rs H1 G1 J1 g1 af1 si1 rrs hn w1 => ⟨rs, G1, J1, g1, st.go af1 si1, w1, fun zs qs H2 G2 J2 g2 af2 si2 rrs2 hn2 w2 => ?_⟩⟩
  exact fin_callP hEX (af1.trans af2) si2 (pick_ras ((rrs.aft af2).ras.append rrs2.ras)) (by unfold pick; rw [List.length_map, hl]) w2 h
end

/-! ### stores of several names -/
@[reducible] def entO : R → Option Ent
  | .v d => some (.val d)
  | .l c => some (.own c)
  | .o a => some (.obj a)
  | .p _ _ => none
section
variable {γ : Type} {m : Type → Type} [PM γ m] {α α2 α3 β δ τ ω : Type} {C : Cc γ} {X : Cx} {ρ : En} {rest : List Stmt} {out : ω → En} {outL : τ → En} {rk : δ → R} {x : m β} {kn : ω → m β} {kr : δ → m β} {kb kc : τ → m β}
theorem Cc.St.setR {K : PySem.W.Frag} {σ : L2.St} {H G H' G' : Hp} {J J' : Addr → Prop} {g g' : γ} {v : V} {r : R} {i : Nat} (st : C.St K ρ σ H G J g) (af : Aft G J H G' J' H') (si : C.S.si g' G' J' H') (rr : RR K G' J' H' H v r) :
    C.St K (ρ.set i ((entO r))) (σ.set i (some v)) H' G' J' g' := by
  cases r with
  | v d => exact ⟨(st.env.aft af).setV rr, st.aft.trans af, si⟩
  | o a => cases rr; exact ⟨(st.env.aft af).setO, st.aft.trans af, si⟩
  | l c =>
    obtain ⟨p, rfl, hb, hg, hj, hc⟩ := rr
    exact st.setL af si hb hg hj hc
  | p xs d => exact ⟨(st.env.aft af).setN, st.aft.trans af, si⟩
theorem cs_par {i j : Nat} {n1 n2 : Str} {e1 e2 : Expr} {px py pt pos : Pos} {kt k2 pt2} {r1 : α → R} {r2 : α2 → R} {x2 : α → m β} {xr : α → α2 → m β} (hr : ∀ a b, CS C X ((ρ.set i ((entO (r1 a)))).set j ((entO (r2 b)))) rest out outL rk (xr a b) kn kr kb kc)
    (hb : ∀ a, CE C X ρ e2 r2 (x2 a) (xr a)) (ha : CE C X ρ e1 r1 x x2) (hN : X.N.Nodup) (hi : X.N[i]? = some n1 := by rfl) (hj : X.N[j]? = some n2 := by rfl) (hij : i ≠ j := by decide)
    (hx : X.env.scope.names.lookup n1 = some .local := by rfl) (hy : X.env.scope.names.lookup n2 = some .local := by rfl)
    (hw : swappedStores [.Tuple [.Name n1 px, .Name n2 py] kt pt] (.Tuple [e1, e2] k2 pt2) X.env = pure (some [n1, n2]) := by rfl)
    (hs : swapsWithSole [.Tuple [.Name n1 px, .Name n2 py] kt pt] (.Tuple [e1, e2] k2 pt2) pos.line X.env = pure false := by rfl) (hc : X.calm = true := by rfl)
    (hs1 : starEach [e1, e2] X.env = (false, eval e1 X.env) :: starEach [e2] X.env := by rfl) (hs2 : starEach [e2] X.env = (false, eval e2 X.env) :: starEach [] X.env := by rfl) :
    CS C X ρ (.Assign [.Tuple [.Name n1 px, .Name n2 py] kt pt] (.Tuple [e1, e2] k2 pt2) pos :: rest) out outL rk x kn kr kb kc := fun Qf =>
  PSs.imp (pss_cons (ps_par hc hN hi hj hij hx hy (pa_cons (ha Qf) (pa_cons (PE.ex fun a => hb a Qf) pa_nil hs2) hs1) hw hs) (PSs.ex fun p : α × α2 => hr p.1 p.2 Qf)) fun E σ H ⟨G, J, g, st, w, f⟩ =>
    ⟨G, J, g, st, w, fun v1 a H1 G1 J1 g1 af1 si1 rr1 w1 => ⟨a, G1, J1, g1, st.go af1 si1, w1, fun v2 b H2 G2 J2 g2 af2 si2 rr2 w2 =>
      ⟨v1, v2, rfl, (a, b), G2, J2, g2, (st.setR af1 si1 rr1).setR af2 si2 rr2, w2, f.sub (af1.gg.trans af2.gg)⟩⟩⟩
theorem cs_par3 {i j l : Nat} {n1 n2 n3 : Str} {e1 e2 e3 : Expr} {px py pz pt pos : Pos} {kt k2 pt2} {r1 : α → R} {r2 : α2 → R} {r3 : α3 → R} {x2 : α → m β} {x3 : α → α2 → m β} {xr : α → α2 → α3 → m β}
    (hr : ∀ a b c, CS C X (((ρ.set i ((entO (r1 a)))).set j ((entO (r2 b)))).set l ((entO (r3 c)))) rest out outL rk (xr a b c) kn kr kb kc)
    (hd : ∀ a b, CE C X ρ e3 r3 (x3 a b) (xr a b)) (hb : ∀ a, CE C X ρ e2 r2 (x2 a) (x3 a)) (ha : CE C X ρ e1 r1 x x2) (hN : X.N.Nodup) (hi : X.N[i]? = some n1 := by rfl) (hj : X.N[j]? = some n2 := by rfl) (hl : X.N[l]? = some n3 := by rfl) (hij : i ≠ j := by decide) (hil : i ≠ l := by decide) (hjl : j ≠ l := by decide)
    (hx : X.env.scope.names.lookup n1 = some .local := by rfl) (hy : X.env.scope.names.lookup n2 = some .local := by rfl) (hz : X.env.scope.names.lookup n3 = some .local := by rfl)
    (hw : swappedStores [.Tuple [.Name n1 px, .Name n2 py, .Name n3 pz] kt pt] (.Tuple [e1, e2, e3] k2 pt2) X.env = pure (some [n1, n2, n3]) := by rfl)
    (hs : swapsWithSole [.Tuple [.Name n1 px, .Name n2 py, .Name n3 pz] kt pt] (.Tuple [e1, e2, e3] k2 pt2) pos.line X.env = pure false := by rfl) (hc : X.calm = true := by rfl)
    (hs1 : starEach [e1, e2, e3] X.env = (false, eval e1 X.env) :: starEach [e2, e3] X.env := by rfl) (hs2 : starEach [e2, e3] X.env = (false, eval e2 X.env) :: starEach [e3] X.env := by rfl) (hs3 : starEach [e3] X.env = (false, eval e3 X.env) :: starEach [] X.env := by rfl) :
    CS C X ρ (.Assign [.Tuple [.Name n1 px, .Name n2 py, .Name n3 pz] kt pt] (.Tuple [e1, e2, e3] k2 pt2) pos :: rest) out outL rk x kn kr kb kc := fun Qf =>
  PSs.imp (pss_cons (ps_par3 hc hN hi hj hl hij hil hjl hx hy hz (pa_cons (ha Qf) (pa_cons (PE.ex fun a => hb a Qf) (pa_cons (PE.ex fun p : α × α2 => hd p.1 p.2 Qf) pa_nil hs3) hs2) hs1) hw hs) (PSs.ex fun p : α × α2 × α3 => hr p.1 p.2.1 p.2.2 Qf)) fun E σ H ⟨G, J, g, st, w, f⟩ =>
    ⟨G, J, g, st, w, fun v1 a H1 G1 J1 g1 af1 si1 rr1 w1 => ⟨a, G1, J1, g1, st.go af1 si1, w1, fun v2 b H2 G2 J2 g2 af2 si2 rr2 w2 =>
      ⟨(a, b), G2, J2, g2, (st.go af1 si1).go af2 si2, w2, fun v3 c H3 G3 J3 g3 af3 si3 rr3 w3 =>
      ⟨v1, v2, v3, rfl, (a, b, c), G3, J3, g3, ((st.setR af1 si1 rr1).setR af2 si2 rr2).setR af3 si3 rr3, w3, f.sub (af1.gg.trans (af2.gg.trans af3.gg))⟩⟩⟩⟩
/-- target = e, the target a tuple of names -/
theorem cs_asg {tg e : Expr} {pos : Pos} {un : D → Option α} {outT : α → En} {sl : List Nat} {xr : α → m β} (hr : ∀ a, CS C X (outT a) rest out outL rk (xr a) kn kr kb kc) (hg : CG C X ρ tg un outT sl) (he : CE C X ρ e dv x (fun d => bnd (need (un d)) xr))
    (hs : swapsWithSole [tg] e pos.line X.env = pure false := by rfl) (hps : ∀ te g, PE X e te → PG X tg g → PS X (.Assign [tg] e pos) (tAsg te g) := by intro te g he hg; exact ps_asg he hg) : CS C X ρ (.Assign [tg] e pos :: rest) out outL rk x kn kr kb kc := fun Qf =>
  PSs.imp (pss_cons (hps _ _ (he Qf) hg) (PSs.ex fun a => hr a Qf)) fun E σ H ⟨G, J, g, st, w, f⟩ => ⟨G, J, g, st, w, fun v d H1 G1 J1 g1 af1 si1 rr w1 => by
    obtain ⟨a, ea, w2⟩ := of_need w1
    have st1 := st.go af1 si1
    exact ⟨G1, J1, d, a, st1.env, st1.vis.sub, rr, ea, fun σ' e' _ => ⟨a, G1, J1, g1, ⟨e', st1.aft, st1.si⟩, w2, f.sub af1.gg⟩⟩⟩
end

/-! ### an item of one's own list -/
def setF (xs : List D) (i : D) (d : D) : Option (List D) := match i with
  | .int i => (ixN xs.length i).map fun j => xs.set j d
  | _ => none
section
variable {γ : Type} {m : Type → Type} [PM γ m] {α α2 β δ τ ω : Type} {C : Cc γ} {X : Cx} {ρ : En} {rest : List Stmt} {out : ω → En} {outL : τ → En} {rk : δ → R} {x : m β} {kn : ω → m β} {kr : δ → m β} {kb kc : τ → m β}
theorem cs_setI {y : Str} {p1 spos pos : Pos} {ie e : Expr} {xr : List D → m β} {x2 : D → m β} (i : Nat) {xs : List D} (hi : ρ[i]? = some (some (.own (.lst xs)))) (hr : ∀ xs', CS C X (ρ.set i (some (.own (.lst xs')))) rest out outL rk (xr xs') kn kr kb kc)
    (hix : ∀ d, CE C X ρ ie dv (x2 d) (fun j => bnd (need (setF xs j d)) xr)) (he : CE C X ρ e dv x x2) (hp : PE X (.Name y p1) (tVar i) := by exact pv _)
    (hps : ∀ te ti, PE X e te → PE X ie ti → PS X (.Assign [.Subscript (.Name y p1) ie spos] e pos) (tAsg te (gSub (tVar i) ti rSetL)) := by intro te ti he hi; exact ps_asg he (pg_sub (pv _) hi set_list)) :
    CS C X ρ (.Assign [.Subscript (.Name y p1) ie spos] e pos :: rest) out outL rk x kn kr kb kc := fun Qf =>
  PSs.imp (pss_cons (hps _ _ (he Qf) (PE.ex fun d => hix d Qf)) (PSs.ex fun xs' => hr xs' Qf)) fun E σ H ⟨G, J, g, st, w, fi⟩ => ⟨G, J, g, st, w, fun v d H1 G1 J1 g1 af1 si1 rr w1 => by
    obtain ⟨p, h1, h2, h3, h4, vs0, hv0, rl0⟩ := st.env.own i _ hi
    refine ⟨_, h1, d, G1, J1, g1, st.go af1 si1, w1, fun iv j H2 G2 J2 g2 af2 si2 ri w2 => ?_⟩
    obtain ⟨xs', e1, w3⟩ := of_need w2
    have st2 := (st.go af1 si1).go af2 si2
    obtain ⟨p', k1, k2, k3, k4, vs, hv, rl⟩ := st2.env.own i _ hi
    rw [h1] at k1; cases k1
    cases ri with
    | int k =>
      unfold setF at e1
      dsimp only at e1
      cases q : ixN xs.length k with
      | none => rw [q] at e1; cases e1
      | some jj =>
        rw [q] at e1
        cases e1
        exact ⟨p, vs, k, jj, rfl, rfl, hv, by rw [rl.length]; exact q, xs.set jj d, G2, J2, g2, St.ownG st2 hi h1 ⟨_, upd_same, rl.set (Rp.sub af2.gg rr) jj⟩, w3, fi.sub (af1.gg.trans af2.gg)⟩
    | _ => cases e1⟩

/-! ### one's own list is read -/
def flO (d : D) : Option Unit := if flat d = true then some () else none
def flL (ds : List D) : Option Unit := if flatL ds = true then some () else none
theorem Aft.cutB {G G2 H H2 : Hp} {J J2 : Addr → Prop} {p : Addr} {o : HO} (af : Aft (upd G p o) J H G2 J2 H2) (hg : G p = none) : Aft G J H (cut G2 p) J2 H2 where
  gg := fun a u e => by
    have ne : a ≠ p := ne_of_none e hg
    rw [cut_ne ne]
    exact af.gg a u (by rw [upd_ne ne]; exact e)
  hh := af.hh
  dm := af.dm
  gn := fun a h => by
    by_cases z : a = p
    · subst z; exact absurd cut_same h
    · rw [cut_ne z] at h
      rcases af.gn a h with q | q
      · rw [upd_ne z] at q; exact .inl q
      · exact .inr q
  jn := af.jn
  vis := ⟨fun a u e => by
    by_cases z : a = p
    · subst z; rw [cut_same] at e; cases e
    · rw [cut_ne z] at e; exact af.vis.sub a u e, fun a j => by
    by_cases z : a = p
    · subst z; exact cut_same
    · rw [cut_ne z]; exact af.vis.dis a j, af.vis.dom⟩
/-- what is known behind a borrowing -/
theorem borrow_back {K : PySem.W.Frag} {σ : L2.St} {H G : Hp} {J : Addr → Prop} {g : γ} {i : Nat} {c : Cell} (st : C.St K ρ σ H G J g) (hi : ρ[i]? = some (some (.own c))) :
    ∃ G' p o, C.St K (ρ.set i (some (.val (cellD c)))) σ H G' J g ∧ G' = upd G p o ∧ G p = none ∧ ∀ G2 H2 J2 g2, Aft G' J H G2 J2 H2 → C.S.si g2 G2 J2 H2 → Aft G J H (cut G2 p) J2 H2 ∧ C.S.si g2 (cut G2 p) J2 H2 ∧ NoTup G2 p ∧ G2 p ≠ none := by
  obtain ⟨G', hs, st', p, o, h1, ho, hg, hG, hj, h0, ht, hf⟩ := st.show hi
  refine ⟨G', p, o, st', hG, hg, fun G2 H2 J2 g2 af si => ?_⟩
  subst hG
  have hp2 : G2 p = some o := af.gg p o upd_same
  have nt : NoTup G2 p := fun xs r => by
    rcases r with r | ⟨b, r⟩
    · rw [hp2] at r; exact ht xs (Option.some.inj r)
    · rw [hp2] at r; exact hf _ _ (Option.some.inj r)
  have nj : ¬ J2 p := fun j => by
    rcases af.jn p j with z | z
    · exact hj z
    · rw [ho] at z; cases z
  exact ⟨af.cutB hg, C.S.cut si nt (fun a b r => by rw [hp2] at r; exact hf _ _ (Option.some.inj r)) nj, nt, by rw [hp2]; exact Option.some_ne_none _⟩
theorem ce_borrow {e : Expr} {k : D → m β} (i : Nat) {xs : List D} (hi : ρ[i]? = some (some (.own (.lst xs)))) (h : CE C X (ρ.set i (some (.val (.list xs)))) e dv x (fun d => bnd (need (flO d)) fun _ => k d)) : CE C X ρ e dv x k := fun Qf =>
  PE.imp (h Qf) fun σ H Q ⟨G, J, g, st, w, hQ⟩ => by
    obtain ⟨G', p, o, st', hG, hg, bk⟩ := borrow_back st hi
    refine ⟨G', J, g, st', w, fun v d H2 G2 J2 g2 af si rr w2 => ?_⟩
    obtain ⟨af', si', nt, _⟩ := bk G2 H2 J2 g2 af si
    obtain ⟨_, e1, w3⟩ := of_need w2
    unfold flO at e1
    split at e1
    · rename_i hf
      exact hQ v d H2 _ J2 g2 af' si' (Rp.cut nt rr hf) w3
    · cases e1
theorem ce_borrowB {e : Expr} {k : Bool → m β} (i : Nat) {xs : List D} (hi : ρ[i]? = some (some (.own (.lst xs)))) (h : CE C X (ρ.set i (some (.val (.list xs)))) e bv x k) : CE C X ρ e bv x k := fun Qf =>
  PE.imp (h Qf) fun σ H Q ⟨G, J, g, st, w, hQ⟩ => by
    obtain ⟨G', p, o, st', hG, hg, bk⟩ := borrow_back st hi
    refine ⟨G', J, g, st', w, fun v d H2 G2 J2 g2 af si rr w2 => ?_⟩
    obtain ⟨af', si', nt, _⟩ := bk G2 H2 J2 g2 af si
    exact hQ v d H2 _ J2 g2 af' si' (Rp.cut nt rr rfl) w2
theorem ce_borrowI {e : Expr} {k : Int → m β} (i : Nat) {xs : List D} (hi : ρ[i]? = some (some (.own (.lst xs)))) (h : CE C X (ρ.set i (some (.val (.list xs)))) e iv x k) : CE C X ρ e iv x k := fun Qf =>
  PE.imp (h Qf) fun σ H Q ⟨G, J, g, st, w, hQ⟩ => by
    obtain ⟨G', p, o, st', hG, hg, bk⟩ := borrow_back st hi
    refine ⟨G', J, g, st', w, fun v d H2 G2 J2 g2 af si rr w2 => ?_⟩
    obtain ⟨af', si', nt, _⟩ := bk G2 H2 J2 g2 af si
    exact hQ v d H2 _ J2 g2 af' si' (Rp.cut nt rr rfl) w2
theorem ct_borrow {e : Expr} {k : Bool → m β} (i : Nat) {xs : List D} (hi : ρ[i]? = some (some (.own (.lst xs)))) (h : CT C X (ρ.set i (some (.val (.list xs)))) e x k) : CT C X ρ e x k := fun Qf =>
  PT.imp (h Qf) fun σ H Q ⟨G, J, g, st, w, hQ⟩ => by
    obtain ⟨G', p, o, st', hG, hg, bk⟩ := borrow_back st hi
    refine ⟨G', J, g, st', w, fun b H2 G2 J2 g2 af si w2 => ?_⟩
    obtain ⟨af', si', nt, _⟩ := bk G2 H2 J2 g2 af si
    exact hQ b H2 _ J2 g2 af' si' w2
/-- a new list out of it -/
theorem ce_borrowL {e : Expr} {k : List D → m β} (i : Nat) {xs : List D} (hi : ρ[i]? = some (some (.own (.lst xs)))) (h : CE C X (ρ.set i (some (.val (.list xs)))) e lv x (fun ds => bnd (need (flL ds)) fun _ => k ds)) : CE C X ρ e lv x k := fun Qf =>
  PE.imp (h Qf) fun σ H Q ⟨G, J, g, st, w, hQ⟩ => by
    obtain ⟨G', p, o, st', hG, hg, bk⟩ := borrow_back st hi
    refine ⟨G', J, g, st', w, fun v ds H2 G2 J2 g2 af si rr w2 => ?_⟩
    obtain ⟨af', si', nt, hpn⟩ := bk G2 H2 J2 g2 af si
    obtain ⟨_, e1, w3⟩ := of_need w2
    unfold flL at e1
    split at e1
    · rename_i hf
      obtain ⟨q, h1, h2, h3, h4, vs, h5, h6⟩ := rr
      have ne : q ≠ p := fun z => hpn (by rw [← z]; exact h3)
      exact hQ v ds H2 _ J2 g2 af' si' ⟨q, h1, h2, by rw [cut_ne ne]; exact h3, h4, vs, h5, RpL.cut nt h6 hf⟩ w3
    · cases e1
end
end Cl

set_option Elab.async false
set_option linter.all false
set_option maxRecDepth 100000
set_option maxHeartbeats 4000000
/-! the clean layer, part M: objects that change, in a region told by a ghost heap -/
namespace Cl
open PySem PySem.Spec PyProof.Rows L2
open MO

/-- what a field of such a dict holds: flat data, another such object -/
inductive RV where
  | d (x : D) | r (a : Addr)
inductive RC where
  | lst (ds : List D) | dct (kvs : List (Key × RV))
abbrev GH := Addr → Option RC
def gset (g : GH) (a : Addr) (c : RC) : GH := fun b => if b = a then some c else g b
theorem gset_same {g : GH} {a : Addr} {c : RC} : gset g a c a = some c := by unfold gset; rw [if_pos rfl]
theorem gset_ne {g : GH} {a b : Addr} {c : RC} (h : b ≠ a) : gset g a c b = g b := by unfold gset; rw [if_neg h]
inductive RVs (K : PySem.W.Frag) (G : Hp) : List (Key × V) → List (Key × RV) → Prop
  | nil : RVs K G [] []
  | d {k : Key} {v : V} {x : D} {us : List (Key × V)} {kvs : List (Key × RV)} : Rp K G v x → flat x = true → RVs K G us kvs → RVs K G ((k, v) :: us) ((k, .d x) :: kvs)
  | r {k : Key} {a : Addr} {us : List (Key × V)} {kvs : List (Key × RV)} : RVs K G us kvs → RVs K G ((k, .ref a) :: us) ((k, .r a) :: kvs)
def getK (kvs : List (Key × RV)) (k : Key) : Option RV := (kvs.find? fun kv => decide (kv.1 = k)).map (·.2)
def putR (kvs : List (Key × RV)) (k : Key) (v : RV) : List (Key × RV) :=
  if (kvs.any fun kv => decide (kv.1 = k)) = true then kvs.map (fun kv => if kv.1 = k then (kv.1, v) else kv) else kvs ++ [(k, v)]
def RVok (K : PySem.W.Frag) (G : Hp) (v : V) : RV → Prop
  | .d x => Rp K G v x ∧ flat x = true
  | .r a => v = .ref a
section
variable {K : PySem.W.Frag} {G G' H : Hp}
theorem RVs.cons {k : Key} {v : V} {x : RV} {us : List (Key × V)} {kvs : List (Key × RV)} (h : RVok K G v x) (t : RVs K G us kvs) : RVs K G ((k, v) :: us) ((k, x) :: kvs) := by
  cases x with
  | d x => exact .d h.1 h.2 t
  | r a => cases h; exact .r t
theorem RVs.get {k : Key} {x : RV} : ∀ {us : List (Key × V)} {kvs : List (Key × RV)}, RVs K G us kvs → getK kvs k = some x → ∃ v, valV us k = some v ∧ RVok K G v x
  | _, _, .nil, e => by cases e
  | _, _, .d (k := k') (kvs := kr) h f t, e => by
    by_cases z : k' = k
    · simp [getK, List.find?_cons, z] at e
      subst e
      exact ⟨_, valV_pos z, h, f⟩
    · have e' : getK kr k = some x := by simpa [getK, List.find?_cons, z] using e
      obtain ⟨v, h1, h2⟩ := RVs.get t e'
      exact ⟨v, by rw [valV_neg (by exact z)]; exact h1, h2⟩
  | _, _, .r (k := k') (kvs := kr) t, e => by
    by_cases z : k' = k
    · simp [getK, List.find?_cons, z] at e
      subst e
      exact ⟨_, valV_pos z, rfl⟩
    · have e' : getK kr k = some x := by simpa [getK, List.find?_cons, z] using e
      obtain ⟨v, h1, h2⟩ := RVs.get t e'
      exact ⟨v, by rw [valV_neg (by exact z)]; exact h1, h2⟩
theorem RVs.keys : ∀ {us : List (Key × V)} {kvs : List (Key × RV)}, RVs K G us kvs → us.map (·.1) = kvs.map (·.1)
  | _, _, .nil => rfl
  | _, _, .d _ _ t => by rw [List.map_cons, List.map_cons, RVs.keys t]
  | _, _, .r t => by rw [List.map_cons, List.map_cons, RVs.keys t]
theorem RVs.length {us : List (Key × V)} {kvs : List (Key × RV)} (h : RVs K G us kvs) : us.length = kvs.length := by
  have := congrArg List.length h.keys
  simpa using this
theorem RVs.app {us us' : List (Key × V)} {kvs kvs' : List (Key × RV)} (h : RVs K G us kvs) (h' : RVs K G us' kvs') : RVs K G (us ++ us') (kvs ++ kvs') := by
  induction h with
  | nil => exact h'
  | d a b _ ih => exact .d a b ih
  | r _ ih => exact .r ih
theorem RVs.mapPut {k : Key} {v : V} {x : RV} (hv : RVok K G v x) : ∀ {us : List (Key × V)} {kvs : List (Key × RV)}, RVs K G us kvs → RVs K G (us.map fun kv => if kv.1 = k then (kv.1, v) else kv) (kvs.map fun kv => if kv.1 = k then (kv.1, x) else kv)
  | _, _, .nil => .nil
  | _, _, .d (k := k') h f t => by
    rw [List.map_cons, List.map_cons]
    by_cases z : k' = k
    · rw [if_pos z, if_pos z]; exact .cons hv (RVs.mapPut hv t)
    · rw [if_neg z, if_neg z]; exact .d h f (RVs.mapPut hv t)
  | _, _, .r (k := k') t => by
    rw [List.map_cons, List.map_cons]
    by_cases z : k' = k
    · rw [if_pos z, if_pos z]; exact .cons hv (RVs.mapPut hv t)
    · rw [if_neg z, if_neg z]; exact .r (RVs.mapPut hv t)
theorem any_keys {α β : Type} {k : Key} : ∀ {us : List (Key × α)} {kvs : List (Key × β)}, us.map (·.1) = kvs.map (·.1) → (us.any fun kv => decide (kv.1 = k)) = (kvs.any fun kv => decide (kv.1 = k))
  | [], [], _ => rfl
  | [], _ :: _, h => by cases h
  | _ :: _, [], h => by cases h
  | (a, u) :: us, (b, w) :: kvs, h => by
    rw [List.map_cons, List.map_cons, List.cons.injEq] at h
    have e : a = b := h.1
    subst e
    rw [List.any_cons, List.any_cons, any_keys h.2]
theorem RVs.put {k : Key} {v : V} {x : RV} {us : List (Key × V)} {kvs : List (Key × RV)} (h : RVs K G us kvs) (hv : RVok K G v x) : RVs K G (putK us k v) (putR kvs k x) := by
  unfold putK putR
  rw [any_keys h.keys]
  split
  · exact h.mapPut hv
  · exact h.app (.cons hv .nil)
theorem RVok.sub {v : V} {x : RV} (e : Sub G G') (h : RVok K G v x) : RVok K G' v x := by
  cases x with
  | d x => exact ⟨h.1.sub e, h.2⟩
  | r a => exact h
theorem RVs.sub (e : Sub G G') : ∀ {us : List (Key × V)} {kvs : List (Key × RV)}, RVs K G us kvs → RVs K G' us kvs
  | _, _, .nil => .nil
  | _, _, .d h f t => .d (h.sub e) f (RVs.sub e t)
  | _, _, .r t => .r (RVs.sub e t)
theorem RVs.cut {p : Addr} (hp : NoTup G p) : ∀ {us : List (Key × V)} {kvs : List (Key × RV)}, RVs K G us kvs → RVs K (Cl.cut G p) us kvs
  | _, _, .nil => .nil
  | _, _, .d h f t => .d (h.cut hp f) f (RVs.cut hp t)
  | _, _, .r t => .r (RVs.cut hp t)
end
def RCok (K : PySem.W.Frag) (G H : Hp) (a : Addr) : RC → Prop
  | .lst ds => ∃ vs, H a = some (.lst vs) ∧ RpL K G vs ds ∧ flatL ds = true
  | .dct kvs => ∃ us, H a = some (.dK us) ∧ RVs K G us kvs
theorem RCok.keep {K : PySem.W.Frag} {G H G' H' : Hp} {a : Addr} {c : RC} (h : RCok K G H a c) (e : Sub G G') (k : ∀ o, H a = some o → H' a = some o) : RCok K G' H' a c := by
  cases c with
  | lst ds => obtain ⟨vs, h1, h2, h3⟩ := h; exact ⟨vs, k _ h1, h2.sub e, h3⟩
  | dct kvs => obtain ⟨vs, h1, h2⟩ := h; exact ⟨vs, k _ h1, h2.sub e⟩
/-- the script stands for ever -/
def ScrOk (K : PySem.W.Frag) (G : Hp) (sc : Addr) (ns : List Int) : Prop := (∃ o, G sc = some (.frz o (.lst (ns.map V.int)))) ∨ ∀ H, SqL K H sc (ns.map V.int)
theorem ScrOk.sql {K : PySem.W.Frag} {G H : Hp} {sc : Addr} {ns : List Int} (h : ScrOk K G sc ns) (s : Sub G H) : SqL K H sc (ns.map V.int) := by
  rcases h with ⟨o, h⟩ | h
  · exact .inl (.inr ⟨o, s _ _ h⟩)
  · exact h H
def SR (K : PySem.W.Frag) (sc : Addr) (ns : List Int) : SIx GH where
  si := fun g G J H => (∀ a, J a ↔ g a ≠ none) ∧ (∀ a c, g a = some c → RCok K G H a c) ∧ ScrOk K G sc ns
  new := fun {g G G' H H' J} h s k => by
    obtain ⟨h1, h2, h3⟩ := h
    refine ⟨h1, fun a c e => (h2 a c e).keep s fun o ho => k a o ((h1 a).mpr (by rw [e]; exact Option.some_ne_none _)) ho, ?_⟩
    rcases h3 with ⟨o, h3⟩ | h3
    · exact .inl ⟨o, s _ _ h3⟩
    · exact .inr h3
  cut := fun {g G H J p} h nt nf nj => by
    obtain ⟨h1, h2, h3⟩ := h
    refine ⟨h1, fun a c e => ?_, ?_⟩
    · have q := h2 a c e
      cases c with
      | lst ds => obtain ⟨vs, q1, q2, q3⟩ := q; exact ⟨vs, q1, q2.cut nt q3, q3⟩
      | dct kvs => obtain ⟨us, q1, q2⟩ := q; exact ⟨us, q1, q2.cut nt⟩
    · rcases h3 with ⟨o, h3⟩ | h3
      · refine .inl ⟨o, ?_⟩
        rw [cut_ne (fun z => nf _ _ (z ▸ h3))]
        exact h3
      · exact .inr h3

/-! ### what is done with the region -/
section
variable {α : Type}
/-- a list there is read -/
def rdM (a : Addr) (f : List D → Option α) : M GH α := ⟨fun g Q _ => ∃ ds x, g a = some (.lst ds) ∧ f ds = some x ∧ Q x g, fun ⟨ds, x, h1, h2, h3⟩ hq => ⟨ds, x, h1, h2, hq _ _ h3⟩, fun h _ => h⟩
/-- a list there changes -/
def mtM (a : Addr) (f : List D → Option (α × List D)) : M GH α := ⟨fun g Q _ => ∃ ds x ds', g a = some (.lst ds) ∧ f ds = some (x, ds') ∧ flatL ds' = true ∧ Q x (gset g a (.lst ds')), fun ⟨ds, x, ds', h1, h2, h3, h4⟩ hq => ⟨ds, x, ds', h1, h2, h3, hq _ _ h4⟩, fun h _ => h⟩
def fldD (a : Addr) (k : Key) : M GH D := ⟨fun g Q _ => ∃ kvs d, g a = some (.dct kvs) ∧ getK kvs k = some (.d d) ∧ Q d g, fun ⟨ds, x, h1, h2, h3⟩ hq => ⟨ds, x, h1, h2, hq _ _ h3⟩, fun h _ => h⟩
def fldO (a : Addr) (k : Key) : M GH Addr := ⟨fun g Q _ => ∃ kvs d, g a = some (.dct kvs) ∧ getK kvs k = some (.r d) ∧ Q d g, fun ⟨ds, x, h1, h2, h3⟩ hq => ⟨ds, x, h1, h2, hq _ _ h3⟩, fun h _ => h⟩
def putM (a : Addr) (k : Key) (d : D) : M GH Unit := ⟨fun g Q _ => ∃ kvs, g a = some (.dct kvs) ∧ kvs.length < sizeLine ∧ flat d = true ∧ Q () (gset g a (.dct (putR kvs k (.d d)))), fun ⟨ds, h1, h2, h3, h4⟩ hq => ⟨ds, h1, h2, h3, hq _ _ h4⟩, fun h _ => h⟩
/-- a new list is put into a field -/
def putL (a : Addr) (k : Key) (ds : List D) : M GH Unit := ⟨fun g Q _ => ∃ kvs, g a = some (.dct kvs) ∧ kvs.length < sizeLine ∧ flatL ds = true ∧ ∀ q, g q = none → q ≠ a → Q () (gset (gset g q (.lst ds)) a (.dct (putR kvs k (.r q)))),
  fun ⟨ds, h1, h2, h3, h4⟩ hq => ⟨ds, h1, h2, h3, fun q e z => hq _ _ (h4 q e z)⟩, fun h _ => h⟩
/-- a new dict, its lists with it -/
def allocs : List (Key × R) → GH → (List (Key × RV) → GH → Prop) → Prop
  | [], g, Q => Q [] g
  | (k, .v d) :: r, g, Q => flat d = true ∧ allocs r g fun kvs g' => Q ((k, .d d) :: kvs) g'
  | (k, .l (.lst ds)) :: r, g, Q => flatL ds = true ∧ ∀ q, g q = none → allocs r (gset g q (.lst ds)) fun kvs g' => Q ((k, .r q) :: kvs) g'
  | (k, .o a) :: r, g, Q => allocs r g fun kvs g' => Q ((k, .r a) :: kvs) g'
  | _ :: _, _, _ => False
theorem allocs_mono : ∀ {es : List (Key × R)} {g : GH} {Q Q' : List (Key × RV) → GH → Prop}, allocs es g Q → (∀ kvs g, Q kvs g → Q' kvs g) → allocs es g Q'
  | [], _, _, _, h, hq => hq _ _ h
  | (k, .v d) :: r, _, _, _, h, hq => ⟨h.1, allocs_mono h.2 fun _ _ z => hq _ _ z⟩
  | (k, .l (.lst ds)) :: r, _, _, _, h, hq => ⟨h.1, fun q e => allocs_mono (h.2 q e) fun _ _ z => hq _ _ z⟩
  | (k, .o a) :: r, _, _, _, h, hq => allocs_mono (es := r) h fun _ _ z => hq _ _ z
  | (k, .l (.dct _)) :: r, _, _, _, h, _ => h.elim
  | (k, .p _ _) :: r, _, _, _, h, _ => h.elim
def nwM (es : List (Key × R)) : M GH Addr := ⟨fun g Q _ => (es.map fun e : Key × R => e.1).Nodup ∧ es.length ≤ 15 ∧ allocs es g fun kvs g' => ∀ p, g' p = none → Q p (gset g' p (.dct kvs)), fun ⟨h0, h1, h2⟩ hq => ⟨h0, h1, allocs_mono h2 fun _ _ z p e => hq _ _ (z p e)⟩, fun h _ => h⟩
/-- the script is read -/
def scM (sc : Addr) (ns : List Int) (a : Addr) : M GH (List D) := ⟨fun g Q _ => a = sc ∧ Q (ns.map PyData.int) g, fun ⟨h1, h2⟩ hq => ⟨h1, hq _ _ h2⟩, fun h _ => h⟩
end

/-! ### the region's object changes -/
theorem reg_mut {K : PySem.W.Frag} {sc : Addr} {ns : List Int} {g : GH} {G H : Hp} {J : Addr → Prop} {a : Addr} {c c' : RC} {o : HO} (vis : Vis G J H) (si : (SR K sc ns).si g G J H) (e : g a = some c) (h : RCok K G (upd H a o) a c') :
    Aft G J H G J (upd H a o) ∧ (SR K sc ns).si (gset g a c') G J (upd H a o) := by
  have ja : J a := (si.1 a).mpr (by rw [e]; exact Option.some_ne_none _)
  have ga : G a = none := vis.dis a ja
  refine ⟨⟨Sub.refl _, fun b u hb q => ?_, fun b q => ?_, fun b q => .inl q, fun b q => .inl q, ⟨fun b u q => ?_, vis.dis, fun b j => ?_⟩⟩, fun b => ?_, fun b u q => ?_, si.2.2⟩
  · rw [upd_ne (fun z => hb (by rw [z]; exact ja))]; exact q
  · by_cases z : b = a
    · subst z; rw [upd_same]; exact Option.some_ne_none _
    · rw [upd_ne z]; exact q
  · rw [upd_ne (ne_of_none q ga)]; exact vis.sub b u q
  · by_cases z : b = a
    · subst z; rw [upd_same]; exact Option.some_ne_none _
    · rw [upd_ne z]; exact vis.dom b j
  · by_cases z : b = a
    · subst z
      rw [gset_same]
      exact ⟨fun _ => Option.some_ne_none _, fun _ => ja⟩
    · rw [gset_ne z]; exact si.1 b
  · by_cases z : b = a
    · subst z
      rw [gset_same] at q
      cases q
      exact h
    · rw [gset_ne z] at q
      refine (si.2.1 b u q).keep (Sub.refl _) fun o' ho' => ?_
      rw [upd_ne z]; exact ho'
/-- an object comes to the region -/
theorem reg_add {K : PySem.W.Frag} {sc : Addr} {ns : List Int} {g : GH} {G H : Hp} {J : Addr → Prop} {p : Addr} {c : RC} (vis : Vis G J H) (si : (SR K sc ns).si g G J H) (hg : G p = none) (hj : ¬ J p) (h : RCok K G H p c) (hd : H p ≠ none) :
    Vis G (fun a => a = p ∨ J a) H ∧ (SR K sc ns).si (gset g p c) G (fun a => a = p ∨ J a) H ∧ g p = none := by
  have gp : g p = none := by
    cases q : g p with
    | none => rfl
    | some u => exact absurd ((si.1 p).mpr (by rw [q]; exact Option.some_ne_none _)) hj
  refine ⟨⟨vis.sub, fun a j => ?_, fun a j => ?_⟩, ⟨fun a => ?_, fun a u q => ?_, si.2.2⟩, gp⟩
  · rcases j with rfl | j
    · exact hg
    · exact vis.dis a j
  · rcases j with rfl | j
    · exact hd
    · exact vis.dom a j
  · by_cases z : a = p
    · subst z; rw [gset_same]; exact ⟨fun _ => Option.some_ne_none _, fun _ => .inl rfl⟩
    · rw [gset_ne z]
      exact ⟨fun h => (si.1 a).mp (h.resolve_left z), fun h => .inr ((si.1 a).mpr h)⟩
  · by_cases z : a = p
    · subst z
      rw [gset_same] at q
      cases q
      exact h
    · rw [gset_ne z] at q
      exact si.2.1 a u q
theorem Aft.addJ {G H G' H' : Hp} {J J' : Addr → Prop} {p : Addr} (a : Aft G J H G' J' H') (h : H p = none) (v : Vis G' (fun a => a = p ∨ J' a) H') : Aft G J H G' (fun a => a = p ∨ J' a) H' :=
  ⟨a.gg, a.hh, a.dm, a.gn, fun b j => by
    rcases j with rfl | j
    · exact .inr h
    · exact a.jn b j, v⟩

section
variable {α β δ τ ω : Type} {C : Cc GH} {X : Cx} {ρ : En} {sc : Addr} {ns : List Int}
theorem ce_fldD {o : Expr} {kx : Str} {j p1 pos} {x : M GH β} {k : D → M GH β} (hu : X.A.units + 1 < cLine) (ho : CE C X ρ o R.o x (fun a => bnd (fldD a (.inr kx)) k)) (hS : C.S = SR X.K sc ns := by rfl) (hs : PlainIx (.Constant (.str kx) j p1) := by intro _ _; rfl) :
    CE C X ρ (.Subscript o (.Constant (.str kx) j p1) pos) dv x k := fun Qf =>
  PE.imp (pe_ix (ix_all hu) (ho Qf) pe_str hs) fun σ H Q ⟨G, J, g, st, w, h⟩ => ⟨G, J, g, st, w, fun v a H1 G1 J1 g1 af1 si1 rr w1 => by
    cases rr
    obtain ⟨kvs, d, h1, h2, w2⟩ := w1
    have si1' := si1
    rw [hS] at si1'
    obtain ⟨us, h3, h4⟩ := si1'.2.1 a _ h1
    obtain ⟨v, h5, h6⟩ := h4.get h2
    refine .inr ⟨a, v, rfl, ?_, h v d H1 G1 J1 g1 af1 si1 h6.1 w2⟩
    rw [← h5]
    exact DGet.k (k := .inr kx) h3⟩
theorem ce_fldO {o : Expr} {kx : Str} {j p1 pos} {x : M GH β} {k : Addr → M GH β} (hu : X.A.units + 1 < cLine) (ho : CE C X ρ o R.o x (fun a => bnd (fldO a (.inr kx)) k)) (hS : C.S = SR X.K sc ns := by rfl) (hs : PlainIx (.Constant (.str kx) j p1) := by intro _ _; rfl) :
    CE C X ρ (.Subscript o (.Constant (.str kx) j p1) pos) R.o x k := fun Qf =>
  PE.imp (pe_ix (ix_all hu) (ho Qf) pe_str hs) fun σ H Q ⟨G, J, g, st, w, h⟩ => ⟨G, J, g, st, w, fun v a H1 G1 J1 g1 af1 si1 rr w1 => by
    cases rr
    obtain ⟨kvs, d, h1, h2, w2⟩ := w1
    have si1' := si1
    rw [hS] at si1'
    obtain ⟨us, h3, h4⟩ := si1'.2.1 a _ h1
    obtain ⟨v, h5, h6⟩ := h4.get h2
    refine .inr ⟨a, v, rfl, ?_, h v d H1 G1 J1 g1 af1 si1 h6 w2⟩
    rw [← h5]
    exact DGet.k (k := .inr kx) h3⟩
/-- an item of such a list -/
def atF (i : D) (ds : List D) : Option D := match i with
  | .int i => atI ds i
  | _ => none
theorem ce_ixO {o i : Expr} {pos : Pos} {x : M GH β} {x2 : Addr → M GH β} {k : D → M GH β} (hu : X.A.units + 1 < cLine) (hi : ∀ a, CE C X ρ i dv (x2 a) (fun d => bnd (rdM a (atF d)) k)) (ho : CE C X ρ o R.o x x2) (hS : C.S = SR X.K sc ns := by rfl) (hs : PlainIx i := by intro _ _; rfl) :
    CE C X ρ (.Subscript o i pos) dv x k := fun Qf =>
  PE.imp (pe_ix (ix_all hu) (ho Qf) (PE.ex fun a => hi a Qf) hs) fun σ H Q ⟨G, J, g, st, w, h⟩ => ⟨G, J, g, st, w, fun v a H1 G1 J1 g1 af1 si1 rr w1 => ⟨a, G1, J1, g1, st.go af1 si1, w1, fun v2 d H2 G2 J2 g2 af2 si2 r2 w2 => by
    cases rr
    obtain ⟨ds, y, h1, h2, w3⟩ := w2
    have si2' := si2
    rw [hS] at si2'
    obtain ⟨us, h3, h4, _⟩ := si2'.2.1 a _ h1
    cases r2 with
    | int n =>
      obtain ⟨v, h5, h6⟩ := atI_rp h4 h2
      exact .inl (.inl ⟨a, us, n, v, rfl, rfl, SqL.of h3, h5, h v y H2 G2 J2 g2 (af1.trans af2) si2 h6 w3⟩)
    | _ => cases h2⟩⟩
def lenL (ds : List D) : Option Int := some (ds.length : Nat)
theorem ce_lenO {o : Expr} {p1 pos : Pos} {x : M GH β} {k : Int → M GH β} (hm : X.mg "len" = none) (ho : CE C X ρ o R.o x (fun a => bnd (rdM a lenL) k)) (hS : C.S = SR X.K sc ns := by rfl) (hg : Gl X "len" := by rfl)
    (he : starEach [o] X.env = (false, eval o X.env) :: starEach [] X.env := by rfl) (hpl : (backTo pos (starEach [] X.env)).any (·.1) = false := by rfl) : CE C X ρ (.Call (.Name "len" p1) [o] [] pos) iv x k := fun Qf =>
  PE.imp (pe_callB call_len hg hm PySem.boot_len (pa_cons (ho Qf) pa_nil he) (by decide) (by decide) he hpl) fun σ H Q ⟨G, J, g, st, w, h⟩ => ⟨G, J, g, st, w, fun v a H1 G1 J1 g1 af1 si1 rr w1 => by
    cases rr
    obtain ⟨ds, y, h1, h2, w2⟩ := w1
    have si1' := si1
    rw [hS] at si1'
    obtain ⟨us, h3, h4, _⟩ := si1'.2.1 a _ h1
    cases h2
    refine ⟨_, us.length, rfl, .inl ⟨us, SqL.of h3, rfl⟩, ?_⟩
    rw [h4.length]
    exact h _ _ H1 G1 J1 g1 af1 si1 (.int _) w2⟩
theorem ce_scrLen {o : Expr} {p1 pos : Pos} {x : M GH β} {k : Int → M GH β} (hm : X.mg "len" = none) (ho : CE C X ρ o R.o x (fun a => bnd (scM sc ns a) fun ds => k (ds.length : Nat))) (hS : C.S = SR X.K sc ns := by rfl) (hg : Gl X "len" := by rfl)
    (he : starEach [o] X.env = (false, eval o X.env) :: starEach [] X.env := by rfl) (hpl : (backTo pos (starEach [] X.env)).any (·.1) = false := by rfl) : CE C X ρ (.Call (.Name "len" p1) [o] [] pos) iv x k := fun Qf =>
  PE.imp (pe_callB call_len hg hm PySem.boot_len (pa_cons (ho Qf) pa_nil he) (by decide) (by decide) he hpl) fun σ H Q ⟨G, J, g, st, w, h⟩ => ⟨G, J, g, st, w, fun v a H1 G1 J1 g1 af1 si1 rr w1 => by
    cases rr
    obtain ⟨rfl, w2⟩ := w1
    have si1' := si1
    rw [hS] at si1'
    have q := si1'.2.2.sql af1.vis.sub
    refine ⟨_, (ns.map V.int).length, rfl, .inl ⟨_, q, rfl⟩, ?_⟩
    have e : (ns.map V.int).length = (ns.map PyData.int).length := by rw [List.length_map, List.length_map]
    rw [e]
    exact h _ _ H1 G1 J1 g1 af1 si1 (.int _) w2⟩
theorem ce_scrSl {o : Expr} {hi : Option Expr} {p2 pos : Pos} {x : M GH β} {x2 : Addr → M GH β} {k : List D → M GH β} (hh : ∀ a, CO C X ρ hi (x2 a) (fun u => bnd (scM sc ns a) fun ds => k (cutD ds none u))) (ho : CE C X ρ o R.o x x2) (hS : C.S = SR X.K sc ns := by rfl) :
    CE C X ρ (.Subscript o (.Slice none hi none p2) pos) lv x k := fun Qf =>
  PE.imp (pe_slice sl_list (ho Qf) po_none (PO.ex fun a => hh a Qf)) fun σ H Q ⟨G, J, g, st, w, h⟩ => ⟨G, J, g, st, w, fun v a H1 G1 J1 g1 af1 si1 rr w1 => by
    cases rr
    refine ⟨a, G1, J1, g1, st.go af1 si1, w1, fun u H2 G2 J2 g2 af2 si2 w2 => ?_⟩
    obtain ⟨rfl, w3⟩ := w2
    have si2' := si2
    rw [hS] at si2'
    have q := si2'.2.2.sql af2.vis.sub
    refine ⟨_, _, rfl, q, fun p hp => ?_⟩
    have n : New G2 H2 G2 (upd H2 p (.lst (cutV (ns.map V.int) none u))) := New.own af2.vis.sub hp
    exact h _ _ _ G2 J2 g2 ((af1.trans af2).trans (n.aft af2.vis)) (SIx.nw si2 n) ⟨p, rfl, (af1.trans af2).back p hp, none_of_sub af2.vis.sub hp, fun j => af2.vis.dom p j hp, _, upd_same, cut_rp (rp_of_ints ns)⟩ w3⟩
end
end Cl

set_option Elab.async false
set_option linter.all false
set_option autoImplicit false
set_option maxRecDepth 100000
set_option maxHeartbeats 4000000
/-! the clean layer, part N: objects that change: methods, stores, new dicts -/
namespace Cl
open PySem PySem.Spec PyProof.Rows L2
open MO

def neNilF (ds : List D) : Option Bool := if SeqAt.shaped (.list ds) = true then some (!PyData.eqv (.list ds) (.list [])) else none
def popF (ds : List D) : Option (D × List D) := (ds[ds.length - 1]?).map fun y => (y, ds.dropLast)
def pop0F : List D → Option (D × List D)
  | [] => none
  | d :: r => some (d, r)
def ins0F (d : D) (ds : List D) : Option (D × List D) := if ds.length < sizeLine then some (.none, d :: ds) else none
def appOF (d : D) (ds : List D) : Option (D × List D) := (appF ds d).map fun r => (.none, r)
def setOF (j d : D) (ds : List D) : Option (Unit × List D) := (setF ds j d).map fun r => ((), r)
section
variable {α β δ τ ω : Type} {C : Cc GH} {X : Cx} {ρ : En} {sc : Addr} {ns : List Int}
/-- a list stands there -/
def isL (a : Addr) : M GH Unit := rdM a fun _ => some ()
theorem shaped_lay {ds : List D} (h : SeqAt.shaped (.list ds) = true) : PyData.canLayAll0 ds = true := by
  have := SeqAt.canLay_of_shaped h
  simpa [PyData.canLay0] using this
theorem ce_neNil {o : Expr} {p2 pos : Pos} {x : M GH β} {k : Bool → M GH β} (hu : X.A.units + 64 < cLine) (ho : CE C X ρ o R.o x (fun a => bnd (rdM a neNilF) k)) (hS : C.S = SR X.K sc ns := by rfl) (hm : behindInMarks .NotEq (.List [] p2) = false := by first | exact nomark _ | rfl) :
    CE C X ρ (.Compare o [.NotEq] [.List [] p2] pos) bv x k := fun Qf =>
  PE.imp (pe_cmpR (op_neA hu) (ho Qf) (pe_lst pa_nil) hm) fun σ H Q ⟨G, J, g, st, w, h⟩ => ⟨G, J, g, st, w, fun v a H1 G1 J1 g1 af1 si1 rr w1 => by
    cases rr
    refine ⟨Nat.zero_le _, fun p hp => ?_⟩
    obtain ⟨ds, y, h1, h2, w2⟩ := w1
    have si1' := si1
    rw [hS] at si1'
    obtain ⟨us, h3, h4, _⟩ := si1'.2.1 a _ h1
    unfold neNilF at h2
    split at h2
    · rename_i hsh
      cases h2
      have n : New G1 H1 G1 (upd H1 p (.lst [])) := New.own af1.vis.sub hp
      have h3' : upd H1 p (.lst []) a = some (.lst us) := by rw [upd_ne (fun z => by rw [z, hp] at h3; cases h3)]; exact h3
      refine .inr ⟨.list ds, .list [], .lst (SqL.of h3') (RpL.dp n.sub h4 (shaped_lay hsh)), .lst (SqL.of upd_same) .nil, hsh, by decide, ?_⟩
      exact h _ _ _ G1 J1 g1 (af1.trans (n.aft af1.vis)) (SIx.nw si1 n) (.bl _) w2
    · cases h2⟩
theorem ct_neNil {o : Expr} {p2 pos : Pos} {x : M GH β} {k : Bool → M GH β} (hu : X.A.units + 64 < cLine) (ho : CE C X ρ o R.o x (fun a => bnd (rdM a neNilF) k)) (hS : C.S = SR X.K sc ns := by rfl) (hm : behindInMarks .NotEq (.List [] p2) = false := by first | exact nomark _ | rfl) :
    CT C X ρ (.Compare o [.NotEq] [.List [] p2] pos) x k := fun Qf =>
  PT.imp (pt_cmpR (op_neA hu) (ho Qf) (pe_lst pa_nil) hm) fun σ H Q ⟨G, J, g, st, w, h⟩ => ⟨G, J, g, st, w, fun v a H1 G1 J1 g1 af1 si1 rr w1 => by
    cases rr
    refine ⟨Nat.zero_le _, fun p hp => ?_⟩
    obtain ⟨ds, y, h1, h2, w2⟩ := w1
    have si1' := si1
    rw [hS] at si1'
    obtain ⟨us, h3, h4, _⟩ := si1'.2.1 a _ h1
    unfold neNilF at h2
    split at h2
    · rename_i hsh
      cases h2
      have n : New G1 H1 G1 (upd H1 p (.lst [])) := New.own af1.vis.sub hp
      have h3' : upd H1 p (.lst []) a = some (.lst us) := by rw [upd_ne (fun z => by rw [z, hp] at h3; cases h3)]; exact h3
      refine .inr ⟨.list ds, .list [], .lst (SqL.of h3') (RpL.dp n.sub h4 (shaped_lay hsh)), .lst (SqL.of upd_same) .nil, hsh, by decide, _, rfl, ?_⟩
      exact h _ _ G1 J1 g1 (af1.trans (n.aft af1.vis)) (SIx.nw si1 n) w2
    · cases h2⟩
theorem reg_lst {K : PySem.W.Frag} {g : GH} {G H : Hp} {J : Addr → Prop} {a : Addr} {ds ds' : List D} {vs' : List V} (vis : Vis G J H) (si : (SR K sc ns).si g G J H) (e : g a = some (.lst ds)) (r : RpL K G vs' ds') (hf : flatL ds' = true) :
    Aft G J H G J (upd H a (.lst vs')) ∧ (SR K sc ns).si (gset g a (.lst ds')) G J (upd H a (.lst vs')) := reg_mut vis si e ⟨vs', upd_same, r, hf⟩
theorem RpL.dropLast {K : PySem.W.Frag} {G : Hp} {vs : List V} {ds : List D} (r : RpL K G vs ds) : RpL K G vs.dropLast ds.dropLast := by
  rw [List.dropLast_eq_take, List.dropLast_eq_take, r.length]
  exact r.take _
theorem ce_popO {o : Expr} {apos pos : Pos} {x : M GH β} {k : D → M GH β} (ho : CE C X ρ o R.o x (fun a => bnd (mtM a popF) k)) (hS : C.S = SR X.K sc ns := by rfl)
    (hbase : attributeBase o "pop" X.env (eval o X.env) = eval o X.env := by rfl) (hline : (apos.endLine == pos.line) = true := by rfl) : CE C X ρ (.Call (.Attribute o "pop" apos) [] [] pos) dv x k := fun Qf =>
  PE.imp (pe_bm0 PySem.F.plainAttrs_list PySem.F.slot_list_pop PySem.F.type_list_pop mt_pop (ho Qf) hbase hline) fun σ H Q ⟨G, J, g, st, w, h⟩ => ⟨G, J, g, st, w, fun v a H1 G1 J1 g1 af1 si1 rr w1 => by
    cases rr
    obtain ⟨ds, y, ds', h1, h2, hf, w2⟩ := w1
    have si1' := si1
    rw [hS] at si1'
    obtain ⟨us, h3, h4, _⟩ := si1'.2.1 a _ h1
    unfold popF at h2
    cases q : ds[ds.length - 1]? with
    | none => rw [q] at h2; cases h2
    | some y' =>
      rw [q] at h2
      cases h2
      obtain ⟨v, e1, e2⟩ := h4.get q
      obtain ⟨af, si⟩ := reg_lst af1.vis si1' h1 h4.dropLast hf
      refine ⟨ty_lst h3, a, us, v, rfl, rfl, h3, by rw [h4.length]; exact e1, h v y _ G1 J1 _ (af1.trans af) (by rw [hS]; exact si) e2 w2⟩⟩
theorem ce_pop0O {o : Expr} {j p1 apos pos} {x : M GH β} {k : D → M GH β} (ho : CE C X ρ o R.o x (fun a => bnd (mtM a pop0F) k)) (hS : C.S = SR X.K sc ns := by rfl)
    (hpe : ∀ te, PE X o te → PE X (.Call (.Attribute o "pop" apos) [.Constant (.int 0) j p1] [] pos) (tBM X.K "list" rPopAt te (tCons (tC (.int 0)) tNil)) := by intro te he; exact pe_bm PySem.F.plainAttrs_list PySem.F.slot_list_pop PySem.F.type_list_pop mt_popAt he (pa_cons pe_int pa_nil)) :
    CE C X ρ (.Call (.Attribute o "pop" apos) [.Constant (.int 0) j p1] [] pos) dv x k := fun Qf =>
  PE.imp (hpe _ (ho Qf)) fun σ H Q ⟨G, J, g, st, w, h⟩ => ⟨G, J, g, st, w, fun v a H1 G1 J1 g1 af1 si1 rr w1 => by
    cases rr
    obtain ⟨ds, y, ds', h1, h2, hf, w2⟩ := w1
    have si1' := si1
    rw [hS] at si1'
    obtain ⟨us, h3, h4, _⟩ := si1'.2.1 a _ h1
    cases h4 with
    | nil => cases h2
    | @cons u us d ds r1 r2 =>
      cases h2
      obtain ⟨af, si⟩ := reg_lst af1.vis si1' h1 r2 hf
      refine ⟨ty_lst h3, a, u :: us, 0, 0, u, rfl, rfl, h3, by decide, by decide, ?_, rfl, ?_⟩
      · unfold seqIndex?
        simp
      · rw [List.eraseIdx_zero]
        exact h u _ _ G1 J1 _ (af1.trans af) (by rw [hS]; exact si) r1 w2⟩
theorem ce_insO {o e : Expr} {j p1 apos pos} {x : M GH β} {x2 : Addr → M GH β} {k : D → M GH β} (he : ∀ a, CE C X ρ e dv (x2 a) (fun d => bnd (mtM a (ins0F d)) k)) (ho : CE C X ρ o R.o x (fun a => bnd (isL a) fun _ => x2 a)) (hS : C.S = SR X.K sc ns := by rfl)
    (hpe : ∀ te te2, PE X o te → PE X e te2 → PE X (.Call (.Attribute o "insert" apos) [.Constant (.int 0) j p1, e] [] pos) (tBM X.K "list" (fun x vs H Q => ∃ (l : Addr) (xs : List V) (i : Int) (y : V), x = .ref l ∧ vs = [.int i, y] ∧ H l = some (.lst xs) ∧ xs.length < sizeLine ∧ 0 ≤ i ∧ i < 2 ^ 63 ∧
    Q .non (upd H l (.lst (xs.take i.toNat ++ [y] ++ xs.drop i.toNat)))) te (tCons (tC (.int 0)) (tCons te2 tNil))) := by intro te te2 h1 h2; exact pe_bm PySem.F.plainAttrs_list PySem.F.slot_list_insert PySem.F.type_list_insert mt_insert h1 (pa_cons pe_int (pa_cons h2 pa_nil))) :
    CE C X ρ (.Call (.Attribute o "insert" apos) [.Constant (.int 0) j p1, e] [] pos) dv x k := fun Qf =>
  PE.imp (hpe _ _ (ho Qf) (PE.ex fun a => he a Qf)) fun σ H Q ⟨G, J, g, st, w, h⟩ => ⟨G, J, g, st, w, fun v a H1 G1 J1 g1 af1 si1 rr w1 => by
    cases rr
    obtain ⟨ds0, _, h0, _, w1⟩ := w1
    have ty : tyV X.K "list" (.ref a) H1 := by
      have si1' := si1
      rw [hS] at si1'
      obtain ⟨us, h3, _⟩ := si1'.2.1 a _ h0
      exact ty_lst h3
    refine ⟨ty, a, G1, J1, g1, st.go af1 si1, w1, fun v2 d H2 G2 J2 g2 af2 si2 r2 w2 => ?_⟩
    obtain ⟨ds, y, ds', h1, h2, hf, w3⟩ := w2
    have si2' := si2
    rw [hS] at si2'
    obtain ⟨us, h3, h4, _⟩ := si2'.2.1 a _ h1
    unfold ins0F at h2
    split at h2
    · rename_i hl
      cases h2
      obtain ⟨af, si⟩ := reg_lst af2.vis si2' h1 (.cons r2 h4) hf
      exact ⟨a, us, 0, v2, rfl, rfl, h3, by rw [h4.length]; exact hl, by decide, by decide, h .non _ _ G2 J2 _ ((af1.trans af2).trans af) (by rw [hS]; exact si) .non w3⟩
    · cases h2⟩
theorem ce_appO {o e : Expr} {apos pos : Pos} {x : M GH β} {x2 : Addr → M GH β} {k : D → M GH β} (he : ∀ a, CE C X ρ e dv (x2 a) (fun d => bnd (mtM a (appOF d)) k)) (ho : CE C X ρ o R.o x (fun a => bnd (isL a) fun _ => x2 a)) (hS : C.S = SR X.K sc ns := by rfl)
    (hpe : ∀ te te2, PE X o te → PE X e te2 → PE X (.Call (.Attribute o "append" apos) [e] [] pos) (tBM X.K "list" rAppend te (tCons te2 tNil)) := by intro te te2 h1 h2; exact pe_bm PySem.F.plainAttrs_list PySem.F.slot_list_append PySem.F.type_list_append mt_append h1 (pa_cons h2 pa_nil)) :
    CE C X ρ (.Call (.Attribute o "append" apos) [e] [] pos) dv x k := fun Qf =>
  PE.imp (hpe _ _ (ho Qf) (PE.ex fun a => he a Qf)) fun σ H Q ⟨G, J, g, st, w, h⟩ => ⟨G, J, g, st, w, fun v a H1 G1 J1 g1 af1 si1 rr w1 => by
    cases rr
    obtain ⟨ds0, _, h0, _, w1⟩ := w1
    have ty : tyV X.K "list" (.ref a) H1 := by
      have si1' := si1
      rw [hS] at si1'
      obtain ⟨us, h3, _⟩ := si1'.2.1 a _ h0
      exact ty_lst h3
    refine ⟨ty, a, G1, J1, g1, st.go af1 si1, w1, fun v2 d H2 G2 J2 g2 af2 si2 r2 w2 => ?_⟩
    obtain ⟨ds, y, ds', h1, h2, hf, w3⟩ := w2
    have si2' := si2
    rw [hS] at si2'
    obtain ⟨us, h3, h4, _⟩ := si2'.2.1 a _ h1
    unfold appOF appF at h2
    split at h2
    · rename_i hl
      cases h2
      obtain ⟨af, si⟩ := reg_lst af2.vis si2' h1 (h4.append (.one r2)) hf
      exact ⟨a, us, v2, rfl, rfl, h3, by rw [h4.length]; exact hl, h .non _ _ G2 J2 _ ((af1.trans af2).trans af) (by rw [hS]; exact si) .non w3⟩
    · cases h2⟩
/-- [..] + such a list -/
def catF (xs ds : List D) : Option (List D) := if xs.length + ds.length ≤ sizeLine then some (xs ++ ds) else none
theorem ce_catLO {l o : Expr} {pos : Pos} {x : M GH β} {x2 : List D → M GH β} {k : List D → M GH β} (ho : ∀ xs, CE C X ρ o R.o (x2 xs) (fun a => bnd (rdM a (catF xs)) k)) (hl : CE C X ρ l lv x x2) (hS : C.S = SR X.K sc ns := by rfl) : CE C X ρ (.BinOp l .Add o pos) lv x k := fun Qf =>
  PE.imp (pe_op op_cat (hl Qf) (PE.ex fun xs => ho xs Qf)) fun σ H Q ⟨G, J, g, st, w, h⟩ => ⟨G, J, g, st, w, fun v xs H1 G1 J1 g1 af1 si1 rr w1 => ⟨xs, G1, J1, g1, st.go af1 si1, w1, fun v2 a H2 G2 J2 g2 af2 si2 r2 w2 => by
    cases r2
    obtain ⟨p, rfl, hb, hg, hj, vs, hv, rl⟩ := RR.aft rr af2
    obtain ⟨ds, y, h1, h2, w3⟩ := w2
    have si2' := si2
    rw [hS] at si2'
    obtain ⟨us, h3, h4, _⟩ := si2'.2.1 a _ h1
    unfold catF at h2
    split at h2
    · rename_i hlen
      cases h2
      refine ⟨p, a, vs, us, rfl, rfl, hv, h3, by rw [rl.length, h4.length]; exact hlen, fun q hq => ?_⟩
      have n : New G2 H2 G2 (upd H2 q (.lst (vs ++ us))) := New.own af2.vis.sub hq
      exact h _ _ _ G2 J2 g2 ((af1.trans af2).trans (n.aft af2.vis)) (SIx.nw si2 n) ⟨q, rfl, (af1.trans af2).back q hq, none_of_sub af2.vis.sub hq, fun j => af2.vis.dom q j hq, _, upd_same, rl.append h4⟩ w3
    · cases h2⟩⟩
end
section
variable {γ : Type} {m : Type → Type} [PM γ m] {α β δ τ ω : Type} {C : Cc γ} {X : Cx} {ρ : En} {rest : List Stmt} {out : ω → En} {outL : τ → En} {rk : δ → R} {x : m β} {kn : ω → m β} {kr : δ → m β} {kb kc : τ → m β}
theorem cs_expr {e : Expr} {pos : Pos} {rk1 : α → R} {xr : m β} (hr : CS C X ρ rest out outL rk xr kn kr kb kc) (he : CE C X ρ e rk1 x (fun _ => xr)) (hs : swapsWith e none pos.line X.env = pure false := by rfl) :
    CS C X ρ (.Expr e pos :: rest) out outL rk x kn kr kb kc := fun Qf =>
  PSs.imp (pss_cons (ps_expr (he Qf) hs) (hr Qf)) fun E σ H ⟨G, J, g, st, w, f⟩ => ⟨G, J, g, st, w, fun v d H' G' J' g' af si rr w' => ⟨G', J', g', st.go af si, w', f.sub af.gg⟩⟩
end
section
variable {α β δ τ ω : Type} {C : Cc GH} {X : Cx} {ρ : En} {sc : Addr} {ns : List Int} {rest : List Stmt} {out : ω → En} {outL : τ → En} {rk : δ → R} {x : M GH β} {kn : ω → M GH β} {kr : δ → M GH β} {kb kc : τ → M GH β}
theorem cs_fldSet {o e : Expr} {kx : Str} {j p1 spos pos} {x2 : D → M GH β} {xr : M GH β} (hu : X.A.units + 1 < cLine) (hr : CS C X ρ rest out outL rk xr kn kr kb kc) (ho : ∀ d, CE C X ρ o R.o (x2 d) (fun a => bnd (putM a (.inr kx) d) fun _ => xr)) (he : CE C X ρ e dv x x2) (hS : C.S = SR X.K sc ns := by rfl)
    (hps : ∀ te to, PSet X rSetD → PE X e te → PE X o to → PS X (.Assign [.Subscript o (.Constant (.str kx) j p1) spos] e pos) (tAsg te (gSub to (tC (.str kx)) rSetD)) := by intro te to hset he ho; exact ps_asg he (pg_sub ho pe_str hset)) :
    CS C X ρ (.Assign [.Subscript o (.Constant (.str kx) j p1) spos] e pos :: rest) out outL rk x kn kr kb kc := fun Qf =>
  PSs.imp (pss_cons (hps _ _ (set_dict hu) (he Qf) (PE.ex fun d => ho d Qf)) (hr Qf)) fun E σ H ⟨G, J, g, st, w, f⟩ => ⟨G, J, g, st, w, fun v d H1 G1 J1 g1 af1 si1 rr w1 => ⟨d, G1, J1, g1, st.go af1 si1, w1, fun v2 a H2 G2 J2 g2 af2 si2 r2 w2 => by
    cases r2
    obtain ⟨kvs, h1, hl, hf, w3⟩ := w2
    have si2' := si2
    rw [hS] at si2'
    obtain ⟨us, h3, h4⟩ := si2'.2.1 a _ h1
    obtain ⟨af, si⟩ := reg_mut (o := .dK (putK us (.inr kx) v)) (c' := .dct (putR kvs (.inr kx) (.d d))) af2.vis si2' h1 ⟨_, upd_same, h4.put (x := .d d) ⟨Rp.sub af2.gg rr, hf⟩⟩
    exact ⟨a, _, rfl, .inl ⟨us, .inr kx, h3, rfl, by rw [h4.length]; exact hl, rfl⟩, G2, J2, _, ((st.go af1 si1).go af2 si2).go af (by rw [hS]; exact si), w3, f.sub ((af1.gg.trans af2.gg).trans af.gg)⟩⟩⟩
theorem cs_fldSetL {o e : Expr} {kx : Str} {j p1 spos pos} {x2 : List D → M GH β} {xr : M GH β} (hu : X.A.units + 1 < cLine) (hr : CS C X ρ rest out outL rk xr kn kr kb kc) (ho : ∀ d, CE C X ρ o R.o (x2 d) (fun a => bnd (putL a (.inr kx) d) fun _ => xr)) (he : CE C X ρ e lv x x2) (hS : C.S = SR X.K sc ns := by rfl)
    (hps : ∀ te to, PSet X rSetD → PE X e te → PE X o to → PS X (.Assign [.Subscript o (.Constant (.str kx) j p1) spos] e pos) (tAsg te (gSub to (tC (.str kx)) rSetD)) := by intro te to hset he ho; exact ps_asg he (pg_sub ho pe_str hset)) :
    CS C X ρ (.Assign [.Subscript o (.Constant (.str kx) j p1) spos] e pos :: rest) out outL rk x kn kr kb kc := fun Qf =>
  PSs.imp (pss_cons (hps _ _ (set_dict hu) (he Qf) (PE.ex fun d => ho d Qf)) (hr Qf)) fun E σ H ⟨G, J, g, st, w, f⟩ => ⟨G, J, g, st, w, fun v d H1 G1 J1 g1 af1 si1 rr w1 => ⟨d, G1, J1, g1, st.go af1 si1, w1, fun v2 a H2 G2 J2 g2 af2 si2 r2 w2 => by
    cases r2
    obtain ⟨kvs, h1, hl, hf, w3⟩ := w2
    obtain ⟨p, rfl, hb, hg, hj, vs, hv, rl⟩ := RR.aft rr af2
    have si2' := si2
    rw [hS] at si2'
    obtain ⟨us, h3, h4⟩ := si2'.2.1 a _ h1
    obtain ⟨vis3, si3, gp⟩ := reg_add (c := .lst d) af2.vis si2' hg hj ⟨vs, hv, rl, hf⟩ (by rw [hv]; exact Option.some_ne_none _)
    have ne : p ≠ a := fun z => by rw [z, h3] at hv; cases hv
    have h1' : gset g2 p (.lst d) a = some (.dct kvs) := by rw [gset_ne (Ne.symm ne)]; exact h1
    obtain ⟨af, si⟩ := reg_mut (o := .dK (putK us (.inr kx) (.ref p))) (c' := .dct (putR kvs (.inr kx) (.r p))) vis3 si3 h1' ⟨_, upd_same, h4.put (x := .r p) rfl⟩
    have af' : Aft G J H G2 (fun b => b = p ∨ J2 b) H2 := (af1.trans af2).addJ hb vis3
    exact ⟨a, _, rfl, .inl ⟨us, .inr kx, h3, rfl, by rw [h4.length]; exact hl, rfl⟩, G2, _, _, st.go (af'.trans af) (by rw [hS]; exact si), w3 p gp ne, f.sub ((af1.gg.trans af2.gg).trans af.gg)⟩⟩⟩
theorem cs_setItO {o i e : Expr} {spos pos} {x2 : D → M GH β} {x3 : D → Addr → M GH β} {xr : M GH β} (hr : CS C X ρ rest out outL rk xr kn kr kb kc) (hi : ∀ d a, CE C X ρ i dv (x3 d a) (fun j => bnd (mtM a (setOF j d)) fun _ => xr)) (ho : ∀ d, CE C X ρ o R.o (x2 d) (x3 d)) (he : CE C X ρ e dv x x2) (hS : C.S = SR X.K sc ns := by rfl)
    (hps : ∀ te to ti, PE X e te → PE X o to → PE X i ti → PS X (.Assign [.Subscript o i spos] e pos) (tAsg te (gSub to ti rSetL)) := by intro te to ti he ho hi; exact ps_asg he (pg_sub ho hi set_list)) :
    CS C X ρ (.Assign [.Subscript o i spos] e pos :: rest) out outL rk x kn kr kb kc := fun Qf =>
  PSs.imp (pss_cons (hps _ _ _ (he Qf) (PE.ex fun d => ho d Qf) (PE.ex fun p : D × Addr => hi p.1 p.2 Qf)) (hr Qf)) fun E σ H ⟨G, J, g, st, w, f⟩ => ⟨G, J, g, st, w, fun v d H1 G1 J1 g1 af1 si1 rr w1 => ⟨d, G1, J1, g1, st.go af1 si1, w1, fun v2 a H2 G2 J2 g2 af2 si2 r2 w2 => by
    cases r2
    refine ⟨(d, a), G2, J2, g2, (st.go af1 si1).go af2 si2, w2, fun v3 jj H3 G3 J3 g3 af3 si3 r3 w3 => ?_⟩
    obtain ⟨ds, y, ds', h1, h2, hf, w4⟩ := w3
    have si3' := si3
    rw [hS] at si3'
    obtain ⟨us, h3, h4, _⟩ := si3'.2.1 a _ h1
    cases r3 with
    | int n =>
      unfold setOF setF at h2
      dsimp only at h2
      cases q : ixN ds.length n with
      | none => rw [q] at h2; cases h2
      | some jn =>
        rw [q] at h2
        cases h2
        obtain ⟨af, si⟩ := reg_lst af3.vis si3' h1 (h4.set (Rp.sub (af2.trans af3).gg rr) jn) hf
        exact ⟨a, us, n, jn, rfl, rfl, h3, by rw [h4.length]; exact q, G3, J3, _, ((st.go af1 si1).go (af2.trans af3) si3).go af (by rw [hS]; exact si), w4, f.sub (((af1.gg.trans af2.gg).trans af3.gg).trans af.gg)⟩
    | _ => cases h2⟩⟩
end

/-! ### a new dict -/
def own1 (r : R) (v : V) (q : Addr) : Prop := match r with
  | .l _ => v = .ref q
  | _ => False
/-- what is asked of a value to be stored in a dict -/
def RRw (K : PySem.W.Frag) (G : Hp) (J : Addr → Prop) (H Hb : Hp) (v : V) : R → Prop
  | .p _ _ => True
  | .v d => RR K G J H Hb v (.v d)
  | .o a => RR K G J H Hb v (.o a)
  | .l c => RR K G J H Hb v (.l c)
theorem RR.w {K : PySem.W.Frag} {G : Hp} {J : Addr → Prop} {H Hb : Hp} {v : V} {r : R} (h : RR K G J H Hb v r) : RRw K G J H Hb v r := by
  cases r with
  | v d => exact h
  | o a => exact h
  | l c => exact h
  | p xs d => trivial
theorem RRw.aft {K : PySem.W.Frag} {G G' H H' Hb : Hp} {J J' : Addr → Prop} {v : V} {r : R} (h : RRw K G J H Hb v r) (a : Aft G J H G' J' H') : RRw K G' J' H' Hb v r := by
  cases r with
  | v d => exact RR.aft (Hb := Hb) (r := .v d) h a
  | o x => exact h
  | l c => exact RR.aft (Hb := Hb) (r := .l c) h a
  | p xs d => trivial
theorem RRw.base {K : PySem.W.Frag} {G H Hb Hc : Hp} {J : Addr → Prop} {v : V} {r : R} (h : RRw K G J H Hb v r) (k : ∀ a, Hb a = none → Hc a = none) : RRw K G J H Hc v r := by
  cases r with
  | v d => exact h
  | o x => exact h
  | l c => exact RR.base (r := .l c) h k
  | p xs d => trivial
inductive RKs (K : PySem.W.Frag) (G : Hp) (J : Addr → Prop) (H Hb : Hp) : List (V × V) → List (Key × R) → Prop
  | nil : RKs K G J H Hb [] []
  | cons {k : Key} {v : V} {r : R} {ps : List (V × V)} {es : List (Key × R)} : RRw K G J H Hb v r → (∀ q, own1 r v q → Hb q = none) → RKs K G J H Hb ps es → (∀ q, own1 r v q → ∀ (i : Nat) (p : V × V) (e : Key × R), ps[i]? = some p → es[i]? = some e → ¬ own1 e.2 p.2 q) → RKs K G J H Hb ((kV k, v) :: ps) ((k, r) :: es)
def TP := L2.St → Hp → (List (V × V) → Hp → Prop) → Prop
structure PPx (X : Cx) (pos : Pos) (keys : List (Option Expr)) (values : List Expr) (t : TP) : Prop where
  run : ∀ (pins : List (Addr × Obj)) (s : Shared) (σ : L2.St) (H : Hp) (Q : List (V × V) → Hp → Prop), Inv X pins σ H s → t σ H Q →
    wpAny (model X.prog X.w) X.A (evalPairs (pairTrees keys values X.env pos)) (fun vs s' => ∃ ps H', Inv X pins σ H' s' ∧ VV ps vs ∧ Q ps H') X.xe s
theorem ppx_nil {X : Cx} {pos : Pos} : PPx X pos [] [] (fun _ H Q => Q [] H) := ⟨fun pins s σ H Q I h => pairTrees_nil_walk ⟨[], H, I, .nil, h⟩⟩
theorem ppx_cons {X : Cx} {pos : Pos} {k v : Expr} {ks : List (Option Expr)} {vs : List Expr} {tk tv : TE} {t : TP} (hk : PE X k tk) (hv : PE X v tv) (hr : PPx X pos ks vs t) :
    PPx X pos (some k :: ks) (v :: vs) (fun σ H Q => tk σ H fun x H1 => tv σ H1 fun y H2 => t σ H2 fun ps H3 => Q ((x, y) :: ps) H3) := ⟨fun pins s σ H Q I h =>
  pairTrees_cons_walk (thn (hk.run pins s σ H _ I h) fun u s1 ⟨x, H1, I1, rx, q1⟩ => thn (hv.run pins s1 σ H1 _ I1 q1) fun w2 s2 ⟨y, H2, I2, ry, q2⟩ =>
    thn (hr.run pins s2 σ H2 _ I2 q2) fun ws s3 ⟨ps, H3, I3, rel, q3⟩ => ⟨(x, y) :: ps, H3, I3, .cons ⟨rx, ry⟩ rel, q3⟩)⟩
theorem PPx.imp {X : Cx} {pos : Pos} {ks vs} {t t' : TP} (h : PPx X pos ks vs t) (i : ∀ σ H Q, t' σ H Q → t σ H Q) : PPx X pos ks vs t' := ⟨fun pins s σ H Q I q => h.run pins s σ H Q I (i σ H Q q)⟩
theorem PPx.ex {X : Cx} {pos : Pos} {ks vs} {ι : Type} {t : ι → TP} (h : ∀ i, PPx X pos ks vs (t i)) : PPx X pos ks vs (fun σ H Q => ∃ i, t i σ H Q) := ⟨fun pins s σ H Q I ⟨i, q⟩ => (h i).run pins s σ H Q I q⟩
def tDispX (t : TP) : TE := fun σ H Q => ∀ p, H p = none → t σ (upd H p (.dK [])) fun ps H2 => H2 p = some (.dK []) ∧ ∃ kvs : List (Key × V), ps = kvs.map (fun kv => (kV kv.1, kv.2)) ∧ kvs.length ≤ 15 ∧ Q (.ref p) (upd H2 p (.dK (mergeK [] kvs)))
theorem pe_dispX {X : Cx} {pos : Pos} {keys : List (Option Expr)} {values : List Expr} {t : TP} (h : PPx X pos keys values t) (hall : keys.all (·.isSome) = true) (hl : keys.length = values.length) (h0 : keys ≠ [])
    (h15 : keys.length ≤ 15) : PE X (.Dict keys values pos) (tDispX t) := by
  refine ⟨fun pins s σ H Q I q => ?_⟩
  have hn := I.hok.fresh (Nat.le_refl s.heap.objs.size)
  have I1 := I.laid (a := s.heap.objs.size) (o := .dK []) (h' := s.heap.push { cls := .type "dict", data := .dict #[] }) (t' := s.toks) (fun _ _ q => Heap.get?_push_of_some _ q) (Nat.le_refl _) (dk_empty s.heap I.big)
  refine wpAny_Dict_walk (knd := mixKind X.prog X.w) hall hl h0 h15 (thn (h.run pins _ σ _ _ I1 (q _ hn)) fun ws s2 ⟨ps, H2, I2, rel, e, kvs, ep, lk, q2⟩ => ?_)
  subst ep
  obtain ⟨rs, c, rk⟩ := carries_of (P := X.prog) (w := X.w) rel
  obtain ⟨z, hd, vs0, r0, dd⟩ := dk_of I2.hok e
  cases r0
  refine ⟨rs, c, dd, fun h' dd' hs => ⟨.ref s.heap.objs.size, _, ?_, rfl, q2⟩⟩
  have hz : (mergeK [] kvs).length ≤ sizeLine := by
    have h1 := length_mergeK kvs []
    rw [List.length_nil] at h1
    rw [sizeLine_eq]; omega
  have he : ∃ q, h'.get? s.heap.objs.size = some q := let ⟨q, _, _, hq, _⟩ := dd'; ⟨q, hq⟩
  exact d_write I2 (by rw [e]; exact True.intro) hs he (dk_new hz hd (rk.merge .nil) dd')
section
variable {K : PySem.W.Frag} {G G' H H' Hb Hc : Hp} {J J' : Addr → Prop}
theorem own1_rr {r : R} {v : V} {q : Addr} (h : RRw K G J H Hb v r) (o : own1 r v q) : Hb q = none ∧ G q = none ∧ ¬ J q ∧ H q ≠ none := by
  cases r with
  | v d => exact o.elim
  | o a => exact o.elim
  | p xs d => exact o.elim
  | l c =>
    obtain ⟨p, rfl, h1, h2, h3, h4⟩ := h
    cases o
    obtain ⟨u, hu⟩ := h4.ex
    exact ⟨h1, h2, h3, by rw [hu]; exact Option.some_ne_none _⟩
theorem RKs.base (k : ∀ a, Hb a = none → Hc a = none) : ∀ {ps : List (V × V)} {es : List (Key × R)}, RKs K G J H Hb ps es → RKs K G J H Hc ps es
  | _, _, .nil => .nil
  | _, _, .cons h hb t d => .cons (h.base k) (fun q o => k q (hb q o)) (RKs.base k t) d
theorem RKs.own : ∀ {ps : List (V × V)} {es : List (Key × R)}, RKs K G J H Hb ps es → ∀ (i : Nat) (p : V × V) (e : Key × R) (q : Addr), ps[i]? = some p → es[i]? = some e → own1 e.2 p.2 q → Hb q = none
  | _, _, .nil, i, p, e, q, h1, _, _ => by simp at h1
  | _, _, .cons h hb t d, 0, p, e, q, h1, h2, o => by
    simp at h1 h2
    subst h1 h2
    exact hb q o
  | _, _, .cons h hb t d, i + 1, p, e, q, h1, h2, o => RKs.own t i p e q (by simpa using h1) (by simpa using h2) o
end
theorem RRw.addJ {K : PySem.W.Frag} {G H Hb : Hp} {J : Addr → Prop} {v : V} {r : R} {q : Addr} (h : RRw K G J H Hb v r) (hq : ¬ own1 r v q) : RRw K G (fun a => a = q ∨ J a) H Hb v r := by
  cases r with
  | p xs d => trivial
  | v d => exact h
  | o a => exact h
  | l c =>
    obtain ⟨p, rfl, h1, h2, h3, h4⟩ := h
    exact ⟨p, rfl, h1, h2, fun z => z.elim (fun e => hq (by rw [e]; exact rfl)) h3, h4⟩
theorem RKs.addJ {K : PySem.W.Frag} {G H Hb : Hp} {J : Addr → Prop} {q : Addr} : ∀ {ps : List (V × V)} {es : List (Key × R)}, RKs K G J H Hb ps es → (∀ (i : Nat) (p : V × V) (e : Key × R), ps[i]? = some p → es[i]? = some e → ¬ own1 e.2 p.2 q) → RKs K G (fun a => a = q ∨ J a) H Hb ps es
  | _, _, .nil, _ => .nil
  | _, _, .cons h hb t d, n => .cons (h.addJ (n 0 _ _ rfl rfl)) hb (RKs.addJ t fun i p e h1 h2 => n (i + 1) p e (by simpa using h1) (by simpa using h2)) d
theorem alloc_all {K : PySem.W.Frag} {sc : Addr} {ns : List Int} {G H Hb : Hp} : ∀ {es : List (Key × R)} {ps : List (V × V)} {J : Addr → Prop} {g : GH} {Q : List (Key × RV) → GH → Prop}, RKs K G J H Hb ps es → Vis G J H → (SR K sc ns).si g G J H → allocs es g Q →
    ∃ J' g' kvs us, Vis G J' H ∧ (SR K sc ns).si g' G J' H ∧ RVs K G us kvs ∧ ps = us.map (fun kv => (kV kv.1, kv.2)) ∧ us.map (·.1) = es.map (·.1) ∧ Q kvs g' ∧ ∀ a, J' a → J a ∨ Hb a = none
  | [], _, J, g, Q, .nil, vis, si, h => ⟨J, g, [], [], vis, si, .nil, rfl, rfl, h, fun a j => .inl j⟩
  | (k, .v d) :: es, _, J, g, Q, .cons (v := v) h hb t dj, vis, si, al => by
    obtain ⟨J', g', kvs, us, a1, a2, a3, a4, a5, a6, a7⟩ := alloc_all t vis si al.2
    exact ⟨J', g', _, (k, v) :: us, a1, a2, .d h al.1 a3, by rw [List.map_cons, a4], by rw [List.map_cons, List.map_cons, a5], a6, a7⟩
  | (k, .o x) :: es, _, J, g, Q, .cons (v := v) h hb t dj, vis, si, al => by
    cases h
    obtain ⟨J', g', kvs, us, a1, a2, a3, a4, a5, a6, a7⟩ := alloc_all (es := es) t vis si al
    exact ⟨J', g', _, (k, .ref x) :: us, a1, a2, .r a3, by rw [List.map_cons, a4], by rw [List.map_cons, List.map_cons, a5], a6, a7⟩
  | (k, .l (.lst ds)) :: es, _, J, g, Q, .cons (v := v) h hb t dj, vis, si, al => by
    obtain ⟨q, rfl, h1, h2, h3, vs, h4, h5⟩ := h
    obtain ⟨vis2, si2, gq⟩ := reg_add (c := .lst ds) vis si h2 h3 ⟨vs, h4, h5, al.1⟩ (by rw [h4]; exact Option.some_ne_none _)
    obtain ⟨J', g', kvs, us, a1, a2, a3, a4, a5, a6, a7⟩ := alloc_all (t.addJ (dj q rfl)) vis2 si2 (al.2 q gq)
    refine ⟨J', g', _, (k, .ref q) :: us, a1, a2, .r a3, by rw [List.map_cons, a4], by rw [List.map_cons, List.map_cons, a5], a6, fun a j => ?_⟩
    rcases a7 a j with (z | z) | z
    · rw [z]; exact .inr h1
    · exact .inl z
    · exact .inr z
  | (k, .l (.dct _)) :: es, _, J, g, Q, .cons (v := v) h hb t dj, vis, si, al => al.elim
  | (k, .p _ _) :: es, _, J, g, Q, .cons (v := v) h hb t dj, vis, si, al => al.elim
theorem merge_new : ∀ {us acc : List (Key × V)}, (us.map (·.1)).Nodup → (∀ p ∈ us, ∀ q ∈ acc, q.1 ≠ p.1) → mergeK acc us = acc ++ us
  | [], acc, _, _ => by rw [List.append_nil]; rfl
  | (k, v) :: us, acc, hn, hd => by
    rw [List.map_cons, List.nodup_cons] at hn
    show mergeK (putK acc k v) us = _
    have e : putK acc k v = acc ++ [(k, v)] := by
      unfold putK
      rw [if_neg]
      intro z
      obtain ⟨q, h1, h2⟩ := List.any_eq_true.mp z
      exact hd (k, v) List.mem_cons_self q h1 (of_decide_eq_true h2)
    rw [e, merge_new hn.2 fun p hp q hq => ?_, List.append_assoc]
    · rfl
    · rcases List.mem_append.mp hq with z | z
      · exact hd p (List.mem_cons_of_mem _ hp) q z
      · rw [List.mem_singleton.mp z]
        exact fun e => hn.1 (by rw [e]; exact List.mem_map_of_mem hp)
section
variable {α β δ τ ω : Type} {C : Cc GH} {X : Cx} {ρ : En} {sc : Addr} {ns : List Int}
def CDc {β : Type} (C : Cc GH) (X : Cx) (ρ : En) (pos : Pos) (ks : List (Option Expr)) (vs : List Expr) (x : M GH β) (k : List (Key × R) → M GH β) : Prop :=
  ∀ Qf : β → GH → Prop, PPx X pos ks vs (fun σ H Q => ∃ G J g, C.St X.K ρ σ H G J g ∧ PM.wp x g Qf C.EX ∧
    ∀ ps es H' G' J' g', Aft G J H G' J' H' → C.S.si g' G' J' H' → RKs X.K G' J' H' H ps es → PM.wp (k es) g' Qf C.EX → Q ps H')
theorem cdc_nil {pos : Pos} {k : List (Key × R) → M GH β} : CDc C X ρ pos [] [] (k []) k := fun Qf => PPx.imp ppx_nil fun σ H Q ⟨G, J, g, st, w, h⟩ => h [] [] H G J g (Aft.refl st.vis) st.si .nil w
theorem RKs.aft {K : PySem.W.Frag} {G G' H H' Hb : Hp} {J J' : Addr → Prop} (a : Aft G J H G' J' H') : ∀ {ps : List (V × V)} {es : List (Key × R)}, RKs K G J H Hb ps es → RKs K G' J' H' Hb ps es
  | _, _, .nil => .nil
  | _, _, .cons h hb t d => .cons (h.aft a) hb (RKs.aft a t) d
theorem cdc_cons {pos : Pos} {kx : Str} {j p1} {e : Expr} {ks : List (Option Expr)} {es : List Expr} {rk : α → R} {x : M GH β} {y : α → M GH β} {k : List (Key × R) → M GH β} (hr : ∀ a, CDc C X ρ pos ks es (y a) (fun rs => k ((.inr kx, rk a) :: rs))) (he : CE C X ρ e rk x y) :
    CDc C X ρ pos (some (.Constant (.str kx) j p1) :: ks) (e :: es) x k := fun Qf =>
  PPx.imp (ppx_cons pe_str (he Qf) (PPx.ex fun a => hr a Qf)) fun σ H Q ⟨G, J, g, st, w, h⟩ => ⟨G, J, g, st, w, fun v a H1 G1 J1 g1 af1 si1 rr w1 => ⟨a, G1, J1, g1, st.go af1 si1, w1, fun ps rs H' G' J' g' af si rks w' =>
    h ((.str kx, v) :: ps) ((.inr kx, rk a) :: rs) H' G' J' g' (af1.trans af) si (.cons (k := .inr kx) (rr.aft af).w (fun q o => (own1_rr rr.w o).1) (rks.base af1.back) fun q o i p e h1 h2 o2 => (own1_rr rr.w o).2.2.2 (rks.own i p e q h1 h2 o2)) w'⟩⟩
theorem ce_dct {pos : Pos} {ks : List (Option Expr)} {vs : List Expr} {x : M GH β} {k : Addr → M GH β} (h : CDc C X ρ pos ks vs x (fun es => bnd (nwM es) k)) (hS : C.S = SR X.K sc ns := by rfl) (hall : ks.all (·.isSome) = true := by rfl) (hl : ks.length = vs.length := by rfl) (h0 : ks ≠ [] := by intro z; cases z) (h15 : ks.length ≤ 15 := by decide) :
    CE C X ρ (.Dict ks vs pos) R.o x k := fun Qf =>
  PE.imp (pe_dispX (h Qf) hall hl h0 h15) fun σ H Q ⟨G, J, g, st, w, hQ⟩ => fun p hp => by
    have n : New G H G (upd H p (.dK [])) := New.own st.vis.sub hp
    have af0 := n.aft st.vis
    have gp : G p = none := none_of_sub st.vis.sub hp
    have jp : ¬ J p := fun j => st.vis.dom p j hp
    refine ⟨G, J, g, st.go af0 (SIx.nw st.si n), w, fun ps es H2 G2 J2 g2 af si rks w2 => ?_⟩
    obtain ⟨hD2, g2D, j2D⟩ := af.keepD upd_same gp jp
    have si' := si
    rw [hS] at si'
    obtain ⟨hnd, hlen, al⟩ := w2
    obtain ⟨J3, g3, kvs, us, vis3, si3, rv, ep, ek, w3, hj3⟩ := alloc_all rks af.vis si' al
    have hkeys : (us.map (·.1)).Nodup := by rw [ek]; exact hnd
    have j3 : ¬ J3 p := fun z => by
      rcases hj3 p z with q | q
      · exact j2D q
      · rw [upd_same] at q; cases q
    obtain ⟨vis4, si4, gp3⟩ := reg_add (c := .dct []) vis3 si3 g2D j3 ⟨[], hD2, .nil⟩ (by rw [hD2]; exact Option.some_ne_none _)
    obtain ⟨af5, si5⟩ := reg_mut (o := .dK us) (c' := .dct kvs) vis4 si4 gset_same ⟨us, upd_same, rv⟩
    have eg : gset (gset g3 p (.dct [])) p (.dct kvs) = gset g3 p (.dct kvs) := by
      funext b
      by_cases z : b = p
      · subst z; rw [gset_same, gset_same]
      · rw [gset_ne z, gset_ne z, gset_ne z]
    rw [eg] at si5
    have em : mergeK [] us = us := by
      rw [merge_new hkeys (fun _ _ q hq => by simp at hq)]
      rfl
    have hlu : us.length ≤ 15 := by
      have := congrArg List.length ek
      rw [List.length_map, List.length_map] at this
      rw [this]; exact hlen
    refine ⟨hD2, us, ep, hlu, ?_⟩
    rw [em]
    have afA : Aft G J H G2 (fun b => b = p ∨ J3 b) H2 := by
      have a1 := af0.trans af
      refine ⟨a1.gg, a1.hh, a1.dm, a1.gn, fun b jb => ?_, vis4⟩
      rcases jb with rfl | jb
      · exact .inr hp
      · rcases hj3 b jb with q | q
        · exact a1.jn b q
        · refine .inr ?_
          by_cases z : b = p
          · subst z; exact hp
          · rw [upd_ne z] at q; exact q
    exact hQ _ p _ G2 _ _ (afA.trans af5) (by rw [hS]; exact si5) rfl (w3 p gp3)
end
end Cl

set_option Elab.async false
set_option linter.all false
set_option autoImplicit false
set_option maxRecDepth 100000
set_option maxHeartbeats 4000000
/-! the clean layer, part O: the law itself -/
namespace Cl
open PySem PySem.Spec PyProof.Rows L2
open MO

theorem scr_ok {K : PySem.W.Frag} {T : Hp} {a : Addr} {ns : List Int} (only : Only T) (h : SqL K T a (ns.map V.int)) : ScrOk K T a ns := by
  rcases h with h | h
  · rcases h with h | ⟨o, h⟩
    · rcases only a with z | ⟨o, ys, z⟩ <;> rw [h] at z <;> cases z
    · exact .inl ⟨o, h⟩
  · exact .inr fun _ => .inr h
section
variable {P : Program} {w : World} {K : PySem.W.Frag} {mg mb : Str → Option Value} {k : Nat} {fa sa : Addr} {fd : FuncData} {px : Str} {sp : Sp} {s1 : Shared} {us : List Value} {ns : List Int}
/-- from a heap in which at most the script is told -/
theorem call_at (KX : K.In s1.heap) (hns : s1.heap.Ns mainGlobals mg) (hb : s1.heap.Ns builtinsNs mb) (hbb : ∀ z : Str, z ≠ "__name__" → mb z = bootBuiltins z) (hlim : s1.heap.NoLimit) (hgen : s1.gens = #[])
    (hobj : s1.heap.get? sa = some { cls := .type "list", data := .seq us.toArray }) (hr : Room k callerA)
    (F : ∀ base : Heap, K.In base → base.Ns mainGlobals mg → FnG P w K mg base k fa fd [px] sp) (bind : ∀ (t : Shared) (u : Value), BindsTo t fd ⟨[u], []⟩ [(px, u)]) (T : Hp) (only : Only T) (hsp : sp [.ref sa] T (fun v _ => v = .bl true) fun _ _ _ => False)
    (hok : HOk P w T s1.heap) (atA : ∀ c, T c ≠ none → c = sa) (notK : T sa ≠ none → K.lookup sa = none) :
    codeAny (model P w) callerA (.call (.ref fa) ⟨[.ref sa], []⟩) (fun res s2 => res = .ok (.ret (.bool true)) ∧ OldK s1.heap s2.heap ∧ s2.os = s1.os ∧ AllBare s2.gens) s1 := by
  have low : ∀ {c : Addr} {o : Obj}, s1.heap.get? c = some o → T c = none → (hidT s1.heap T).get? c = some o := fun e n => hidT_get e n
  have free : ∀ {c : Addr} {o : Obj} {es : Array DictEntry} {ep : Nat}, s1.heap.get? c = some o → o.data = .dict es ep → T c = none := fun {c o es ep} e d => by
    cases q : T c with
    | none => rfl
    | some v =>
      have z := atA c (by rw [q]; exact Option.some_ne_none v)
      subst z
      rw [hobj] at e
      cases e
      exact absurd d (by intro z; cases z)
  have names : ∀ {c : Addr} {f : Str → Option Value}, s1.heap.Ns c f → (hidT s1.heap T).Ns c f := fun {c f} ⟨o, es, ep, e, d, r⟩ => ⟨o, es, ep, low e (free e d), d, r⟩
  have kb : K.In (hidT s1.heap T) := fun c o e => low (KX c o e) (by
    cases q : T c with
    | none => rfl
    | some v =>
      have z := atA c (by rw [q]; exact Option.some_ne_none v)
      subst z
      rw [notK (by rw [q]; exact Option.some_ne_none v)] at e
      cases e)
  have md : Mod K mg (hidT s1.heap T) := ⟨kb, names hns, ⟨mb, names hb, hbb⟩, let ⟨mc, y1, y2⟩ := hlim; ⟨mc, names y1, y2⟩⟩
  have start : Env0 P w K mg (hidT s1.heap T) callerA [] s1 T := ⟨rfl, md, fun c o e => of_hidT e, Nat.le_of_eq (hidT_size _ _), trivial, fun c hc => absurd (show c ∈ ([] : List Addr) from hc) (by simp), hok, .of_eq hgen⟩
  refine codeAny_mono ((F _ kb (names hns)).does callerA [] s1 T ⟨[.ref sa], []⟩ [.ref sa] [.ref sa] _ _ hr rfl start (bind s1 (.ref sa)) (.cons rfl .nil) hsp) fun res s2 got => ?_
  match res, got with
  | .error _, got => exact got.elim
  | .ok .next, got => exact False.elim got
  | .ok .brk, got => exact False.elim got
  | .ok .cont, got => exact False.elim got
  | .ok (.ret u), got =>
    obtain ⟨v, T2, os, bare, un, hok2, rel, end_⟩ := got
    have end2 : v = .bl true := end_
    subst end2
    obtain rfl : u = Value.bool true := rel
    refine ⟨rfl, OldK.of_keep fun c o e => ?_, os, bare⟩
    cases q : T c with
    | none => exact un.keep c o e q (by intro z; exact absurd (show c ∈ ([] : List Addr) from z) (by simp)) (by simp)
    | some v =>
      rcases only c with z | ⟨oc, ys, z⟩
      · rw [q] at z; cases z
      · obtain ⟨y1, _⟩ := hok c _ z
        obtain ⟨y2, _⟩ := hok2 c _ (un.frzs c oc _ z)
        rw [e] at y1
        cases y1
        exact y2
theorem call_law (KX : K.In s1.heap) (hns : s1.heap.Ns mainGlobals mg) (hb : s1.heap.Ns builtinsNs mb) (hbb : ∀ z : Str, z ≠ "__name__" → mb z = bootBuiltins z) (hlim : s1.heap.NoLimit) (hgen : s1.gens = #[])
    (hobj : s1.heap.get? sa = some { cls := .type "list", data := .seq us.toArray }) (inz : IntsAre us ns) (hl : ns.length ≤ sizeLine) (hr : Room k callerA)
    (F : ∀ base : Heap, K.In base → base.Ns mainGlobals mg → FnG P w K mg base k fa fd [px] sp) (bind : ∀ (t : Shared) (u : Value), BindsTo t fd ⟨[u], []⟩ [(px, u)])
    (hsp : ∀ T : Hp, Only T → SqL K T sa (ns.map V.int) → sp [.ref sa] T (fun v _ => v = .bl true) fun _ _ _ => False) :
    codeAny (model P w) callerA (.call (.ref fa) ⟨[.ref sa], []⟩) (fun res s2 => res = .ok (.ret (.bool true)) ∧ OldK s1.heap s2.heap ∧ s2.os = s1.os ∧ AllBare s2.gens) s1 := by
  have rel := vals_ints inz
  have lu := inz.length
  cases look : K.lookup sa with
  | some o =>
    have e := KX sa o look
    rw [hobj] at e
    cases e
    exact call_at KX hns hb hbb hlim hgen hobj hr F bind (fun _ => none) (fun _ => .inl rfl) (hsp _ (fun _ => .inl rfl) (.inr ⟨_, us.toArray, _, look, rfl, rfl, rfl, (by rw [List.size_toArray, lu]; exact hl), (by simpa using rel)⟩))
      (fun c v z => by cases (show (none : Option HO) = some v from z)) (fun c z => absurd rfl z) fun z => absurd rfl z
  | none =>
    let T : Hp := fun c => if c = sa then some (.frz { cls := .type "list", data := .seq us.toArray } (.lst (ns.map V.int))) else none
    have tA : T sa = some (.frz { cls := .type "list", data := .seq us.toArray } (.lst (ns.map V.int))) := if_pos rfl
    have tN : ∀ c, c ≠ sa → T c = none := fun c h => if_neg h
    have only : Only T := fun c => by
      by_cases z : c = sa
      · subst z; exact .inr ⟨_, _, tA⟩
      · exact .inl (tN c z)
    refine call_at KX hns hb hbb hlim hgen hobj hr F bind T only (hsp T only (.inl (.inr ⟨_, tA⟩))) (fun c v z => ?_) (fun c z => Classical.byContradiction fun n => z (tN c n)) fun _ => look
    by_cases q : c = sa
    · subst q
      rw [tA] at z
      cases z
      exact ⟨hobj, (by rw [List.length_map]; exact hl), us, _, rel, hobj⟩
    · rw [tN c q] at z
      cases z
end
/-- the goal that k_head leaves, from the law's mirror -/
theorem law_end {l : PySem.W.OpenLaw} {n lvl : Nat} {q : Program} {loose : List Str} {XP : (Str → Option Value) → Heap → Prop} {YP : World → Heap → Prop} {d : DefRec} {K : Params → PySem.W.Frag} {px : Str} {f : Addr → List Int → Ar [false] → M GH Bool}
    (hn : l.most = some n) (hn2 : n ≤ sizeLine) (hdf : d.params.defaults = []) (hr : Room lvl callerA) (hY : ∀ (w : World) (h : Heap), YP w h → (K w.params).In h)
    (F : ∀ (w : World) (mg : Str → Option Value) (h : Heap), (K w.params).In h → h.Ns mainGlobals mg →
      ∀ (sc : Addr) (ns : List Int) (base : Heap), (K w.params).In base → base.Ns mainGlobals mg → Cal l.prog w (K w.params) mg base d.name lvl [px] (spC (K w.params) (SR (K w.params) sc ns) [false] (f sc ns) bv))
    (math : ∀ (sc : Addr) (ns : List Int), ns.length ≤ n → (f sc ns (sc, ())).wp (fun _ => none) (fun b _ => b = true) (fun _ _ => False)) :
    PySem.W.WalkO q loose XP YP l.row.toRowW d [] (fun f vs => PySem.call f vs) := by
  refine Att.attach_call hn hdf fun w s0 s1 mg mb fa o pm cd doc sa us ns G Y ho hd hcd hmg hobj inz hlen hgen => ?_
  have KX := hY w _ Y
  obtain ⟨f0, fd, m0, F0, k0, b0, b1, oc, od, sl, lk⟩ := (F w mg _ KX G.T.g sa ns _ KX G.T.g).ex
  rw [hmg] at m0
  cases m0
  refine call_law (sp := spC (K w.params) (SR (K w.params) sa ns) [false] (f sa ns) bv) KX G.T.g G.T.b G.T.builtins G.T.nolimit hgen hobj inz (Nat.le_trans hlen hn2) hr (fun base kb nb => ?_) (fun t u => b0 t _ [u] rfl (b1 [u] rfl)) fun T only hS => ?_
  · obtain ⟨f', fd', m', F', k', _, _, oc', od', sl', lk'⟩ := (F w mg _ KX G.T.g sa ns base kb nb).ex
    rw [hmg] at m'
    cases m'
    rw [lk] at lk'
    cases lk'
    exact F'
  · refine ⟨T, fun _ => False, fun _ => none, [.o sa], ⟨Sub.refl _, fun _ z => z.elim, fun _ z => z.elim⟩, ⟨fun _ => ⟨fun z => z.elim, fun z => absurd rfl z⟩, (fun _ _ z => by cases z), scr_ok only hS⟩, .o .nil, rfl, ?_⟩
    refine (f sa ns (sa, ())).mono (math sa ns hlen) fun b g e => ?_
    subst e
    intro v H' G' J' _ _ rr
    cases rr
    rfl
end Cl

set_option Elab.async false
set_option linter.all false
set_option autoImplicit false
set_option maxRecDepth 100000
set_option maxHeartbeats 4000000
/-! the clean layer, part P: odds and ends; what stands behind the top -/
namespace Cl
open PySem PySem.Spec PyProof.Rows L2
open MO

theorem Room.u64 {k : Nat} {A : Around} (r : L2.Room k A) : A.units + 64 < cLine := by have := r.un; omega
theorem Room.u65 {k : Nat} {A : Around} (r : L2.Room k A) : A.units + 65 < cLine := by have := r.un; omega
theorem Room.u1 {k : Nat} {A : Around} (r : L2.Room k A) : A.units + 1 < cLine := by have := r.un; omega
section
variable {γ : Type} {m : Type → Type} [PM γ m] {α β δ τ : Type} {C : Cc γ} {X : Cx} {ρ : En}
theorem ce_to {e : Expr} (rk : α → D) {x : m β} {k : D → m β} (h : CE C X ρ e (fun a => R.v (rk a)) x (fun a => k (rk a))) : CE C X ρ e dv x k := fun Qf =>
  PE.imp (h Qf) fun σ H Q ⟨G, J, g, st, w, q⟩ => ⟨G, J, g, st, w, fun v a H' G' J' g' af si rr w' => q v (rk a) H' G' J' g' af si rr w'⟩
theorem ce_boolB {b : Bool} {j pos} {k : Bool → m β} : CE C X ρ (.Constant (.bool b) j pos) bv (k b) k := fun Qf =>
  PE.imp pe_bl fun σ H Q ⟨G, J, g, st, w, h⟩ => h _ b H G J g (Aft.refl st.vis) st.si (.bl _) w
end
section
variable {γ : Type} {m : Type → Type} [PM γ m] {α β δ τ : Type} {C : Cc γ} {X : Cx} {ρ : En} {ss : List Stmt} {out : α → En} {outL : τ → En} {rk : δ → R} {x y : m β} {kn : α → m β} {kr : δ → m β} {kb kc : τ → m β}
theorem cs_eq (h : CS C X ρ ss out outL rk x kn kr kb kc) (e : y = x) : CS C X ρ ss out outL rk y kn kr kb kc := e ▸ h
end
/-! ### a list of one's own is given to the region -/
def giveM (xs : List D) : M GH Addr := ⟨fun g Q _ => flatL xs = true ∧ ∀ q, g q = none → Q q (gset g q (.lst xs)), fun ⟨h1, h2⟩ hq => ⟨h1, fun q e => hq _ _ (h2 q e)⟩, fun h _ => h⟩
section
variable {α β δ τ : Type} {C : Cc GH} {X : Cx} {ρ : En} {ss : List Stmt} {out : α → En} {outL : τ → En} {rk : δ → R} {kn : α → M GH β} {kr : δ → M GH β} {kb kc : τ → M GH β} {sc : Addr} {ns : List Int}
theorem cs_give {x : Addr → M GH β} (i : Nat) {xs : List D} (hi : ρ[i]? = some (some (.own (.lst xs)))) (h : ∀ q, CS C X (ρ.set i (some (.obj q))) ss out outL rk (x q) kn kr kb kc) (hS : C.S = SR X.K sc ns := by rfl) :
    CS C X ρ ss out outL rk (bnd (giveM xs) x) kn kr kb kc := fun Qf =>
  PSs.imp (PSs.ex fun q => h q Qf) fun E σ H ⟨G, J, g, st, w, f⟩ => by
    obtain ⟨p, h1, h2, h3, h4, vs, h5, h6⟩ := st.env.own i _ hi
    obtain ⟨hf, w2⟩ := w
    have si := st.si
    rw [hS] at si
    obtain ⟨vis, si2, gp⟩ := reg_add (c := .lst xs) st.aft.vis si h3 h4 ⟨vs, h5, h6, hf⟩ (by rw [h5]; exact Option.some_ne_none _)
    refine ⟨p, G, fun a => a = p ∨ J a, gset g p (.lst xs), ⟨?_, ⟨st.aft.gg, st.aft.hh, st.aft.dm, st.aft.gn, fun a j => ?_, vis⟩, by rw [hS]; exact si2⟩, w2 p gp, f⟩
    · have hl : i < ρ.length := (List.getElem?_eq_some_iff.mp hi).1
      have old : ∀ {j : Nat} {y : Ent}, i ≠ j → (ρ.set i (some (.obj p)))[j]? = some (some y) → ρ[j]? = some (some y) := fun {j y} n q => by
        rw [List.getElem?_set_ne n] at q; exact q
      have at_i : (ρ.set i (some (.obj p)))[i]? = some (some (.obj p)) := by
        rw [List.getElem?_set, if_pos rfl, if_pos hl]
      refine ⟨fun j d hj => ?_, fun j a hj => ?_, fun j c hj => ?_, fun j k c c' r hjk q1 q2 => ?_, by rw [List.length_set]; exact st.env.len, set_nb st.env.nb (fun z => by cases z), st.env.kid.keep (Sub.refl _) (fun j xss hj => ?_) (fun j c hj => ?_) (fun _ _ _ _ h => h) fun j q hq h0 hg hj _ => ⟨h0, hg, fun z => z.elim (fun z => st.env.kid.s1 j i _ q hq hi (by rw [z]; exact h1)) hj⟩⟩
      · by_cases q : i = j
        · subst q; rw [at_i] at hj; cases hj
        · exact st.env.val j d (old q hj)
      · by_cases q : i = j
        · subst q; rw [at_i] at hj; cases hj; exact h1
        · exact st.env.obj j a (old q hj)
      · by_cases q : i = j
        · subst q; rw [at_i] at hj; cases hj
        · obtain ⟨r, e1, e2, e3, e4, e5⟩ := st.env.own j c (old q hj)
          refine ⟨r, e1, e2, e3, fun z => z.elim (fun z => ?_) e4, e5⟩
          subst z
          exact st.env.sep i j _ _ _ q hi (old q hj) h1 e1
      · by_cases z1 : i = j
        · subst z1; rw [at_i] at q1; cases q1
        · by_cases z2 : i = k
          · subst z2; rw [at_i] at q2; cases q2
          · exact st.env.sep j k c c' r hjk (old z1 q1) (old z2 q2)
      · by_cases q : i = j
        · subst q; rw [at_i] at hj; cases hj
        · exact ⟨old q hj, rfl⟩
      · by_cases q : i = j
        · subst q; rw [at_i] at hj; cases hj
        · exact .inl ⟨c, old q hj, rfl⟩
    · rcases j with rfl | j
      · exact .inr h2
      · exact st.aft.jn a j
end
/-! ### the defs and the constants -/
theorem dfd_mk {K : PySem.W.Frag} {h : Heap} {mg : Str → Option Value} (X : K.In h) (G : h.Ns mainGlobals mg) {x qual : Str} {st : Stmt} {ps : List Str} {f : Addr} {od an : Option Addr} {sl : Array (Option Value)} {oc kV dc pm cd ct : Value}
    (a : PySem.W.nsIn K mainGlobals x = some (some (.ref f))) (l : K.lookup f = some ⟨oc, od, .func (PySem.W.fnOf x qual (defArgs st) (defBody st) (defScope st) .none kV dc pm an cd ct), sl⟩) (c : PySem.W.codeIn K cd qual = true) (k : PySem.W.keepIn K (.ref f) = true)
    (b : ∀ (kV doc pm : Value) (an : Option Addr) (cdv ct : Value) (us : List Value), us.length = ps.length → bindArgs (PySem.W.fnOf x qual (defArgs st) (defBody st) (defScope st) .none kV doc pm an cdv ct) ⟨us, []⟩ = pure (ps.zip us)) : Dfd K mg x qual st ps :=
  ⟨f, _, PySem.W.mg_of X G a, fun_mk l c k, fun us hl => b _ _ _ _ _ _ us hl⟩
def kScal : Value → Option D
  | .none => some .none
  | .bool b => some (.bool b)
  | .int i _ => some (.int i)
  | .str x _ => some (.str x)
  | _ => none
def kList (f : Value → Option D) : List Value → Option (List D)
  | [] => some []
  | u :: us => match f u, kList f us with
    | some d, some ds => some (d :: ds)
    | _, _ => none
def kTup (f : Value → Option D) : Option Obj → Option D
  | some ⟨.type c, none, .seq its _, _⟩ => if c = "tuple" ∧ its.size ≤ sizeLine then (kList f its.toList).map PyData.tuple else none
  | _ => none
def kData (K : PySem.W.Frag) : Nat → Value → Option D
  | 0, u => kScal u
  | n + 1, u => match u with
    | .ref a => kTup (kData K n) (K.lookup a)
    | u => kScal u
theorem kScal_rp {K : PySem.W.Frag} {u : Value} {d : D} (h : kScal u = some d) : ∃ v, RelV v u ∧ ∀ G, Rp K G v d := by
  unfold kScal at h
  split at h
  · cases h; exact ⟨.non, rfl, fun _ => .non⟩
  · cases h; exact ⟨.bl _, rfl, fun _ => .bl _⟩
  · cases h; exact ⟨.int _, ⟨_, rfl⟩, fun _ => .int _⟩
  · cases h; exact ⟨.str _, ⟨_, rfl⟩, fun _ => .str _⟩
  · cases h
theorem kList_rp {K : PySem.W.Frag} {f : Value → Option D} (hf : ∀ u d, f u = some d → ∃ v, RelV v u ∧ ∀ G, Rp K G v d) : ∀ (us : List Value) (ds : List D), kList f us = some ds → ∃ vs, Vals vs us ∧ ∀ G, RpL K G vs ds
  | [], ds, h => by cases h; exact ⟨[], .nil, fun _ => .nil⟩
  | u :: us, ds, h => by
    unfold kList at h
    cases q : f u with
    | none => simp [q] at h
    | some d =>
      cases q2 : kList f us with
      | none => simp [q, q2] at h
      | some es =>
        simp [q, q2] at h
        subst h
        obtain ⟨v, r1, r2⟩ := hf u d q
        obtain ⟨vs, r3, r4⟩ := kList_rp hf us es q2
        exact ⟨v :: vs, .cons r1 r3, fun G => .cons (r2 G) (r4 G)⟩
theorem kData_rp {K : PySem.W.Frag} : ∀ (n : Nat) (u : Value) (d : D), kData K n u = some d → ∃ v, RelV v u ∧ ∀ G, Rp K G v d
  | 0, u, d, h => kScal_rp h
  | n + 1, u, d, h => by
    unfold kData at h
    split at h
    · rename_i a
      unfold kTup at h
      split at h
      · rename_i c its nn sl e
        split at h
        · rename_i hc
          obtain ⟨rfl, hz⟩ := hc
          cases q : kList (kData K n) its.toList with
          | none => rw [q] at h; cases h
          | some ds =>
            rw [q] at h
            cases h
            obtain ⟨vs, r, rp⟩ := kList_rp (kData_rp n) its.toList ds q
            exact ⟨.ref a, rfl, fun G => .tup (.inr ⟨_, its, nn, e, rfl, rfl, rfl, hz, r⟩) (rp G)⟩
        · cases h
      · cases h
    · exact kScal_rp h
theorem glo_mk {K : PySem.W.Frag} {h : Heap} {mg : Str → Option Value} (X : K.In h) (G : h.Ns mainGlobals mg) {x : Str} {u : Value} {d : D} (a : PySem.W.nsIn K mainGlobals x = some (some u)) (n : Nat) (e : kData K n u = some d) : Glo K mg x d := by
  obtain ⟨v, r, rp⟩ := kData_rp n u d e
  exact ⟨u, v, PySem.W.mg_of X G a, r, rp⟩
end Cl

set_option Elab.async false
set_option linter.all false
set_option autoImplicit false
set_option maxRecDepth 100000
set_option maxHeartbeats 4000000
/-! the clean layer, part Q: reckoning with mirrors -/
namespace Cl
open PySem PySem.Spec PyProof.Rows L2
open MO

/-- side by side -/
inductive All2 {α β : Type} (S : α → β → Prop) : List α → List β → Prop
  | nil : All2 S [] []
  | cons {a : α} {b : β} {as : List α} {bs : List β} : S a b → All2 S as bs → All2 S (a :: as) (b :: bs)
section
variable {γ α β δ τ : Type} {g : γ} {Q : β → γ → Prop} {E : Xc → γ → Prop}
theorem w_need {o : Option α} {a : α} {k : α → M γ β} (e : o = some a) (h : (k a).wp g Q E) : (bnd (need o : M γ α) k).wp g Q E := by
  subst e; exact h
theorem w_lift {p : P α} {a : α} {k : α → M γ β} (e : p = .ok a) (h : (k a).wp g Q E) : (bnd (lift p : M γ α) k).wp g Q E := by
  subst e; exact h
theorem w_pur {a : β} (h : Q a g) : (pur a : M γ β).wp g Q E := h
theorem w_bnd {x : M γ α} {k : α → M γ β} (h : x.wp g (fun a g' => (k a).wp g' Q E) E) : (bnd x k).wp g Q E := h
theorem w_nox {x : M γ α} {k : α → M γ β} (h : x.wp g (fun a g' => (k a).wp g' Q E) (fun _ _ => False)) : (bnd (nox x) k).wp g Q E := h
theorem w_call {sig : Sig} {f : Ar sig → M γ α} {rs : List R} {a : Ar sig} {k : α → M γ β} (e : unpack sig rs = some a) (h : (f a).wp g (fun a g' => (k a).wp g' Q E) (fun _ _ => False)) : (bnd (nox (callM sig f rs)) k).wp g Q E := by
  unfold callM
  rw [e]
  exact h
theorem w_callP {sig : Sig} {f : Ar sig → P α} {rs : List R} {a : Ar sig} {b : α} {k : α → M γ β} (e : unpack sig rs = some a) (h1 : f a = .ok b) (h : (k b).wp g Q E) : (bnd (lift (callM sig f rs) : M γ α) k).wp g Q E := by
  unfold callM
  rw [e]
  dsimp only
  rw [h1]
  exact h
theorem w_ite {c : Prop} [Decidable c] {x y : M γ β} (h1 : c → x.wp g Q E) (h2 : ¬ c → y.wp g Q E) : (if c then x else y).wp g Q E := by
  by_cases h : c
  · rw [if_pos h]; exact h1 h
  · rw [if_neg h]; exact h2 h
theorem w_mono {x : M γ β} {Q' : β → γ → Prop} (h : x.wp g Q' E) (hq : ∀ a g, Q' a g → Q a g) : x.wp g Q E := x.mono h hq
/-- a loop by what holds at each turn -/
theorem w_forP (I : τ → γ → Prop) {f : D → τ → M γ τ} {E : Xc → γ → Prop} : ∀ {ds : List D} {t : τ} {g : γ}, (∀ d ∈ ds, ∀ t g, I t g → (f d t).wp g I E) → I t g → (forP ds t f : M γ τ).wp g I E
  | [], t, g, _, h => h
  | d :: ds, t, g, hs, h => (f d t).mono (hs d List.mem_cons_self t g h) fun t' g' h' => w_forP I (fun d hd => hs d (List.mem_cons_of_mem _ hd)) h'
theorem w_forL (I : τ → γ → Prop) (B : τ → γ → Prop) (Rr : δ → γ → Prop) {f : D → τ → M γ (Lp δ τ)} {E : Xc → γ → Prop} : ∀ {ds : List D} {t : τ} {g : γ},
    (∀ d ∈ ds, ∀ t g, I t g → (f d t).wp g (fun r g' => match r with | .nx t => I t g' | .bk t => B t g' | .rt r => Rr r g') E) → I t g →
    (forL ds t f : M γ (Lp δ τ)).wp g (fun r g' => match r with | .nx t => I t g' | .bk t => B t g' | .rt r => Rr r g') E
  | [], t, g, _, h => h
  | d :: ds, t, g, hs, h => (f d t).mono (hs d List.mem_cons_self t g h) fun r g' h' => by
    cases r with
    | nx t' => exact w_forL I B Rr (fun d hd => hs d (List.mem_cons_of_mem _ hd)) h'
    | bk t' => exact h'
    | rt r => exact h'
/-- a comprehension in which each item yields one -/
theorem w_compL (I : γ → Prop) (S : D → D → Prop) {f : D → M γ (Option D)} {E : Xc → γ → Prop} : ∀ {ds acc : List D} {g : γ},
    (∀ d ∈ ds, ∀ g, I g → (f d).wp g (fun o g' => ∃ e, o = some e ∧ S d e ∧ I g') E) → acc.length + ds.length ≤ sizeLine → I g →
    (compL ds acc f : M γ (List D)).wp g (fun xs g' => I g' ∧ ∃ es, xs = acc ++ es ∧ All2 S ds es) E
  | [], acc, g, _, _, h => ⟨h, [], (List.append_nil _).symm, .nil⟩
  | d :: ds, acc, g, hs, hl, h => (f d).mono (hs d List.mem_cons_self g h) fun o g' h' => by
    obtain ⟨e, rfl, h1, h2⟩ := h'
    rw [List.length_cons] at hl
    dsimp only
    refine w_need (a := acc ++ [e]) (by unfold appF; rw [if_pos (by omega)]) ?_
    refine M.mono _ (w_compL I S (ds := ds) (acc := acc ++ [e]) (fun d hd => hs d (List.mem_cons_of_mem _ hd)) (by rw [List.length_append, List.length_singleton]; omega) h2) fun xs g2 h3 => ?_
    obtain ⟨h4, es, e1, e2⟩ := h3
    exact ⟨h4, e :: es, by rw [e1, List.append_assoc]; rfl, .cons h1 e2⟩
/-- a comprehension with a test -/
theorem w_compF (I : γ → Prop) (S : D → Prop) {f : D → M γ (Option D)} {E : Xc → γ → Prop} : ∀ {ds acc : List D} {g : γ},
    (∀ d ∈ ds, ∀ g, I g → (f d).wp g (fun o g' => (∀ e, o = some e → S e) ∧ I g') E) → acc.length + ds.length ≤ sizeLine → (∀ d ∈ acc, S d) → I g →
    (compL ds acc f : M γ (List D)).wp g (fun xs g' => I g' ∧ (∀ d ∈ xs, S d) ∧ xs.length ≤ acc.length + ds.length) E
  | [], acc, g, _, _, ha, h => ⟨h, ha, Nat.le_refl _⟩
  | d :: ds, acc, g, hs, hl, ha, h => (f d).mono (hs d List.mem_cons_self g h) fun o g' h' => by
    rw [List.length_cons] at hl
    cases o with
    | none =>
      refine M.mono _ (w_compF I S (ds := ds) (acc := acc) (fun d hd => hs d (List.mem_cons_of_mem _ hd)) (by omega) ha h'.2) fun xs g2 h3 => ?_
      exact ⟨h3.1, h3.2.1, by rw [List.length_cons]; omega⟩
    | some e =>
      dsimp only
      refine w_need (a := acc ++ [e]) (by unfold appF; rw [if_pos (by omega)]) ?_
      refine M.mono _ (w_compF I S (ds := ds) (acc := acc ++ [e]) (fun d hd => hs d (List.mem_cons_of_mem _ hd)) (by rw [List.length_append, List.length_singleton]; omega) (fun d hd => ?_) h'.2) fun xs g2 h3 => ?_
      · rcases List.mem_append.mp hd with q | q
        · exact ha d q
        · rw [List.mem_singleton.mp q]; exact h'.1 e rfl
      · exact ⟨h3.1, h3.2.1, by rw [List.length_append, List.length_singleton] at h3; rw [List.length_cons]; omega⟩
end
/-! ### the region -/
section
variable {α β : Type} {g : GH} {Q : β → GH → Prop} {E : Xc → GH → Prop}
theorem w_rd {a : Addr} {f : List D → Option α} {ds : List D} {x : α} {k : α → M GH β} (h1 : g a = some (.lst ds)) (h2 : f ds = some x) (h : (k x).wp g Q E) : (bnd (rdM a f) k).wp g Q E := ⟨ds, x, h1, h2, h⟩
theorem w_mt {a : Addr} {f : List D → Option (α × List D)} {ds ds' : List D} {x : α} {k : α → M GH β} (h1 : g a = some (.lst ds)) (h2 : f ds = some (x, ds')) (h3 : flatL ds' = true) (h : (k x).wp (gset g a (.lst ds')) Q E) : (bnd (mtM a f) k).wp g Q E := ⟨ds, x, ds', h1, h2, h3, h⟩
theorem w_fldD {a : Addr} {kk : Key} {kvs : List (Key × RV)} {d : D} {k : D → M GH β} (h1 : g a = some (.dct kvs)) (h2 : getK kvs kk = some (.d d)) (h : (k d).wp g Q E) : (bnd (fldD a kk) k).wp g Q E := ⟨kvs, d, h1, h2, h⟩
theorem w_fldO {a : Addr} {kk : Key} {kvs : List (Key × RV)} {d : Addr} {k : Addr → M GH β} (h1 : g a = some (.dct kvs)) (h2 : getK kvs kk = some (.r d)) (h : (k d).wp g Q E) : (bnd (fldO a kk) k).wp g Q E := ⟨kvs, d, h1, h2, h⟩
theorem w_put {a : Addr} {kk : Key} {kvs : List (Key × RV)} {d : D} {k : Unit → M GH β} (h1 : g a = some (.dct kvs)) (h2 : kvs.length < sizeLine) (h3 : flat d = true) (h : (k ()).wp (gset g a (.dct (putR kvs kk (.d d)))) Q E) : (bnd (putM a kk d) k).wp g Q E := ⟨kvs, h1, h2, h3, h⟩
theorem w_isL {a : Addr} {ds : List D} {k : Unit → M GH β} (h1 : g a = some (.lst ds)) (h : (k ()).wp g Q E) : (bnd (isL a) k).wp g Q E := ⟨ds, (), h1, rfl, h⟩
theorem w_give {xs : List D} {k : Addr → M GH β} (h1 : flatL xs = true) (h : ∀ q, g q = none → (k q).wp (gset g q (.lst xs)) Q E) : (bnd (giveM xs) k).wp g Q E := ⟨h1, h⟩
theorem w_sc {sc : Addr} {ns : List Int} {k : List D → M GH β} (h : (k (ns.map PyData.int)).wp g Q E) : (bnd (scM sc ns sc) k).wp g Q E := ⟨rfl, h⟩
theorem w_nw {es : List (Key × R)} {k : Addr → M GH β} (h1 : (es.map fun e : Key × R => e.1).Nodup) (h2 : es.length ≤ 15) (h : allocs es g fun kvs g' => ∀ p, g' p = none → (k p).wp (gset g' p (.dct kvs)) Q E) : (bnd (nwM es) k).wp g Q E := ⟨h1, h2, h⟩
end
/-! ### whole numbers -/
theorem mulF_i {a b : Int} (h : CMul a b) : mulF (.int a) (.int b) = some (.int (a * b)) := by
  show (if CMul a b then some (PyData.int (a * b)) else none) = _
  rw [if_pos h]
theorem mulF_r {a b : Int} (h1 : -(2 ^ 64) < b) (h2 : b < 2 ^ 64) : mulF (.int a) (.int b) = some (.int (a * b)) := mulF_i (.inr ⟨h1, h2⟩)
theorem mulF_l {a b : Int} (h1 : -(2 ^ 64) < a) (h2 : a < 2 ^ 64) : mulF (.int a) (.int b) = some (.int (a * b)) := mulF_i (.inl ⟨h1, h2⟩)
theorem addF_i {a b : Int} : addF (.int a) (.int b) = some (.int (a + b)) := rfl
theorem subF_i {a b : Int} : subF (.int a) (.int b) = some (.int (a - b)) := rfl
theorem modF_i {a b : Int} (h : 0 < b) : modF (.int a) (.int b) = some (.int (a % b)) := by
  show (if 0 < b then some (PyData.int (a % b)) else none) = _
  rw [if_pos h]
theorem fdivF_i {a b : Int} (h : CDiv a b) : fdivF (.int a) (.int b) = some (.int (a / b)) := by
  show (if CDiv a b then some (PyData.int (a / b)) else none) = _
  rw [if_pos h]
theorem intF_i {a : Int} : intF [.int a] = some a := rfl
theorem flatL_ints (ns : List Int) : flatL (ns.map PyData.int) = true := by
  induction ns with
  | nil => rfl
  | cons n ns ih => rw [List.map_cons, flatL, ih]; rfl
theorem lay_ints (ns : List Int) : PyData.canLayAll0 (ns.map PyData.int) = true := by
  induction ns with
  | nil => rfl
  | cons n ns ih => rw [List.map_cons, PyData.canLayAll0, ih]; rfl
theorem depth_ints (ns : List Int) : PyData.depthAll (ns.map PyData.int) ≤ 1 := by
  induction ns with
  | nil => decide
  | cons n ns ih =>
    rw [List.map_cons, PyData.depthAll]
    have : PyData.depth (.int n) ≤ 1 := by simp [PyData.depth]
    omega
theorem shaped_ints (ns : List Int) : SeqAt.shaped (.list (ns.map PyData.int)) = true := by
  unfold SeqAt.shaped
  rw [Bool.and_eq_true]
  refine ⟨by simpa [PyData.canLay0] using lay_ints ns, decide_eq_true ?_⟩
  have := depth_ints ns
  simp only [PyData.depth]
  omega
theorem neNil_ints (ns : List Int) : neNilF (ns.map PyData.int) = some (!ns.isEmpty) := by
  unfold neNilF
  rw [if_pos (shaped_ints ns)]
  cases ns <;> rfl
end Cl

set_option Elab.async false
set_option linter.all false
set_option autoImplicit false
set_option maxRecDepth 100000
set_option maxHeartbeats 400000
/-! the clean layer, part R: reckoning with plain mirrors; what can be shown -/
namespace Cl
open PySem PySem.Spec PyProof.Rows L2
open MO
section
variable {γ α β δ τ : Type} {E : Xc → γ → Prop}
theorem w_forPn (I : Nat → τ → γ → Prop) {f : D → τ → M γ τ} : ∀ {ds : List D} {t : τ} {g : γ}, (∀ d ∈ ds, ∀ n t g, I (n + 1) t g → (f d t).wp g (I n) E) → I ds.length t g → (forP ds t f : M γ τ).wp g (I 0) E
  | [], t, g, _, h => h
  | d :: ds, t, g, hs, h => (f d t).mono (hs d List.mem_cons_self ds.length t g h) fun t' g' h' => w_forPn I (fun d hd => hs d (List.mem_cons_of_mem _ hd)) h'
theorem w_forLn (I : Nat → τ → γ → Prop) (B : τ → γ → Prop) (Rr : δ → γ → Prop) {f : D → τ → M γ (Lp δ τ)} : ∀ {ds : List D} {t : τ} {g : γ},
    (∀ d ∈ ds, ∀ n t g, I (n + 1) t g → (f d t).wp g (fun r g' => match r with | .nx t => I n t g' | .bk t => B t g' | .rt r => Rr r g') E) → I ds.length t g →
    (forL ds t f : M γ (Lp δ τ)).wp g (fun r g' => match r with | .nx t => I 0 t g' | .bk t => B t g' | .rt r => Rr r g') E
  | [], t, g, _, h => h
  | d :: ds, t, g, hs, h => (f d t).mono (hs d List.mem_cons_self ds.length t g h) fun r g' h' => by
    cases r with
    | nx t' => exact w_forLn I B Rr (fun d hd => hs d (List.mem_cons_of_mem _ hd)) h'
    | bk t' => exact h'
    | rt r => exact h'
theorem w_compLn (I : Nat → γ → Prop) (S : D → D → Prop) {f : D → M γ (Option D)} : ∀ {ds acc : List D} {g : γ},
    (∀ d ∈ ds, ∀ n g, I (n + 1) g → (f d).wp g (fun o g' => ∃ e, o = some e ∧ S d e ∧ I n g') E) → acc.length + ds.length ≤ sizeLine → I ds.length g →
    (compL ds acc f : M γ (List D)).wp g (fun xs g' => I 0 g' ∧ ∃ es, xs = acc ++ es ∧ All2 S ds es) E
  | [], acc, g, _, _, h => ⟨h, [], (List.append_nil _).symm, .nil⟩
  | d :: ds, acc, g, hs, hl, h => (f d).mono (hs d List.mem_cons_self ds.length g h) fun o g' h' => by
    obtain ⟨e, rfl, h1, h2⟩ := h'
    rw [List.length_cons] at hl
    dsimp only
    refine w_need (a := acc ++ [e]) (by unfold appF; rw [if_pos (by omega)]) ?_
    refine M.mono _ (w_compLn I S (ds := ds) (acc := acc ++ [e]) (fun d hd => hs d (List.mem_cons_of_mem _ hd)) (by rw [List.length_append, List.length_singleton]; omega) h2) fun xs g2 h3 => ?_
    obtain ⟨h4, es, e1, e2⟩ := h3
    exact ⟨h4, e :: es, by rw [e1, List.append_assoc]; rfl, .cons h1 e2⟩
end
/-! ### what can be shown -/
structure Rep (k n : Nat) (d : D) : Prop where
  sh : d.showable = true
  ly : d.canLay0 = true
  dp : d.depth ≤ k
  ln : d.shown.length ≤ n
theorem Rep.mono {k n k2 n2 : Nat} {d : D} (h : Rep k n d) (h1 : k ≤ k2) (h2 : n ≤ n2) : Rep k2 n2 d := ⟨h.sh, h.ly, Nat.le_trans h.dp h1, Nat.le_trans h.ln h2⟩
theorem Rep.all {k n : Nat} : ∀ {ds : List D}, (∀ d ∈ ds, Rep k n d) → PyData.showableAll ds = true ∧ PyData.canLayAll0 ds = true ∧ PyData.depthAll ds ≤ k ∧ ((PyData.shownAll ds).map (·.length)).sum ≤ ds.length * n ∧ (PyData.shownAll ds).length = ds.length
  | [], _ => ⟨rfl, rfl, Nat.zero_le _, Nat.zero_le _, rfl⟩
  | d :: ds, h => by
    have h1 := h d List.mem_cons_self
    obtain ⟨a, b, c, e, f⟩ := Rep.all fun x hx => h x (List.mem_cons_of_mem _ hx)
    refine ⟨?_, ?_, ?_, ?_, ?_⟩
    · rw [PyData.showableAll, h1.sh, a]; rfl
    · rw [PyData.canLayAll0, h1.ly, b]; rfl
    · rw [PyData.depthAll]; have := h1.dp; omega
    · rw [PyData.shownAll, List.map_cons, List.sum_cons, List.length_cons, Nat.succ_mul]; have := h1.ln; omega
    · rw [PyData.shownAll, List.length_cons, List.length_cons, f]
theorem Rep.tup {k n : Nat} {ds : List D} (h : ∀ d ∈ ds, Rep k n d) : Rep (k + 1) (ds.length * (n + 2) + 3) (.tuple ds) := by
  obtain ⟨a, b, c, e, f⟩ := Rep.all h
  have z := tupleText_len_le (PyData.shownAll ds)
  refine ⟨by rw [PyData.showable]; exact a, by rw [PyData.canLay0]; exact b, by rw [PyData.depth]; omega, ?_⟩
  rw [PyData.shown, Nat.mul_add]
  omega
theorem Rep.lst {k n : Nat} {ds : List D} (h : ∀ d ∈ ds, Rep k n d) : Rep (k + 1) (ds.length * (n + 2) + 3) (.list ds) := by
  obtain ⟨a, b, c, e, f⟩ := Rep.all h
  have z := listText_len_le (PyData.shownAll ds)
  refine ⟨by rw [PyData.showable]; exact a, by rw [PyData.canLay0]; exact b, by rw [PyData.depth]; omega, ?_⟩
  rw [PyData.shown, Nat.mul_add]
  omega
theorem Rep.int {i : Int} (h : i.natAbs < 1000000000000) : Rep 0 13 (.int i) := by
  refine ⟨?_, by rw [PyData.canLay0], by rw [PyData.depth]; exact Nat.le_refl _, PyData.shown_int_le h⟩
  rw [PyData.showable]
  refine decide_eq_true ?_
  by_cases z : i.natAbs = 0
  · rw [z]; decide
  · have : i.natAbs < 2 ^ 1920 := Nat.lt_of_lt_of_le h (Nat.le_trans (show 1000000000000 ≤ 2 ^ 40 by decide) (Nat.pow_le_pow_right (by decide) (by decide)))
    exact (Nat.log2_lt z).mpr this
theorem Rep.bool {b : Bool} : Rep 0 5 (.bool b) := by cases b <;> exact ⟨rfl, rfl, Nat.le_refl _, by decide +kernel⟩
theorem Rep.none : Rep 0 4 .none := ⟨rfl, rfl, Nat.le_refl _, by decide +kernel⟩
/-- a text of which is reckoned what it needs -/
def wordy (n : Nat) (x : Str) : Bool := PyData.strOk x && decide ((reprText x).length ≤ n)
theorem Rep.str {n : Nat} {x : Str} (h : wordy n x = true) : Rep 0 n (.str x) := by
  unfold wordy at h
  rw [Bool.and_eq_true] at h
  exact ⟨rfl, by rw [PyData.canLay0]; exact h.1, by rw [PyData.depth]; exact Nat.le_refl _, by rw [PyData.shown]; exact of_decide_eq_true h.2⟩
theorem Rep.ok {k n : Nat} {d : D} (h : Rep k n d) (h1 : k ≤ 64) (h2 : n ≤ 16000000) : reprF [d] = some d.shown := by
  have big := sizeLine_eq
  show (if (d.showable && d.canLay0 && decide (d.depth ≤ 64) && decide (d.shown.length ≤ sizeLine)) = true then some d.shown else Option.none) = _
  have a := h.dp
  have b := h.ln
  rw [h.sh, h.ly, decide_eq_true (show d.depth ≤ 64 by omega), decide_eq_true (show d.shown.length ≤ sizeLine by omega)]
  rfl
theorem Rep.shaped {k n : Nat} {d : D} (h : Rep k n d) (h1 : k ≤ 64) : SeqAt.shaped d = true := by
  unfold SeqAt.shaped
  have a := h.dp
  rw [h.ly, decide_eq_true (show d.depth ≤ 64 by omega)]
  rfl
end Cl

set_option Elab.async false
set_option linter.all false
set_option autoImplicit false
set_option maxRecDepth 100000
set_option maxHeartbeats 400000
/-! the clean layer, part S: plain steps; a tuple with a list of one's own stored; dicts of the module -/
namespace Cl
open PySem PySem.Spec PyProof.Rows L2
open MO
section
variable {α β : Type}
theorem p_need {o : Option α} {a : α} {k : α → P β} {r : β} (e : o = some a) (h : k a = .ok r) : bnd (need o : P α) k = .ok r := by subst e; exact h
theorem p_bnd {x : P α} {a : α} {k : α → P β} {r : β} (e : x = .ok a) (h : k a = .ok r) : bnd x k = .ok r := by subst e; exact h
theorem p_lift {x : P α} {a : α} {k : α → P β} {r : β} (e : x = .ok a) (h : k a = .ok r) : bnd (lift x : P α) k = .ok r := by subst e; exact h
theorem p_nox {x : P α} {a : α} {k : α → P β} {r : β} (e : x = .ok a) (h : k a = .ok r) : bnd (nox x) k = .ok r := by subst e; exact h
theorem p_ite {c : Bool} {x y : P β} {r : β} (h1 : c = true → x = .ok r) (h2 : c = false → y = .ok r) : (if c = true then x else y) = .ok r := by
  cases c with
  | true => rw [if_pos rfl]; exact h1 rfl
  | false => rw [if_neg Bool.false_ne_true]; exact h2 rfl
theorem p_callP {sig : Sig} {f : Ar sig → P α} {rs : List R} {a : Ar sig} {b : α} {k : α → P β} {r : β} (e : unpack sig rs = some a) (h1 : f a = .ok b) (h : k b = .ok r) : bnd (lift (callM sig f rs) : P α) k = .ok r := by
  unfold callM
  rw [e]
  dsimp only
  rw [h1]
  exact h
/-- a comprehension, item by item -/
theorem p_comp {f : D → P (Option D)} : ∀ {ds : List D} {es : List (Option D)} {acc : List D}, All2 (fun d e => f d = .ok e) ds es → acc.length + ds.length ≤ sizeLine → (compL ds acc f : P (List D)) = .ok (acc ++ es.filterMap id)
  | _, _, acc, .nil, _ => by show P.ok acc = .ok (acc ++ []); rw [List.append_nil]
  | d :: ds, e :: es, acc, .cons h t, hl => by
    rw [List.length_cons] at hl
    refine p_bnd h ?_
    cases e with
    | none => exact (p_comp (acc := acc) t (by omega) : _ = P.ok (acc ++ es.filterMap id))
    | some e =>
      refine p_need (a := acc ++ [e]) (by unfold appF; rw [if_pos (by omega)]) ?_
      rw [p_comp (acc := acc ++ [e]) t (by rw [List.length_append, List.length_singleton]; omega), List.append_assoc]
      rfl
theorem p_forS {τ : Type} {f : D → τ → P τ} {d : D} {ds : List D} {t t' r : τ} (e : f d t = .ok t') (h : (forP ds t' f : P τ) = .ok r) : (forP (d :: ds) t f : P τ) = .ok r := p_bnd e h
end
theorem eqStr {s t : Str} (h : s = t) : eqF (.str s) (.str t) = some true := by subst h; show some (decide (s = s)) = _; rw [decide_eq_true rfl]
theorem neStr {s t : Str} (h : s = t) : neF (.str s) (.str t) = some false := by subst h; show some (!decide (s = s)) = _; rw [decide_eq_true rfl]; rfl
theorem repr_c {d : D} (h : reprOk d = true) : reprF [d] = some d.shown := if_pos h

section
variable {γ : Type} {m : Type → Type} [PM γ m] {α α2 β δ τ ω : Type} {C : Cc γ} {X : Cx} {ρ : En} {rest : List Stmt} {out : ω → En} {outL : τ → En} {rk : δ → R} {x : m β} {kn : ω → m β} {kr : δ → m β} {kb kc : τ → m β}
/-- name, target = a list of one's own, a value -/
theorem cs_asgL2 {i : Nat} {n1 : Str} {t2 e1 e2 : Expr} {p1 pt pt2 pos : Pos} {kt k2} {un : D → Option α} {outT : List D → α → En} {sl : List Nat} {x2 : List D → m β} {xr : List D → α → m β}
    (hr : ∀ xs a, CS C X (outT xs a) rest out outL rk (xr xs a) kn kr kb kc) (hg : ∀ xs, CG C X (ρ.set i (some (.own (.lst xs)))) t2 un (outT xs) sl)
    (hb : ∀ xs, CE C X ρ e2 dv (x2 xs) (fun d => bnd (need (un d)) (xr xs))) (ha : CE C X ρ e1 lv x x2) (hp : PG X (.Name n1 p1) (gName i))
    (hc : X.calm = true := by rfl)
    (hs1 : starEach [e1, e2] X.env = (false, eval e1 X.env) :: starEach [e2] X.env := by rfl) (hs2 : starEach [e2] X.env = (false, eval e2 X.env) :: starEach [] X.env := by rfl)
    (hg1 : (assignEach [.Name n1 p1, t2] X.env).map (·.2) = assign (.Name n1 p1) X.env :: (assignEach [t2] X.env).map (·.2) := by rfl) (hg2 : (assignEach [t2] X.env).map (·.2) = assign t2 X.env :: (assignEach [] X.env).map (·.2) := by rfl)
    (hn : (assignEach [.Name n1 p1, t2] X.env).length = 2 := by rfl) (hst : (assignEach [.Name n1 p1, t2] X.env).findIdx? (·.1) = none := by rfl)
    (hs : swapsWithSole [.Tuple [.Name n1 p1, t2] kt pt] (.Tuple [e1, e2] k2 pt2) pos.line X.env = pure false := by rfl)
    (hps : ∀ te g, PE X (.Tuple [e1, e2] k2 pt2) te → PG X (.Tuple [.Name n1 p1, t2] kt pt) g → PS X (.Assign [.Tuple [.Name n1 p1, t2] kt pt] (.Tuple [e1, e2] k2 pt2) pos) (tAsg te g) := by intro te g he hg; exact ps_asg he hg) :
    CS C X ρ (.Assign [.Tuple [.Name n1 p1, t2] kt pt] (.Tuple [e1, e2] k2 pt2) pos :: rest) out outL rk x kn kr kb kc := fun Qf =>
  PSs.imp (pss_cons (hps _ _ (pe_tup (pa_cons (ha Qf) (pa_cons (PE.ex fun xs => hb xs Qf) pa_nil hs2) hs1)) (pg_tup hc (pgs_cons hp (pgs_cons (PG.ex fun xs => hg xs) pgs_nil hg2) hg1) hn hst)) (PSs.ex fun q : List D × α => hr q.1 q.2 Qf)) fun E σ H ⟨G, J, g, st, w, f⟩ =>
    ⟨G, J, g, st, w, fun v1 xs H1 G1 J1 g1 af1 si1 rr1 w1 => ⟨xs, G1, J1, g1, st.go af1 si1, w1, fun v2 d H2 G2 J2 g2 af2 si2 rr2 w2 => by
      obtain ⟨a, ea, w3⟩ := of_need w2
      refine ⟨by have := sizeLine_eq; show 2 ≤ sizeLine; omega, fun p np => ?_⟩
      have n := New.own (o := .tup [v1, v2]) af2.vis.sub np
      have af3 := af2.trans (n.aft af2.vis)
      have si3 := SIx.nw si2 n
      obtain ⟨p0, rfl, hb0, hg0, hj0, hc0⟩ := RR.aft (Hb := H) rr1 af3
      have st3 := st.setL (i := i) (af1.trans af3) si3 hb0 hg0 hj0 hc0
      exact ⟨p, [.ref p0, v2], rfl, .inl (.inl upd_same), rfl, .ref p0, [v2], rfl, v2, [], rfl, xs, G2, J2, d, a, st3.env, st3.vis.sub, rr2, ea, fun σ' e' _ =>
        ⟨rfl, (xs, a), G2, J2, g2, ⟨e', st3.aft, st3.si⟩, w3, f.sub (af1.trans af3).gg⟩⟩⟩⟩
end

/-! ### dicts of the module with text keys -/
def kRow (K : PySem.W.Frag) (e : DictEntry) : Option (Str × D) := match e.key with
  | .str x _ => (kData K 6 e.val).map fun d => (x, d)
  | _ => none
def kRows (K : PySem.W.Frag) : List DictEntry → Option (List (Str × D))
  | [] => some []
  | e :: es => match kRow K e, kRows K es with
    | some a, some b => some (a :: b)
    | _, _ => none
def kDictD (K : PySem.W.Frag) (a : Addr) : Option (List (Str × D)) := match K.lookup a with
  | some ⟨_, _, .dict es _, _⟩ => kRows K es.toList
  | _ => none
def lookS : List (Str × D) → Str → Option D
  | [], _ => none
  | (k, d) :: r, z => if k = z then some d else lookS r z
theorem kRows_find {K : PySem.W.Frag} {z : Str} : ∀ {es : List DictEntry} {kvs : List (Str × D)}, kRows K es = some kvs →
    (∀ d, lookS kvs z = some d → ∃ e, es.find? (·.key.isStr z) = some e ∧ kData K 6 e.val = some d) ∧ (lookS kvs z = none → es.find? (·.key.isStr z) = none) ∧ es.any (·.refKey) = false
  | [], kvs, h => by
    cases h
    exact ⟨fun d q => (by cases q), fun _ => rfl, rfl⟩
  | e :: es, kvs, h => by
    unfold kRows at h
    cases q1 : kRow K e with
    | none => simp [q1] at h
    | some a =>
      cases q2 : kRows K es with
      | none => simp [q1, q2] at h
      | some b =>
        simp [q1, q2] at h
        subst h
        obtain ⟨i1, i2, i3⟩ := kRows_find (z := z) q2
        obtain ⟨eh, ek, ev⟩ := e
        unfold kRow at q1
        dsimp only at q1
        cases ek with
        | str x t =>
          dsimp only at q1
          cases q3 : kData K 6 ev with
          | none => simp [q3] at q1
          | some d =>
            simp [q3] at q1
            subst q1
            have hk : (Value.str x t).isStr z = (x == z) := rfl
            unfold lookS
            refine ⟨fun d' q => ?_, fun q => ?_, ?_⟩
            · split at q
              · rename_i hx
                cases q
                exact ⟨_, List.find?_cons_of_pos (by dsimp only; rw [hk, hx]; exact beq_self_eq_true z), q3⟩
              · rename_i hx
                obtain ⟨e', f1, f2⟩ := i1 d' q
                exact ⟨e', by rw [List.find?_cons_of_neg (by dsimp only; rw [hk]; intro y; exact hx (eq_of_beq y))]; exact f1, f2⟩
            · split at q
              · cases q
              · rename_i hx
                rw [List.find?_cons_of_neg (by dsimp only; rw [hk]; intro y; exact hx (eq_of_beq y))]
                exact i2 q
            · rw [List.any_cons, i3]
              rfl
        | _ => cases q1
def GloD (K : PySem.W.Frag) (w : World) (mg : Str → Option Value) (x : Str) (kvs : List (Str × D)) : Prop := ∃ p es n, mg x = some (.ref p) ∧ KDict K w p es n ∧ kRows K es.toList = some kvs
theorem glod_mk {K : PySem.W.Frag} {w : World} {h : Heap} {mg : Str → Option Value} (X : K.In h) (G : h.Ns mainGlobals mg) {x : Str} {p : Addr} {ks : List Str} {kvs : List (Str × D)} (a : PySem.W.nsIn K mainGlobals x = some (some (.ref p)))
    (h1 : He.dicW K p = some (He.keysIn w.params ks)) (h2 : kDictD K p = some kvs) : GloD K w mg x kvs := by
  obtain ⟨es, n, kd⟩ := He.dicW_ok h1
  refine ⟨p, es, n, PySem.W.mg_of X G a, kd, ?_⟩
  unfold kDictD at h2
  rw [kd.at_] at h2
  exact h2
theorem nsIn_of {K : PySem.W.Frag} {w : World} {p : Addr} {es : Array DictEntry} {n : Nat} (kd : KDict K w p es n) {kvs : List (Str × D)} (h : kRows K es.toList = some kvs) (z : Str) :
    (∀ d, lookS kvs z = some d → ∃ u, PySem.W.nsIn K p z = some (some u) ∧ kData K 6 u = some d) ∧ (lookS kvs z = none → PySem.W.nsIn K p z = some none) := by
  obtain ⟨h1, h2, h3⟩ := kRows_find (z := z) h
  unfold PySem.W.nsIn
  rw [kd.at_]
  dsimp only
  refine ⟨fun d q => ?_, fun q => ?_⟩
  · obtain ⟨e, f1, f2⟩ := h1 d q
    rw [f1]
    exact ⟨_, rfl, f2⟩
  · rw [h2 q, h3]
    rfl
def kgetF (kvs : List (Str × D)) : D → Option D
  | .str z => some ((lookS kvs z).getD .none)
  | _ => none
def kixF (kvs : List (Str × D)) : D → Option D
  | .str z => lookS kvs z
  | _ => none
section
variable {X : Cx} {o e : Expr} {apos cpos : Pos} {te : TE} {p : Addr} {es : Array DictEntry} {n : Nat}
theorem pe_kget (kd : KDict X.K X.w p es n) (ho : PE X o (tC (.ref p))) (he : PE X e te) (m : M1 X o "get" apos e cpos) :
    PE X (.Call (.Attribute o "get" apos) [e] [] cpos) (fun σ H Q => te σ H fun y H2 => ∃ z r, y = .str z ∧ PySem.W.nsIn X.K p z = some r ∧ ∃ v, RelV v (r.getD .none) ∧ Q v H2) := by
  refine ⟨fun pins s σ H Q I h => ?_⟩
  refine wpAny_Call_method m.base m.few m.line PySem.F.plainAttrs_dict PySem.F.slot_dict_get PySem.F.type_dict_get (thn (ho.run pins s σ H (fun v H1 => v = .ref p ∧ te σ H1 fun y H2 => ∃ z r, y = .str z ∧ PySem.W.nsIn X.K p z = some r ∧ ∃ v, RelV v (r.getD .none) ∧ Q v H2) I ⟨rfl, h⟩) fun u s1 ⟨x, H1, I1, rx, ex, q1⟩ => ?_)
  subst ex
  obtain rfl : u = Value.ref p := rx
  have hm := PySem.W.mapOf_K (prog := X.prog) (w := X.w) I1.kIn kd.at_ kd.lit
  refine ⟨hm.typeIs, fun b q => by cases q; exact ⟨_, I1.kIn _ _ kd.at_, rfl⟩, ?_⟩
  rw [m.trees]
  refine Calls.callWith_builtin rfl (Calls.evalArgs_plain (Calls.spliced_cons (thn (he.run pins s1 σ H1 _ I1 q1) fun iv s2 ⟨y, H2, I2, ry, z, r, ey, hr, v, rv, q2⟩ => Calls.spliced_nil ?_)))
  subst ey
  obtain ⟨t, rfl⟩ := (show ∃ t, iv = Value.str z t from ry)
  have hm2 := PySem.W.mapOf_K (prog := X.prog) (w := X.w) I2.kIn kd.at_ kd.lit
  refine call_meetsIn PySem.F.slot_dict_get hm2.typeIs PySem.F.entry_dict_get (PySem.F.args_dict_get_2 _ _) (meets_dict_get (strKind X.prog X.w) p (strKind_is X.prog X.w z t) kd.low) ⟨_, hm2, ?_⟩
  rw [PySem.W.find_K kd.at_ hr]
  exact ⟨v, H2, I2.tok _, rv, q2⟩
end
section
variable {γ : Type} {m : Type → Type} [PM γ m] {β : Type} {C : Cc γ} {X : Cx} {ρ : En}
theorem ce_kget {nm : Str} {e : Expr} {p2 apos pos : Pos} {kvs : List (Str × D)} {x : m β} {k : D → m β} (h : GloD X.K X.w X.mg nm kvs) (he : CE C X ρ e dv x (fun d => bnd (need (kgetF kvs d)) k)) (hg : Gl X nm := by rfl) (hd : (nm == ("__debug__" : Str)) = false := by decide)
    (mm : M1 X (.Name nm p2) "get" apos e pos := by exact ⟨rfl, rfl, rfl, rfl⟩) : CE C X ρ (.Call (.Attribute (.Name nm p2) "get" apos) [e] [] pos) dv x k := fun Qf => by
  obtain ⟨p, es, n, hm, kd, hk⟩ := h
  refine PE.imp (pe_kget kd (pe_glob hg hm rfl hd) (he Qf) mm) fun σ H Q ⟨G, J, g, st, w, q⟩ => ⟨G, J, g, st, w, fun v1 d1 H1 G1 J1 g1 af1 si1 r1 w1 => ?_⟩
  obtain ⟨d, e1, w2⟩ := of_need w1
  cases r1 with
  | str z =>
    obtain ⟨n1, n2⟩ := nsIn_of kd hk z
    have e2 : some ((lookS kvs z).getD .none) = some d := e1
    cases q3 : lookS kvs z with
    | none =>
      rw [q3] at e2
      cases e2
      exact ⟨z, _, rfl, n2 q3, .non, rfl, q _ _ H1 G1 J1 g1 af1 si1 .non w2⟩
    | some d' =>
      rw [q3] at e2
      cases e2
      obtain ⟨u, f1, f2⟩ := n1 _ q3
      obtain ⟨v, r, rp⟩ := kData_rp _ _ _ f2
      exact ⟨z, _, rfl, f1, v, r, q _ _ H1 G1 J1 g1 af1 si1 (rp _) w2⟩
  | _ => cases e1
theorem ce_kix {nm : Str} {e : Expr} {p2 pos : Pos} {kvs : List (Str × D)} {x : m β} {k : D → m β} (h : GloD X.K X.w X.mg nm kvs) (he : CE C X ρ e dv x (fun d => bnd (need (kixF kvs d)) k)) (hg : Gl X nm := by rfl) (hd : (nm == ("__debug__" : Str)) = false := by decide)
    (hs : PlainIx e := by intro _ _; rfl) : CE C X ρ (.Subscript (.Name nm p2) e pos) dv x k := fun Qf => by
  obtain ⟨p, es, n, hm, kd, hk⟩ := h
  refine PE.imp (pe_ix ix_kdict (pe_glob (v := .ref p) hg hm rfl hd) (he Qf) hs) fun σ H Q ⟨G, J, g, st, w, q⟩ => ⟨G, J, g, st, w, fun v1 d1 H1 G1 J1 g1 af1 si1 r1 w1 => ?_⟩
  obtain ⟨d, e1, w2⟩ := of_need w1
  cases r1 with
  | str z =>
    obtain ⟨n1, n2⟩ := nsIn_of kd hk z
    obtain ⟨u, f1, f2⟩ := n1 d e1
    obtain ⟨v, r, rp⟩ := kData_rp _ _ _ f2
    exact ⟨p, z, v, rfl, rfl, ⟨es, n, u, kd.at_, kd.lit, f1, r⟩, q _ _ H1 G1 J1 g1 af1 si1 (rp _) w2⟩
  | _ => cases e1
end
end Cl

set_option Elab.async false
set_option linter.all false
set_option autoImplicit false
set_option maxRecDepth 100000
set_option maxHeartbeats 400000
/-! the clean layer, part T: a target, then a list of one's own; plain stretches of a computation with choices -/
namespace Cl
open PySem PySem.Spec PyProof.Rows L2
open MO
section
variable {γ : Type} {m : Type → Type} [PM γ m] {α α2 β δ τ ω : Type} {C : Cc γ} {X : Cx} {ρ : En} {rest : List Stmt} {out : ω → En} {outL : τ → En} {rk : δ → R} {x : m β} {kn : ω → m β} {kr : δ → m β} {kb kc : τ → m β}
/-- name, name = a value, a list of one's own -/
theorem cs_asgR2 {i j : Nat} {n1 n2 : Str} {e1 e2 : Expr} {p1 p2 pt pt2 pos : Pos} {kt k2} {x2 : D → m β} {xr : D → List D → m β}
    (hr : ∀ d xs, CS C X ((ρ.set i (some (.val d))).set j (some (.own (.lst xs)))) rest out outL rk (xr d xs) kn kr kb kc)
    (hb : ∀ d, CE C X ρ e2 lv (x2 d) (xr d)) (ha : CE C X ρ e1 dv x x2) (hp : PG X (.Name n1 p1) (gName i)) (hp2 : PG X (.Name n2 p2) (gName j))
    (hc : X.calm = true := by rfl)
    (hs1 : starEach [e1, e2] X.env = (false, eval e1 X.env) :: starEach [e2] X.env := by rfl) (hs2 : starEach [e2] X.env = (false, eval e2 X.env) :: starEach [] X.env := by rfl)
    (hg1 : (assignEach [.Name n1 p1, .Name n2 p2] X.env).map (·.2) = assign (.Name n1 p1) X.env :: (assignEach [.Name n2 p2] X.env).map (·.2) := by rfl) (hg2 : (assignEach [.Name n2 p2] X.env).map (·.2) = assign (.Name n2 p2) X.env :: (assignEach [] X.env).map (·.2) := by rfl)
    (hn : (assignEach [.Name n1 p1, .Name n2 p2] X.env).length = 2 := by rfl) (hst : (assignEach [.Name n1 p1, .Name n2 p2] X.env).findIdx? (·.1) = none := by rfl)
    (hps : ∀ te g, PE X (.Tuple [e1, e2] k2 pt2) te → PG X (.Tuple [.Name n1 p1, .Name n2 p2] kt pt) g → PS X (.Assign [.Tuple [.Name n1 p1, .Name n2 p2] kt pt] (.Tuple [e1, e2] k2 pt2) pos) (tAsg te g) := by intro te g he hg; exact ps_asg he hg) :
    CS C X ρ (.Assign [.Tuple [.Name n1 p1, .Name n2 p2] kt pt] (.Tuple [e1, e2] k2 pt2) pos :: rest) out outL rk x kn kr kb kc := fun Qf =>
  PSs.imp (pss_cons (hps _ _ (pe_tup (pa_cons (ha Qf) (pa_cons (PE.ex fun d => hb d Qf) pa_nil hs2) hs1)) (pg_tup hc (pgs_cons hp (pgs_cons hp2 pgs_nil hg2) hg1) hn hst)) (PSs.ex fun q : D × List D => hr q.1 q.2 Qf)) fun E σ H ⟨G, J, g, st, w, f⟩ =>
    ⟨G, J, g, st, w, fun v1 d H1 G1 J1 g1 af1 si1 rr1 w1 => ⟨d, G1, J1, g1, st.go af1 si1, w1, fun v2 xs H2 G2 J2 g2 af2 si2 rr2 w2 => by
      refine ⟨by have := sizeLine_eq; show 2 ≤ sizeLine; omega, fun p np => ?_⟩
      have n := New.own (o := .tup [v1, v2]) af2.vis.sub np
      have af3 := n.aft af2.vis
      have si3 := SIx.nw si2 n
      obtain ⟨p0, rfl, hb0, hg0, hj0, hc0⟩ := RR.aft (Hb := H1) rr2 af3
      have st2 : C.St X.K (ρ.set i (some (.val d))) (σ.set i (some v1)) H1 G1 J1 g1 := ⟨(st.env.aft af1).setV rr1, st.aft.trans af1, si1⟩
      have st3 := st2.setL (i := j) (af2.trans af3) si3 hb0 hg0 hj0 hc0
      exact ⟨p, [v1, .ref p0], rfl, .inl (.inl upd_same), rfl, v1, [.ref p0], rfl, .ref p0, [], rfl, rfl, (d, xs), G2, J2, g2, st3, w2, f.sub ((af1.trans af2).trans af3).gg⟩⟩⟩
end
/-! ### plain stretches -/
section
variable {γ α β τ : Type}
structure Tr (x : M γ α) (p : P α) : Prop where
  run : ∀ (g : γ) (Q : α → γ → Prop) (E : Xc → γ → Prop), wpP p g Q E → x.wp g Q E
theorem tr_pur {a : α} : Tr (pur a : M γ α) (pur a) := ⟨fun _ _ _ h => h⟩
theorem tr_lift {p : P α} : Tr (lift p : M γ α) p := ⟨fun _ _ _ h => h⟩
theorem tr_need {o : Option α} : Tr (need o : M γ α) (need o) := ⟨fun _ _ _ h => h⟩
theorem tr_bnd {x : M γ α} {k : α → M γ β} {p : P α} {q : α → P β} (h : Tr x p) (hk : ∀ a, Tr (k a) (q a)) : Tr (bnd x k) (bnd p q) := ⟨fun g Q E hw => by
  cases p with
  | ok a => exact h.run g _ E ((hk a).run g Q E hw)
  | ex e => exact h.run g _ E hw
  | no => exact h.run g _ E hw⟩
theorem tr_ite {c : Prop} [Decidable c] {x y : M γ α} {p q : P α} (h1 : Tr x p) (h2 : Tr y q) : Tr (if c then x else y) (if c then p else q) := by
  by_cases z : c
  · rw [if_pos z, if_pos z]; exact h1
  · rw [if_neg z, if_neg z]; exact h2
theorem tr_forP {f : D → τ → M γ τ} {q : D → τ → P τ} {ds : List D} {t : τ} (h : ∀ d t, Tr (f d t) (q d t)) : Tr (forP ds t f) (forP ds t q) := by
  induction ds generalizing t with
  | nil => exact tr_pur
  | cons d ds ih => exact tr_bnd (h d t) fun _ => ih
theorem tr_compL {f : D → M γ (Option D)} {q : D → P (Option D)} {ds acc : List D} (h : ∀ d, Tr (f d) (q d)) : Tr (compL ds acc f) (compL ds acc q) := by
  induction ds generalizing acc with
  | nil => exact tr_pur
  | cons d ds ih =>
    refine tr_bnd (h d) fun o => ?_
    cases o with
    | none => exact ih
    | some e => exact tr_bnd tr_need fun _ => ih
theorem tr_nox {x : M γ α} {p : P α} (h : Tr x p) : Tr (nox x) (nox p) := ⟨fun g Q E hw => by
  cases p with
  | ok a => exact h.run g Q _ hw
  | ex e => exact hw.elim
  | no => exact hw.elim⟩
theorem w_tr {x : M γ α} {k : α → M γ β} {p : P α} {g : γ} {Q : β → γ → Prop} {E : Xc → γ → Prop} (h : Tr x p) (hw : wpP p g (fun a g' => (k a).wp g' Q E) E) : (bnd x k).wp g Q E := h.run g _ E hw
end
end Cl

set_option Elab.async false
set_option linter.all false
set_option autoImplicit false
set_option maxRecDepth 100000
set_option maxHeartbeats 400000
/-! the clean layer, part U: more plain steps -/
namespace Cl
open PySem PySem.Spec PyProof.Rows L2
open MO
section
variable {α β : Type}
theorem p_jn {α β : Type} {f : (α → P β) → P β} {k : α → P β} {r : P β} (h : f k = r) : (jn f k : P β) = r := h
theorem w_jn {γ α β : Type} {f : (α → M γ β) → M γ β} {k : α → M γ β} {g : γ} {Q : β → γ → Prop} {E : Xc → γ → Prop} (h : (f k).wp g Q E) : (jn f k).wp g Q E := h
/-- a comprehension over what m makes of xs -/
theorem p_filt {ι : Type} {m h : ι → D} {t : ι → Bool} {f : D → P (Option D)} : ∀ {xs : List ι} {acc : List D}, (∀ x ∈ xs, f (m x) = .ok (if t x = true then some (h x) else none)) → acc.length + xs.length ≤ 100000 →
    (compL (xs.map m) acc f : P (List D)) = .ok (acc ++ (xs.filter t).map h)
  | [], acc, _, _ => by
    show (P.ok acc : P (List D)) = .ok (acc ++ [])
    rw [List.append_nil]
  | x :: xs, acc, hf, hl => by
    have big := sizeLine_eq
    rw [List.length_cons] at hl
    have e := hf x List.mem_cons_self
    have ih : ∀ {acc : List D}, acc.length + xs.length ≤ 100000 → (compL (xs.map m) acc f : P (List D)) = .ok (acc ++ (xs.filter t).map h) := fun hl => p_filt (fun y hy => hf y (List.mem_cons_of_mem _ hy)) hl
    rw [List.map_cons]
    refine p_bnd e ?_
    cases q : t x with
    | true =>
      rw [List.filter_cons_of_pos q, if_pos rfl]
      refine p_need (a := acc ++ [h x]) (by unfold appF; rw [if_pos (by omega)]) ?_
      rw [ih (by rw [List.length_append, List.length_singleton]; omega), List.map_cons, List.append_assoc]
      rfl
    | false =>
      rw [List.filter_cons_of_neg (by rw [q]; exact Bool.false_ne_true), if_neg Bool.false_ne_true]
      exact ih (by omega)
theorem p_last {o : Option Bool} {y : Bool} (e : o = some y) : (bnd (need o) fun b => pur b : P Bool) = .ok y := by subst e; rfl
theorem p_and {o : Option Bool} {x y : Bool} {Y : P Bool} (e : o = some x) (h : x = true → Y = .ok y) : (bnd (need o) fun b => if b = true then Y else pur false : P Bool) = .ok (x && y) := by
  subst e
  cases x with
  | true => exact h rfl
  | false => rfl
theorem p_or {o : Option Bool} {x y : Bool} {Y : P Bool} (e : o = some x) (h : x = false → Y = .ok y) : (bnd (need o) fun b => if b = true then pur true else Y : P Bool) = .ok (x || y) := by
  subst e
  cases x with
  | true => rfl
  | false => exact h rfl
end
/-- what is told -/
def opts (l : List (Str × Bool)) : List Str := (l.filter fun p => p.2).map fun p => p.1
theorem opts_len (l : List (Str × Bool)) : (opts l).length ≤ l.length := by
  unfold opts
  rw [List.length_map]
  exact List.length_filter_le _ _
theorem opts_append (a b : List (Str × Bool)) : opts (a ++ b) = opts a ++ opts b := by
  unfold opts
  rw [List.filter_append, List.map_append]
theorem opts_f (l : List (Str × Bool)) (s : Str) : opts (l ++ [(s, false)]) = opts l := by
  rw [opts_append]
  show opts l ++ [] = _
  rw [List.append_nil]
theorem app_opts {β : Type} {l : List (Str × Bool)} {c : Bool} {s : Str} {k : List D → P β} {r : P β} (hl : Nat.ble l.length 1000 = true) (h : k ((opts (l ++ [(s, c)])).map PyData.str) = r) :
    (if c = true then bnd (need (appF ((opts l).map PyData.str) (.str s))) fun x => k x else k ((opts l).map PyData.str)) = r := by
  have big := sizeLine_eq
  cases c with
  | true =>
    rw [if_pos rfl]
    have h1 := opts_len l
    have h2 := Nat.le_of_ble_eq_true hl
    have e : appF ((opts l).map PyData.str) (.str s) = some ((opts (l ++ [(s, true)])).map PyData.str) := by
      unfold appF
      rw [if_pos (by rw [List.length_map]; omega), opts_append, List.map_append]
      rfl
    rw [e]
    exact h
  | false =>
    rw [if_neg Bool.false_ne_true, ← opts_f l s]
    exact h
theorem ap {xs : List D} {d : D} (h : Nat.ble xs.length 1000 = true) : appF xs d = some (xs ++ [d]) := by
  have big := sizeLine_eq
  have := Nat.le_of_ble_eq_true h
  unfold appF
  rw [if_pos (by omega)]
theorem ext_ok {xs ys : List Str} (h : xs.length + ys.length ≤ 1000) : extF (xs.map PyData.str) (.list (ys.map PyData.str)) = some ((xs ++ ys).map PyData.str) := by
  have big := sizeLine_eq
  show (if (xs.map PyData.str).length + (ys.map PyData.str).length ≤ sizeLine then some (xs.map PyData.str ++ ys.map PyData.str) else none) = _
  rw [if_pos (by rw [List.length_map, List.length_map]; omega), List.map_append]
/-- is nothing told? -/
theorem eqT_nil {k n : Nat} {ds : List D} (h : Rep k n (.tuple ds)) (hk : k ≤ 64) : eqF (.tuple ds) (.tuple []) = some ds.isEmpty := by
  show (if SeqAt.shaped (.tuple ds) = true ∧ SeqAt.shaped (.tuple []) = true then some (PyData.eqv (.tuple ds) (.tuple [])) else none) = _
  rw [if_pos ⟨h.shaped hk, by decide⟩]
  cases ds <;> rfl
theorem rng_ok {i : Int} (h0 : i ≤ 1000) (h1 : -1000 ≤ i) : rng1 [.int i] = some (rangeD 0 i.toNat) := by
  show (if -(2 ^ 62) ≤ i ∧ i < 2 ^ 62 then some (rangeD 0 i.toNat) else none) = _
  rw [if_pos ⟨by omega, by omega⟩]
theorem rangeD_len (n : Nat) : (rangeD 0 n).length = n := by simp [rangeD]
theorem int_of_range {d : D} {n : Nat} (h : d ∈ rangeD 0 n) : ∃ k : Int, d = .int k ∧ 0 ≤ k ∧ k < n := by
  obtain ⟨i, hi, rfl⟩ := List.mem_map.mp h
  have := List.mem_range.mp hi
  exact ⟨_, rfl, by omega, by omega⟩
theorem All2.all {α β : Type} {S : α → β → Prop} {T : β → Prop} (h : ∀ a b, S a b → T b) : ∀ {as : List α} {bs : List β}, All2 S as bs → (∀ b ∈ bs, T b) ∧ bs.length = as.length
  | _, _, .nil => ⟨fun _ z => (by cases z), rfl⟩
  | _, _, .cons p q => by
    obtain ⟨i1, i2⟩ := All2.all h q
    refine ⟨fun b hb => ?_, by rw [List.length_cons, List.length_cons, i2]⟩
    rcases List.mem_cons.mp hb with rfl | hb
    · exact h _ _ p
    · exact i1 b hb
end Cl

set_option Elab.async false
set_option linter.all false
set_option autoImplicit false
set_option maxRecDepth 100000
set_option maxHeartbeats 400000
/-! the clean layer, part V: found.append(left.pop(e)); chained comparisons -/
namespace Cl
open PySem PySem.Spec PyProof.Rows L2
open MO
/-- an item taken out of one's own list -/
def popAtF (ys : List D) : D → Option (D × List D)
  | .int k => if 0 ≤ k ∧ k < (ys.length : Nat) ∧ k < 2 ^ 62 then (ys[k.toNat]?).map fun y => (y, ys.eraseIdx k.toNat) else none
  | _ => none
theorem seq_at {k : Int} {n : Nat} (h0 : 0 ≤ k) (h1 : k < (n : Nat)) : seqIndex? k n = some k.toNat :=
  (ixN_seq (n := n) (i := k) (j := k.toNat) (by unfold ixN; rw [if_pos h0, if_pos h1])).1
section
variable {γ : Type} {m : Type → Type} [PM γ m] {α α2 β δ τ ω : Type} {C : Cc γ} {X : Cx} {ρ : En} {rest : List Stmt} {out : ω → En} {outL : τ → En} {rk : δ → R} {x : m β} {kn : ω → m β} {kr : δ → m β} {kb kc : τ → m β}
/-- found.append(left.pop(e)) -/
theorem cs_appPop {y1 y2 : Str} {p1 p2 a1 a2 c1 c2 pos : Pos} {e : Expr} {xr : List D → List D → m β} (i j : Nat) {xs ys : List D} (hi : ρ[i]? = some (some (.own (.lst xs)))) (hj : ρ[j]? = some (some (.own (.lst ys)))) (hij : i ≠ j)
    (hr : ∀ ys' xs', CS C X ((ρ.set j (some (.own (.lst ys')))).set i (some (.own (.lst xs')))) rest out outL rk (xr ys' xs') kn kr kb kc)
    (he : CE C X ρ e dv x (fun d => bnd (need (popAtF ys d)) fun r => bnd (need (appF xs r.1)) fun xs' => xr r.2 xs'))
    (hpe : ∀ te, PE X e te → PE X (.Call (.Attribute (.Name y1 p1) "append" a1) [.Call (.Attribute (.Name y2 p2) "pop" a2) [e] [] c2] [] c1) (tBM X.K "list" rAppend (tVar i) (tCons (tBM X.K "list" rPopAt (tVar j) (tCons te tNil)) tNil)) := by
      intro te he; exact pe_bm PySem.F.plainAttrs_list PySem.F.slot_list_append PySem.F.type_list_append mt_append (pv _) (pa_cons (pe_bm PySem.F.plainAttrs_list PySem.F.slot_list_pop PySem.F.type_list_pop mt_popAt (pv _) (pa_cons he pa_nil)) pa_nil))
    (hs : swapsWith (.Call (.Attribute (.Name y1 p1) "append" a1) [.Call (.Attribute (.Name y2 p2) "pop" a2) [e] [] c2] [] c1) none pos.line X.env = pure false := by rfl) :
    CS C X ρ (.Expr (.Call (.Attribute (.Name y1 p1) "append" a1) [.Call (.Attribute (.Name y2 p2) "pop" a2) [e] [] c2] [] c1) pos :: rest) out outL rk x kn kr kb kc := fun Qf =>
  PSs.imp (pss_cons (ps_expr (hpe _ (he Qf)) hs) (PSs.ex fun q : List D × List D => hr q.1 q.2 Qf)) fun E σ H ⟨G, J, g, st, w, fi⟩ => by
    obtain ⟨p, h1, h2, h3, h4, vs, hv, rl⟩ := st.env.own i _ hi
    obtain ⟨q, g1, g2, g3, g4, us, gv, gl⟩ := st.env.own j _ hj
    refine ⟨_, h1, ty_lst hv, _, g1, ty_lst gv, G, J, g, st, w, fun v d H' G' J' g' af si rr w' => ?_⟩
    obtain ⟨r, e1, w2⟩ := of_need w'
    obtain ⟨xs', e2, w3⟩ := of_need w2
    have st' := st.go af si
    obtain ⟨q', k1, k2, k3, k4, ws, kv, kl⟩ := st'.env.own j _ hj
    rw [g1] at k1; cases k1
    cases rr with
    | int k =>
      have e1' : (if 0 ≤ k ∧ k < (ys.length : Nat) ∧ k < 2 ^ 62 then (ys[k.toNat]?).map fun y => (y, ys.eraseIdx k.toNat) else none) = some r := e1
      split at e1'
      · rename_i hk
        cases e3 : ys[k.toNat]? with
        | none => rw [e3] at e1'; cases e1'
        | some y =>
          rw [e3] at e1'
          cases e1'
          obtain ⟨v, f1, f2⟩ := kl.get e3
          have st2 := St.ownG st' hj g1 (c' := .lst (ys.eraseIdx k.toNat)) (o := .lst (ws.eraseIdx k.toNat)) ⟨_, upd_same, kl.erase _⟩
          have hi2 : (ρ.set j (some (.own (.lst (ys.eraseIdx k.toNat)))))[i]? = some (some (.own (.lst xs))) := by rw [List.getElem?_set_ne (Ne.symm hij)]; exact hi
          obtain ⟨p', m1, m2, m3, m4, zs, mv, ml⟩ := st2.env.own i _ hi2
          rw [h1] at m1; cases m1
          refine ⟨q, ws, k, k.toNat, v, rfl, rfl, kv, by omega, by omega, seq_at hk.1 (by rw [kl.length]; exact hk.2.1), f1, ?_⟩
          dsimp only [tNil]
          exact mu_append _ G' p zs xs v y xs' _ st2.vis.sub mv ml f2 e2 fun u vs' rl' => ⟨(ys.eraseIdx k.toNat, xs'), G', J', g', St.ownG st2 hi2 h1 ⟨vs', upd_same, rl'⟩, w3, fi.sub af.gg⟩
      · cases e1'
    | _ => cases e1
end
/-! ### a < b < c -/
section
variable {γ : Type} {m : Type → Type} [PM γ m] {β : Type} {C : Cc γ} {X : Cx} {ρ : En}
theorem ce_chain {op op' : CmpOp} {r r' : R2} {a b c : Expr} {pos : Pos} {f f' : D → D → Option Bool} {x : m β} {x2 : D → m β} {x3 : D → m β} {k : Bool → m β} (ho : OpR X (compareOp op) r) (ho' : OpR X (compareOp op') r') (hf : P2 X.K r f PyData.bool) (hf' : P2 X.K r' f' PyData.bool)
    (hc : ∀ d2, CE C X ρ c dv (x3 d2) (fun d3 => bnd (need (f' d2 d3)) k)) (hb : ∀ d1, CE C X ρ b dv (x2 d1) (fun d2 => bnd (need (f d1 d2)) fun t => if t = true then x3 d2 else k false)) (ha : CE C X ρ a dv x x2)
    (hm : lastMarks [op, op'] [b, c] = false := by with_unfolding_all rfl) : CE C X ρ (.Compare a [op, op'] [b, c] pos) bv x k := fun Qf =>
  PE.imp (pe_chain ho ho' (ha Qf) (PE.ex fun d1 => hb d1 Qf) (PE.ex fun d2 => hc d2 Qf) hm) fun σ H Q ⟨G, J, g, st, w, q⟩ => ⟨G, J, g, st, w, fun v1 d1 H1 G1 J1 g1 af1 si1 r1 w1 => ⟨d1, G1, J1, g1, st.go af1 si1, w1, fun v2 d2 H2 G2 J2 g2 af2 si2 r2 w2 => by
    obtain ⟨t, e, w3⟩ := of_need w2
    refine hf H2 G2 v1 v2 d1 d2 t _ af2.vis.sub (Rp.sub af2.gg r1) r2 e fun v H' G' n rr => ?_
    cases rr
    refine ⟨t, rfl, ?_⟩
    have af3 := (af1.trans af2).trans (n.aft af2.vis)
    have si3 := SIx.nw si2 n
    cases t with
    | true =>
      rw [if_pos rfl] at w3 ⊢
      refine ⟨d2, G', J2, g2, st.go af3 si3, w3, fun v3 d3 H4 G4 J4 g4 af4 si4 r4 w4 => ?_⟩
      obtain ⟨t2, e2, w5⟩ := of_need w4
      exact hf' H4 G4 v2 v3 d2 d3 t2 Q af4.vis.sub (Rp.sub (n.gg.trans af4.gg) r2) r4 e2 fun v' H'' G'' n' rr' => q v' t2 H'' G'' J4 g4 ((af3.trans af4).trans (n'.aft af4.vis)) (SIx.nw si4 n') rr' w5
    | false =>
      rw [if_neg Bool.false_ne_true] at w3 ⊢
      exact q _ false H' G' J2 g2 af3 si3 (.bl false) w3⟩⟩
theorem ct_chain {op op' : CmpOp} {r r' : R2} {a b c : Expr} {pos : Pos} {f f' : D → D → Option Bool} {x : m β} {x2 : D → m β} {x3 : D → m β} {k : Bool → m β} (ho : OpR X (compareOp op) r) (ho' : OpR X (compareOp op') r') (hf : P2 X.K r f PyData.bool) (hf' : P2 X.K r' f' PyData.bool)
    (hc : ∀ d2, CE C X ρ c dv (x3 d2) (fun d3 => bnd (need (f' d2 d3)) k)) (hb : ∀ d1, CE C X ρ b dv (x2 d1) (fun d2 => bnd (need (f d1 d2)) fun t => if t = true then x3 d2 else k false)) (ha : CE C X ρ a dv x x2)
    (hm : lastMarks [op, op'] [b, c] = false := by with_unfolding_all rfl) : CT C X ρ (.Compare a [op, op'] [b, c] pos) x k := fun Qf =>
  PT.imp (pt_chain ho ho' (ha Qf) (PE.ex fun d1 => hb d1 Qf) (PE.ex fun d2 => hc d2 Qf) hm) fun σ H Q ⟨G, J, g, st, w, q⟩ => ⟨G, J, g, st, w, fun v1 d1 H1 G1 J1 g1 af1 si1 r1 w1 => ⟨d1, G1, J1, g1, st.go af1 si1, w1, fun v2 d2 H2 G2 J2 g2 af2 si2 r2 w2 => by
    obtain ⟨t, e, w3⟩ := of_need w2
    refine hf H2 G2 v1 v2 d1 d2 t _ af2.vis.sub (Rp.sub af2.gg r1) r2 e fun v H' G' n rr => ?_
    cases rr
    refine ⟨t, rfl, ?_⟩
    have af3 := (af1.trans af2).trans (n.aft af2.vis)
    have si3 := SIx.nw si2 n
    cases t with
    | true =>
      rw [if_pos rfl] at w3 ⊢
      refine ⟨d2, G', J2, g2, st.go af3 si3, w3, fun v3 d3 H4 G4 J4 g4 af4 si4 r4 w4 => ?_⟩
      obtain ⟨t2, e2, w5⟩ := of_need w4
      exact hf' H4 G4 v2 v3 d2 d3 t2 _ af4.vis.sub (Rp.sub (n.gg.trans af4.gg) r2) r4 e2 fun v' H'' G'' n' rr' => by
        cases rr'
        exact ⟨t2, rfl, q t2 H'' G'' J4 g4 ((af3.trans af4).trans (n'.aft af4.vis)) (SIx.nw si4 n') w5⟩
    | false =>
      rw [if_neg Bool.false_ne_true] at w3 ⊢
      exact ⟨false, rfl, q false H' G' J2 g2 af3 si3 w3⟩⟩⟩
end
end Cl

set_option Elab.async false
set_option linter.all false
set_option autoImplicit false
set_option maxRecDepth 100000
set_option maxHeartbeats 400000
/-! the clean layer, part W: what is turned about; keys of the module's dicts -/
namespace Cl
open PySem PySem.Spec PyProof.Rows L2
open MO
section
open HT
variable {prog : Program} {w : World} {A : Around} {E : Value → Shared → Prop} {s : Shared}
theorem adjust_rev (n : Nat) : Builtin.Slice.sliceAdjust none none (-1) (n : Int) = ((n : Int) - 1, -1) := by
  unfold Builtin.Slice.sliceAdjust
  have h1 : ((-1 : Int) < 0) := by omega
  simp only [h1, if_true]
theorem places_rev (n : Nat) : Builtin.Slice.slicePlaces ((n : Int) - 1) (-1) (-1) = n := by
  unfold Builtin.Slice.slicePlaces
  have h1 : ¬ ((-1 : Int) > 0) := by omega
  simp only [h1, if_false]
  have h2 : (- -1 : Int) = 1 := by decide
  rw [h2, Int.ediv_one]
  split <;> omega
theorem sliceApplied_rev {sl : Addr} {vl vu vs : Value} {n : Nat} {Q : Int × Int × Nat → Shared → Prop} (hs : s.heap.IsSliceOf sl vl vu vs) (pl : IsPart vl none) (pu : IsPart vu none) (ps : IsPart vs (some (-1)))
    (h : Q ((n : Int) - 1, -1, n) s) : wpAny (model prog w) A (Builtin.Slice.sliceApplied (.ref sl) (pure (n : Int))) Q E s := by
  obtain ⟨os, hos, hcs, hds⟩ := id hs
  unfold Builtin.Slice.sliceApplied Builtin.Slice.sliceFields
  refine wpAny_bind (wpAny_bind (wpAny_field hos hds (x := vl) rfl (wpAny_bind (wpAny_field hos hds (x := vu) rfl (wpAny_bind (wpAny_field hos hds (x := vs) rfl (wpAny_pure ?_)))))))
  refine wpAny_bind (slicePart_ ps ?_)
  show wpAny _ _ (if ((-1 : Int) == 0) = true then _ else _) _ _ s
  rw [if_neg (by decide)]
  refine wpAny_bind (slicePart_ pl (wpAny_bind (slicePart_ pu (wpAny_bind (wpAny_pure ?_)))))
  show wpAny _ _ (match Builtin.Slice.sliceAdjust none none (-1) (n : Int) with | (lo, hi) => pure (lo, (-1 : Int), Builtin.Slice.slicePlaces lo hi (-1))) _ _ s
  rw [adjust_rev n]
  show wpAny _ _ (pure ((n : Int) - 1, (-1 : Int), Builtin.Slice.slicePlaces ((n : Int) - 1) (-1) (-1))) _ _ s
  rw [places_rev]
  exact wpAny_pure h
theorem pick_rev (xs : Array Value) : ((List.range xs.size).filterMap fun (m : Nat) => xs[((xs.size : Int) - 1 + (m : Int) * (-1)).toNat]?).toArray = xs.toList.reverse.toArray := by
  have e : (fun (m : Nat) => xs[((xs.size : Int) - 1 + (m : Int) * (-1)).toNat]?) = (fun k => xs[k]?) ∘ fun k => xs.size - 1 - k := by
    funext m
    have : ((xs.size : Int) - 1 + (m : Int) * (-1)).toNat = xs.size - 1 - m := by omega
    show xs[_]? = xs[_]?
    rw [this]
  rw [e, ← List.filterMap_map, PySem.W.krv_range, List.filterMap_reverse, PySem.W.krv_all]
theorem getItem_tuple_rev {t sl : Addr} {items : Array Value} {vl vu vs : Value} {Q : Value → Shared → Prop} (ht : IsTup s.heap t items) (hs : s.heap.IsSliceOf sl vl vu vs) (pl : IsPart vl none) (pu : IsPart vu none) (ps : IsPart vs (some (-1)))
    (h : Q (.ref s.heap.objs.size) { s with heap := s.heap.push { cls := .type "tuple", data := .seq items.toList.reverse.toArray } })
    (hsz : items.size ≤ sizeLine) : wpAny (model prog w) A (getItem (.ref t) (.ref sl)) Q E s := by
  have htake : sizeOk (.seq items.toList.reverse.toArray) := by
    show items.toList.reverse.toArray.size ≤ sizeLine
    rw [List.size_toArray, List.length_reverse, Array.length_toList]
    exact hsz
  obtain ⟨os, hos, hcs, hds⟩ := id hs
  have hTs : s.TypeIs (.ref sl) "slice" := ⟨os, hos, hcs⟩
  unfold getItem
  try with_reducible refine wpAny_holding ?_
  first | refine wpAny_bind (wpAny_pure ?_) | skip
  refine wpAny_bind (wpAny_sequenceKey ht.typeIs (by decide) ?_)
  refine wpAny_bind (wpAny_callSpecial?_slot (name := Str.ofString "__getitem__") ht.typeIs PyProof.Rows.slot_tuple_getitem
    (wpAny_call_entry PyProof.Rows.slot_tuple_getitem ht.typeIs entry_tuple_getitem ?_ (args_tuple_getitem _ _)))
  show wpAny _ _ (Builtin.Tuple.tupleItemsOf (.ref t) >>= _) _ _ s
  refine wpAny_bind (tupleItemsOf_ ht ?_)
  refine wpAny_bind (wpAny_typeOf hTs ?_)
  rw [if_pos (by decide)]
  refine wpAny_bind (sliceApplied_rev hs pl pu ps ?_)
  show wpAny _ _ (if (((items.size : Int) - 1) == 0 && (-1 : Int) == 1 && items.size == items.size) = true then _ else _) _ _ s
  have hno : ¬ ((((items.size : Int) - 1) == 0 && (-1 : Int) == 1 && items.size == items.size) = true) := by
    intro q
    rw [Bool.and_eq_true, Bool.and_eq_true] at q
    exact absurd q.1.2 (by decide)
  rw [if_neg hno, pick_rev]
  first
    | exact wpAny_bind (m := Builtin.Tuple.tupleExact _) (wpAny_newObj_type (wpAny_pure ⟨_, rfl, wpAny_pure h⟩) htake)
    | exact wpAny_bind (m := Builtin.Tuple.tupleExact _) (wpAny_newObj_type (wpAny_bind (wpAny_pure (wpAny_pure ⟨_, rfl, wpAny_pure h⟩))) htake)
    | exact wpAny_bind (wpAny_bind (m := Builtin.Tuple.tupleExact _) (wpAny_newObj_type (wpAny_pure (wpAny_pure ⟨_, rfl, wpAny_pure h⟩)) htake))
    | exact wpAny_bind (wpAny_bind (m := Builtin.Tuple.tupleExact _) (wpAny_newObj_type (wpAny_pure ⟨_, rfl, wpAny_pure h⟩) htake))
end
section
variable {X : Cx}
/-- e[::-1] of a list or a tuple -/
theorem pe_rev {e : Expr} {te : TE} {k : Nat} {p1 p2 p3 pos : Pos} (he : PE X e te) : PE X (.Subscript e (.Slice none none (some (.UnaryOp .USub (.Constant (.int 1) k p1) p2)) p3) pos)
    (fun σ H Q => te σ H fun x H1 => ∃ a xs, x = .ref a ∧ ((SqL X.K H1 a xs ∧ ∀ p, H1 p = none → Q (.ref p) (upd H1 p (.lst xs.reverse))) ∨ (SqT X.K H1 a xs ∧ NewT H1 xs.reverse Q))) := by
  refine ⟨fun pins s σ H Q I h => ?_⟩
  refine Subscript_ (thn (he.run pins s σ H _ I h) fun v s1 ⟨x, H1, I1, r1, q1⟩ => ?_)
  obtain ⟨a, xs, ex, q⟩ := q1
  subst ex
  cases r1
  have hst : PO X (some (.UnaryOp .USub (.Constant (.int 1) k p1) p2)) (tPart (tUn (rU fun i => .int (-i)) (tC (.int 1)))) := po_some (pe_un un_neg pe_int)
  refine wpAny_Slice (thn (po_none.run pins s1 σ H1 (fun o H2 => o = none ∧ H2 = H1) I1 ⟨rfl, rfl⟩) fun vl s2 ⟨l, H2, I2, pl, el, e2⟩ => ?_)
  subst el e2
  refine thn (po_none.run pins s2 σ H2 (fun o H3 => o = none ∧ H3 = H2) I2 ⟨rfl, rfl⟩) fun vu s3 ⟨u, H3, I3, pu, eu, e3⟩ => ?_
  subst eu e3
  refine thn (hst.run pins s3 σ H3 (fun o H4 => o = some (-1) ∧ H4 = H3) I3 ⟨1, rfl, -1, rfl, rfl, rfl⟩) fun vs s4 ⟨o, H4, I4, ps, eo, e4⟩ => ?_
  subst eo e4
  have I5 : Inv X pins σ H4 { s4 with heap := s4.heap.push { cls := .type "slice", data := .fields #[vl, vu, vs] } } := I4.kept (t' := s4.toks) fun b ob q => Heap.get?_push_of_some _ q
  show wpAny (model X.prog X.w) X.A (subscriptTail e (.Slice none none (some (.UnaryOp .USub (.Constant (.int 1) k p1) p2)) p3) (.ref a) (.ref s4.heap.objs.size)) (EP X pins σ Q) X.xe { s4 with heap := s4.heap.push { cls := .type "slice", data := .fields #[vl, vu, vs] } }
  rcases q with ⟨hx, q⟩ | ⟨hx, q⟩
  · obtain ⟨its, r, ht, hz⟩ := I5.list hx
    have hlen := r.length
    refine tail_any (ops := [.ref a, .ref s4.heap.objs.size]) ht.isList.typeIs (PySem.slot_list_getitem.lookup) ?_ (by with_unfolding_all rfl)
    refine wpAny_getItem_list_slice ht.isList (Heap.IsSliceOf.new _ vl vu vs) pl pu ps (by decide) ?_ (by rw [List.size_toArray]; omega)
    rw [PySem.W.krv_pick]
    refine ⟨.ref _, _, I5.laid (t' := s4.toks) (o := .lst xs.reverse) (fun b ob q => Heap.get?_push_of_some _ q) (Nat.le_refl _) ?_, rfl, q _ (I5.hok.fresh (Nat.le_refl _))⟩
    exact ⟨by rw [List.length_reverse]; exact hz, _, 0, r.reverse, Heap.get?_push_size _ rfl⟩
  · obtain ⟨its, r, ht, hz⟩ := I5.tuple hx
    have hlen := r.length
    refine tail_any (ops := [.ref a, .ref s4.heap.objs.size]) ht.typeIs (PyProof.Rows.slot_tuple_getitem.lookup) ?_ (by with_unfolding_all rfl)
    refine getItem_tuple_rev ht (Heap.IsSliceOf.new _ vl vu vs) pl pu ps ?_ (by rw [List.size_toArray]; omega)
    exact ep_frz (s := s4) (h2 := s4.heap.push { cls := .type "slice", data := .fields #[vl, vu, vs] }) (t2 := s4.toks) I5 rfl rfl rfl (by rw [List.length_reverse]; exact hz) r.reverse (IsTup.new _ _) q
end
def revF : D → Option D
  | .list xs => some (.list xs.reverse)
  | .tuple xs => some (.tuple xs.reverse)
  | _ => none
def kinF (kvs : List (Str × D)) : D → Option Bool
  | .str z => some (lookS kvs z).isSome
  | _ => none
def kninF (kvs : List (Str × D)) : D → Option Bool
  | .str z => some (!(lookS kvs z).isSome)
  | _ => none
section
variable {γ : Type} {m : Type → Type} [PM γ m] {β : Type} {C : Cc γ} {X : Cx} {ρ : En}
theorem ce_rev {e : Expr} {k0 : Nat} {p1 p2 p3 pos : Pos} {x : m β} {k : D → m β} (he : CE C X ρ e dv x (fun d => bnd (need (revF d)) k)) :
    CE C X ρ (.Subscript e (.Slice none none (some (.UnaryOp .USub (.Constant (.int 1) k0 p1) p2)) p3) pos) dv x k := fun Qf =>
  PE.imp (pe_rev (he Qf)) fun σ H Q ⟨G, J, g, st, w, q⟩ => ⟨G, J, g, st, w, fun v1 d1 H1 G1 J1 g1 af1 si1 r1 w1 => by
    obtain ⟨d, e1, w2⟩ := of_need w1
    cases r1 with
    | @lst p us ds h1 h2 =>
      cases e1
      refine ⟨p, us, rfl, .inl ⟨SqL.of (af1.vis.sub _ _ h1), fun q0 np => ?_⟩⟩
      have n := New.laid (o := .lst us.reverse) af1.vis.sub np
      exact q _ _ _ _ J1 g1 (af1.trans (n.aft af1.vis)) (SIx.nw si1 n) (rp_new af1.vis.sub np h2.reverse) w2
    | @tup p us ds h1 h2 =>
      cases e1
      refine ⟨p, us, rfl, .inr ⟨af1.vis.sub.seq h1, fun q0 ob np oc od => ?_⟩⟩
      have n := New.laid (o := .frz ob (.tup us.reverse)) af1.vis.sub np
      exact q _ _ _ _ J1 g1 (af1.trans (n.aft af1.vis)) (SIx.nw si1 n) (rp_newT oc od af1.vis.sub np h2.reverse) w2
    | _ => cases e1⟩
def revLF : D → Option (List D)
  | .list xs => some xs.reverse
  | _ => none
theorem ce_revL {e : Expr} {k0 : Nat} {p1 p2 p3 pos : Pos} {x : m β} {k : List D → m β} (he : CE C X ρ e dv x (fun d => bnd (need (revLF d)) k)) :
    CE C X ρ (.Subscript e (.Slice none none (some (.UnaryOp .USub (.Constant (.int 1) k0 p1) p2)) p3) pos) lv x k := fun Qf =>
  PE.imp (pe_rev (he Qf)) fun σ H Q ⟨G, J, g, st, w, q⟩ => ⟨G, J, g, st, w, fun v1 d1 H1 G1 J1 g1 af1 si1 r1 w1 => by
    obtain ⟨d, e1, w2⟩ := of_need w1
    cases r1 with
    | @lst p us ds h1 h2 =>
      cases e1
      refine ⟨p, us, rfl, .inl ⟨SqL.of (af1.vis.sub _ _ h1), fun q0 np => ?_⟩⟩
      have n := New.own (o := .lst us.reverse) af1.vis.sub np
      exact q _ _ _ _ J1 g1 (af1.trans (n.aft af1.vis)) (SIx.nw si1 n) ⟨q0, rfl, Classical.byContradiction fun z => af1.dm q0 z np, none_of_sub af1.vis.sub np, fun j => af1.vis.dom q0 j np, us.reverse, upd_same, h2.reverse⟩ w2
    | _ => cases e1⟩
theorem kin_of {X : Cx} {p : Addr} {es : Array DictEntry} {n : Nat} {kvs : List (Str × D)} (kd : KDict X.K X.w p es n) (hk : kRows X.K es.toList = some kvs) (z : Str) : ∃ r, PySem.W.nsIn X.K p z = some r ∧ r.isSome = (lookS kvs z).isSome := by
  obtain ⟨n1, n2⟩ := nsIn_of kd hk z
  cases q : lookS kvs z with
  | none => exact ⟨_, n2 q, rfl⟩
  | some d =>
    obtain ⟨u, h, _⟩ := n1 d q
    exact ⟨_, h, rfl⟩
theorem ce_kin {nm : Str} {e : Expr} {p2 pos : Pos} {kvs : List (Str × D)} {x : m β} {k : Bool → m β} (h : GloD X.K X.w X.mg nm kvs) (he : CE C X ρ e dv x (fun d => bnd (need (kinF kvs d)) k)) (hg : Gl X nm := by rfl) (hd : (nm == ("__debug__" : Str)) = false := by decide)
    (hpe : ∀ te t2 r, OpR X (compareOp .In) r → PE X e te → PE X (.Name nm p2) t2 → PE X (.Compare e [.In] [.Name nm p2] pos) (tOp r te t2) := by intro te t2 r ho h1 h2; exact pe_cmp ho h1 h2) : CE C X ρ (.Compare e [.In] [.Name nm p2] pos) bv x k := fun Qf => by
  obtain ⟨p, es, n, hm, kd, hk⟩ := h
  refine PE.imp (hpe _ _ _ (op_in_kd kd) (he Qf) (pe_glob (v := .ref p) hg hm rfl hd)) fun σ H Q ⟨G, J, g, st, w, q⟩ => ⟨G, J, g, st, w, fun v1 d1 H1 G1 J1 g1 af1 si1 r1 w1 => ?_⟩
  obtain ⟨d, e1, w2⟩ := of_need w1
  cases r1 with
  | str z =>
    obtain ⟨r, f1, f2⟩ := kin_of kd hk z
    cases e1
    refine ⟨z, r, rfl, rfl, f1, ?_⟩
    rw [f2]
    exact q _ _ H1 G1 J1 g1 af1 si1 (.bl _) w2
  | _ => cases e1
theorem ct_knin {nm : Str} {e : Expr} {p2 pos : Pos} {kvs : List (Str × D)} {x : m β} {k : Bool → m β} (h : GloD X.K X.w X.mg nm kvs) (he : CE C X ρ e dv x (fun d => bnd (need (kninF kvs d)) k)) (hg : Gl X nm := by rfl) (hd : (nm == ("__debug__" : Str)) = false := by decide)
    (hb : behindInMarks .NotIn (.Name nm p2) = false := by rfl) : CT C X ρ (.Compare e [.NotIn] [.Name nm p2] pos) x k := fun Qf => by
  obtain ⟨p, es, n, hm, kd, hk⟩ := h
  refine PT.imp (pt_cmpR (op_notIn_kd kd) (he Qf) (pe_glob (v := .ref p) hg hm rfl hd) hb) fun σ H Q ⟨G, J, g, st, w, q⟩ => ⟨G, J, g, st, w, fun v1 d1 H1 G1 J1 g1 af1 si1 r1 w1 => ?_⟩
  obtain ⟨d, e1, w2⟩ := of_need w1
  cases r1 with
  | str z =>
    obtain ⟨r, f1, f2⟩ := kin_of kd hk z
    cases e1
    refine ⟨z, r, rfl, rfl, f1, _, rfl, ?_⟩
    rw [f2]
    exact q _ H1 G1 J1 g1 af1 si1 w2
  | _ => cases e1
end
end Cl

set_option Elab.async false
set_option linter.all false
set_option autoImplicit false
set_option maxRecDepth 100000
set_option maxHeartbeats 400000
/-! the clean layer, part X: list.count, an index in a written tuple, list(range(n)), three stored at once -/
namespace Cl
open PySem PySem.Spec PyProof.Rows L2
open MO
/-! ### xs.count(x) -/
theorem countP_eqU {x : V} : ∀ {xs : List V} {us : List Value}, Vals xs us → xs.all flatV = true → us.countP (eqU x) = xs.countP fun y => eqV y x
  | _, _, .nil, _ => rfl
  | y :: xs, u :: us, .cons r t, f => by
    rw [List.all_cons, Bool.and_eq_true] at f
    rw [List.countP_cons, List.countP_cons, countP_eqU t f.2, eqU_of r f.1]
def rCntV (K : PySem.W.Frag) : V → List V → Hp → VK → Prop := fun x xs H Q => ∃ (p : Addr) (ys : List V) (k : V), x = .ref p ∧ xs = [k] ∧ SqL K H p ys ∧ ys.all flatV = true ∧ flatV k = true ∧ Q (.int (ys.countP fun y => eqV y k : Nat)) H
theorem mt_lcountV {X : Cx} : MtR X "list.count" (rCntV X.K) := by
  intro pins s σ H x xs v us Q I rx rxs h
  obtain ⟨p, ys, k, rfl, rfl, hs, fy, fk, q⟩ := h
  cases rx
  obtain ⟨u, rfl, ru⟩ := rxs.one
  obtain ⟨its, rv, ⟨⟨cls, dd, data, sl⟩, n, ho, hc, hdn, hd⟩, hlen⟩ := I.list hs
  simp only at hc hd
  subst hc hd
  refine call_meets PySem.F.slot_list_count ⟨_, ho, rfl⟩ PySem.F.entry_list_count (PySem.F.args_list_count_2 _ _)
    (SeqAt.list_countAt p its.toArray n dd sl u (eqU k)) ⟨ho, fun y hy => mem_eqAt ru fk rv fy y (by simpa using hy), ?_⟩
  have ec : its.toArray.toList.countP (eqU k) = ys.countP fun y => eqV y k := countP_eqU rv fy
  refine ⟨.int (ys.countP fun y => eqV y k : Nat), H, I.tok _, ⟨s.toks, ?_⟩, q⟩
  show Value.int ((its.toArray.toList.countP (eqU k) : Nat) : Int) s.toks = Value.int ((ys.countP fun y => eqV y k : Nat) : Int) s.toks
  rw [ec]
def countF : D → D → Option Int
  | .list ds, x => if sc x && ds.all sc then some ((ds.countP fun y => eqS y x : Nat) : Int) else none
  | _, _ => none
theorem count_rp {K : PySem.W.Frag} {G : Hp} {k : V} {x : D} (rx : Rp K G k x) (hx : sc x = true) : ∀ {vs : List V} {ds : List D}, RpL K G vs ds → ds.all sc = true → (vs.countP fun y => eqV y k) = ds.countP fun y => eqS y x
  | _, _, .nil, _ => rfl
  | v :: vs, d :: ds, .cons r t, f => by
    rw [List.all_cons, Bool.and_eq_true] at f
    rw [List.countP_cons, List.countP_cons, count_rp rx hx t f.2, sc_eq r rx f.1 hx]
section
variable {γ : Type} {m : Type → Type} [PM γ m] {α α2 α3 β δ τ ω : Type} {C : Cc γ} {X : Cx} {ρ : En}
/-- an object that is a list as data -/
def isLst : D → Option Unit
  | .list _ => some ()
  | _ => none
theorem ce_lcount {o e : Expr} {apos pos : Pos} {x : m β} {x2 : D → m β} {k : Int → m β} (he : ∀ d1, CE C X ρ e dv (x2 d1) (fun d2 => bnd (need (countF d1 d2)) k)) (ho : CE C X ρ o dv x (fun d => bnd (need (isLst d)) fun _ => x2 d))
    (hpe : ∀ to te, PE X o to → PE X e te → PE X (.Call (.Attribute o "count" apos) [e] [] pos) (tBM X.K "list" (rCntV X.K) to (tCons te tNil)) := by intro to te h1 h2; exact pe_bm PySem.F.plainAttrs_list PySem.F.slot_list_count PySem.F.type_list_count mt_lcountV h1 (pa_cons h2 pa_nil)) :
    CE C X ρ (.Call (.Attribute o "count" apos) [e] [] pos) iv x k := fun Qf =>
  PE.imp (hpe _ _ (ho Qf) (PE.ex fun d => he d Qf)) fun σ H Q ⟨G, J, g, st, w, q⟩ => ⟨G, J, g, st, w, fun v1 d1 H1 G1 J1 g1 af1 si1 r1 w1 => by
    obtain ⟨_, e0, w1⟩ := of_need w1
    cases r1 with
    | @lst p us ds h1 h2 =>
      refine ⟨ty_lst (af1.vis.sub _ _ h1), .list ds, G1, J1, g1, st.go af1 si1, w1, fun v2 d2 H2 G2 J2 g2 af2 si2 r2 w2 => ?_⟩
      obtain ⟨n, e1, w3⟩ := of_need w2
      have e1' : (if (sc d2 && ds.all sc) = true then some ((ds.countP fun y => eqS y d2 : Nat) : Int) else none) = some n := e1
      split at e1'
      · rename_i hsc
        cases e1'
        rw [Bool.and_eq_true] at hsc
        have h3 : RpL X.K G2 us ds := h2.sub af2.gg
        refine ⟨p, us, v2, rfl, rfl, SqL.of (af2.vis.sub _ _ (af2.gg _ _ h1)), sc_all h3 hsc.2, sc_flat r2 hsc.1, ?_⟩
        rw [count_rp r2 hsc.1 h3 hsc.2]
        exact q _ _ H2 G2 J2 g2 (af1.trans af2) si2 (.int _) w3
      · cases e1'
    | _ => cases e0⟩
/-! ### list(range(n)) -/
def lrgF : D → Option (List D)
  | .int n => if 0 ≤ n ∧ n ≤ 10000 then some (rangeD 0 n.toNat) else none
  | _ => none
theorem rg_rp {K : PySem.W.Frag} {G : Hp} : ∀ (l : List Nat), RpL K G (l.map fun i => V.int (0 + (i : Nat))) (l.map fun i => PyData.int (0 + (i : Nat)))
  | [] => .nil
  | i :: l => .cons (.int _) (rg_rp l)
theorem ce_listRg {e : Expr} {p p2 pos pos2 : Pos} {x : m β} {k : List D → m β} (hm : X.mg "list" = none) (hm2 : X.mg "range" = none) (he : CE C X ρ e dv x (fun d => bnd (need (lrgF d)) k)) (hc : X.calm = true := by rfl) (hg : Gl X "list" := by rfl) (hg2 : Gl X "range" := by rfl)
    (na : starEach [e] X.env = (false, eval e X.env) :: starEach [] X.env := by rfl) (na2 : starEach [.Call (.Name "range" p2) [e] [] pos2] X.env = (false, eval (.Call (.Name "range" p2) [e] [] pos2) X.env) :: starEach [] X.env := by rfl) :
    CE C X ρ (.Call (.Name "list" p) [.Call (.Name "range" p2) [e] [] pos2] [] pos) lv x k := fun Qf =>
  PE.imp (pe_listRg hc hg hm (prg_1 hg2 hm2 (he Qf) na) na2) fun σ H Q ⟨G, J, g, st, w, q⟩ => ⟨G, J, g, st, w, fun v1 d1 H1 G1 J1 g1 af1 si1 r1 w1 => by
    obtain ⟨ds, e1, w2⟩ := of_need w1
    cases r1 with
    | int n =>
      have e1' : (if 0 ≤ n ∧ n ≤ 10000 then some (rangeD 0 n.toNat) else none) = some ds := e1
      split at e1'
      · rename_i hn
        cases e1'
        refine ⟨n, rfl, ⟨by omega, by omega, by omega, by omega, by omega⟩, fun q0 np => ?_⟩
        have nn := New.own (o := .lst (rgV 0 n)) af1.vis.sub np
        refine q _ _ _ _ J1 g1 (af1.trans (nn.aft af1.vis)) (SIx.nw si1 nn) ⟨q0, rfl, Classical.byContradiction fun z => af1.dm q0 z np, none_of_sub af1.vis.sub np, fun j => af1.vis.dom q0 j np, rgV 0 n, upd_same, ?_⟩ w2
        unfold rgV rangeD
        rw [Int.sub_zero]
        exact rg_rp _
      · cases e1'
    | _ => cases e1⟩
/-! ### an index in a written tuple of texts -/
def idxS : List Str → Str → Option Nat
  | [], _ => none
  | y :: r, z => if y = z then some 0 else (idxS r z).map (· + 1)
theorem idxS_ok : ∀ {ys : List Str} {z : Str} {j : Nat}, idxS ys z = some j → ys[j]? = some z ∧ ∀ m, m < j → ys[m]? ≠ some z
  | [], z, j, h => by cases h
  | y :: r, z, j, h => by
    unfold idxS at h
    split at h
    · rename_i e
      cases h
      subst e
      exact ⟨rfl, fun m hm => absurd hm (Nat.not_lt_zero m)⟩
    · rename_i e
      cases q : idxS r z with
      | none => rw [q] at h; cases h
      | some i =>
        rw [q] at h
        cases h
        obtain ⟨h1, h2⟩ := idxS_ok q
        refine ⟨h1, fun m hm => ?_⟩
        cases m with
        | zero => exact fun w => e (Option.some.inj w)
        | succ m =>
          have hm' : m + 1 < i + 1 := hm
          exact h2 m (by omega)
def kIdxF (ys : List Str) : D → Option Int
  | .str z => (idxS ys z).map fun j => ((j : Nat) : Int)
  | _ => none
def kStrs : List Value → Option (List Str)
  | [] => some []
  | .str x _ :: us => (kStrs us).map (x :: ·)
  | _ => none
theorem kStrs_ok : ∀ {us : List Value} {ys : List Str}, kStrs us = some ys → Vals (ys.map V.str) us
  | [], ys, h => by cases h; exact .nil
  | u :: us, ys, h => by
    cases u with
    | str x t =>
      unfold kStrs at h
      cases q : kStrs us with
      | none => rw [q] at h; cases h
      | some zs =>
        rw [q] at h
        cases h
        exact .cons ⟨_, rfl⟩ (kStrs_ok q)
    | _ => cases h
def kStrT (K : PySem.W.Frag) (a : Addr) : Option (List Str) := match K.lookup a with
  | some ⟨.type c, none, .seq its _, _⟩ => if c = "tuple" ∧ its.size ≤ sizeLine then kStrs its.toList else none
  | _ => none
def GloT (K : PySem.W.Frag) (mg : Str → Option Value) (x : Str) (ys : List Str) : Prop := ∃ p o its n, mg x = some (.ref p) ∧ K.lookup p = some o ∧ o.cls = .type "tuple" ∧ o.dict = none ∧ o.data = .seq its n ∧ its.size ≤ sizeLine ∧ Vals (ys.map V.str) its.toList
theorem glot_mk {K : PySem.W.Frag} {h : Heap} {mg : Str → Option Value} (X : K.In h) (G : h.Ns mainGlobals mg) {x : Str} {p : Addr} {ys : List Str} (a : PySem.W.nsIn K mainGlobals x = some (some (.ref p))) (e : kStrT K p = some ys) : GloT K mg x ys := by
  unfold kStrT at e
  split at e
  · rename_i c its n sl hl
    split at e
    · rename_i hc
      exact ⟨p, _, its, n, PySem.W.mg_of X G a, hl, by rw [hc.1], rfl, rfl, hc.2, kStrs_ok e⟩
    · cases e
  · cases e
theorem ce_kindex {nm : Str} {e : Expr} {p2 apos pos : Pos} {ys : List Str} {x : m β} {k : Int → m β} (h : GloT X.K X.mg nm ys) (he : CE C X ρ e dv x (fun d => bnd (need (kIdxF ys d)) k)) (hg : Gl X nm := by rfl) (hd : (nm == ("__debug__" : Str)) = false := by decide)
    (hpe : ∀ to te, PE X (.Name nm p2) to → PE X e te → PE X (.Call (.Attribute (.Name nm p2) "index" apos) [e] [] pos) (tBM X.K "tuple" (fun x xs H Q => ∃ p, ∃ ys : List Str, ∃ z j, x = .ref p ∧ xs = [.str z] ∧ SqT X.K H p (ys.map V.str) ∧ ys[j]? = some z ∧ (∀ m, m < j → ys[m]? ≠ some z) ∧ Q (.int (j : Nat)) H) to (tCons te tNil)) := by
      intro to te h1 h2; exact pe_bm PySem.F.plainAttrs_tuple PySem.F.slot_tuple_index PySem.F.type_tuple_index mt_tup_index h1 (pa_cons h2 pa_nil)) :
    CE C X ρ (.Call (.Attribute (.Name nm p2) "index" apos) [e] [] pos) iv x k := fun Qf => by
  obtain ⟨p, o, its, n, hm, hl, hc, hdn, hdt, hz, hv⟩ := h
  refine PE.imp (hpe _ _ (pe_glob (v := .ref p) hg hm rfl hd) (he Qf)) fun σ H Q ⟨G, J, g, st, w, q⟩ => ⟨.inr (.inl ⟨rfl, o, hl, hc, hdn⟩), G, J, g, st, w, fun v1 d1 H1 G1 J1 g1 af1 si1 r1 w1 => ?_⟩
  obtain ⟨j, e1, w2⟩ := of_need w1
  cases r1 with
  | str z =>
    have e1' : (idxS ys z).map (fun j => ((j : Nat) : Int)) = some j := e1
    cases q1 : idxS ys z with
    | none => rw [q1] at e1'; cases e1'
    | some i =>
      rw [q1] at e1'
      cases e1'
      obtain ⟨i1, i2⟩ := idxS_ok q1
      exact ⟨p, ys, z, i, rfl, rfl, .inr ⟨o, its, n, hl, hc, hdt, hz, hv⟩, i1, i2, q _ _ H1 G1 J1 g1 af1 si1 (.int _) w2⟩
  | _ => cases e1
end
/-! ### a, b, c = three things -/
section
variable {γ : Type} {m : Type → Type} [PM γ m] {α α2 α3 β δ τ ω : Type} {C : Cc γ} {X : Cx} {ρ : En} {rest : List Stmt} {out : ω → En} {outL : τ → En} {rk : δ → R} {x : m β} {kn : ω → m β} {kr : δ → m β} {kb kc : τ → m β}
theorem cs_asg3 {i j l : Nat} {n1 n2 n3 : Str} {e1 e2 e3 : Expr} {p1 p2 p3 pt pt2 pos : Pos} {kt k2} {r1 : α → R} {r2 : α2 → R} {r3 : α3 → R} {x2 : α → m β} {x3 : α → α2 → m β} {xr : α → α2 → α3 → m β}
    (hr : ∀ a b c, CS C X (((ρ.set i ((entO (r1 a)))).set j ((entO (r2 b)))).set l ((entO (r3 c)))) rest out outL rk (xr a b c) kn kr kb kc)
    (hd : ∀ a b, CE C X ρ e3 r3 (x3 a b) (xr a b)) (hb : ∀ a, CE C X ρ e2 r2 (x2 a) (x3 a)) (ha : CE C X ρ e1 r1 x x2)
    (hp1 : PG X (.Name n1 p1) (gName i)) (hp2 : PG X (.Name n2 p2) (gName j)) (hp3 : PG X (.Name n3 p3) (gName l)) (hc : X.calm = true := by rfl)
    (hs1 : starEach [e1, e2, e3] X.env = (false, eval e1 X.env) :: starEach [e2, e3] X.env := by rfl) (hs2 : starEach [e2, e3] X.env = (false, eval e2 X.env) :: starEach [e3] X.env := by rfl) (hs3 : starEach [e3] X.env = (false, eval e3 X.env) :: starEach [] X.env := by rfl)
    (hg1 : (assignEach [.Name n1 p1, .Name n2 p2, .Name n3 p3] X.env).map (·.2) = assign (.Name n1 p1) X.env :: (assignEach [.Name n2 p2, .Name n3 p3] X.env).map (·.2) := by rfl) (hg2 : (assignEach [.Name n2 p2, .Name n3 p3] X.env).map (·.2) = assign (.Name n2 p2) X.env :: (assignEach [.Name n3 p3] X.env).map (·.2) := by rfl)
    (hg3 : (assignEach [.Name n3 p3] X.env).map (·.2) = assign (.Name n3 p3) X.env :: (assignEach [] X.env).map (·.2) := by rfl)
    (hn : (assignEach [.Name n1 p1, .Name n2 p2, .Name n3 p3] X.env).length = 3 := by rfl) (hst : (assignEach [.Name n1 p1, .Name n2 p2, .Name n3 p3] X.env).findIdx? (·.1) = none := by rfl)
    (hps : ∀ te g, PE X (.Tuple [e1, e2, e3] k2 pt2) te → PG X (.Tuple [.Name n1 p1, .Name n2 p2, .Name n3 p3] kt pt) g → PS X (.Assign [.Tuple [.Name n1 p1, .Name n2 p2, .Name n3 p3] kt pt] (.Tuple [e1, e2, e3] k2 pt2) pos) (tAsg te g) := by intro te g he hg; exact ps_asg he hg) :
    CS C X ρ (.Assign [.Tuple [.Name n1 p1, .Name n2 p2, .Name n3 p3] kt pt] (.Tuple [e1, e2, e3] k2 pt2) pos :: rest) out outL rk x kn kr kb kc := fun Qf =>
  PSs.imp (pss_cons (hps _ _ (pe_tup (pa_cons (ha Qf) (pa_cons (PE.ex fun a => hb a Qf) (pa_cons (PE.ex fun p : α × α2 => hd p.1 p.2 Qf) pa_nil hs3) hs2) hs1)) (pg_tup hc (pgs_cons hp1 (pgs_cons hp2 (pgs_cons hp3 pgs_nil hg3) hg2) hg1) hn hst)) (PSs.ex fun q : α × α2 × α3 => hr q.1 q.2.1 q.2.2 Qf)) fun E σ H ⟨G, J, g, st, w, f⟩ =>
    ⟨G, J, g, st, w, fun v1 a H1 G1 J1 g1 af1 si1 rr1 w1 => ⟨a, G1, J1, g1, st.go af1 si1, w1, fun v2 b H2 G2 J2 g2 af2 si2 rr2 w2 =>
      ⟨(a, b), G2, J2, g2, (st.go af1 si1).go af2 si2, w2, fun v3 c H3 G3 J3 g3 af3 si3 rr3 w3 => by
      refine ⟨by have := sizeLine_eq; show 3 ≤ sizeLine; omega, fun p np => ?_⟩
      have n := New.own (o := .tup [v1, v2, v3]) af3.vis.sub np
      have st3 := (((st.setR (i := i) af1 si1 rr1).setR (i := j) af2 si2 rr2).setR (i := l) af3 si3 rr3).go (n.aft af3.vis) (SIx.nw si3 n)
      exact ⟨p, [v1, v2, v3], rfl, .inl (.inl upd_same), rfl, v1, [v2, v3], rfl, v2, [v3], rfl, v3, [], rfl, rfl, (a, b, c), G3, J3, g3, st3, w3, f.sub (((af1.trans af2).trans af3).trans (n.aft af3.vis)).gg⟩⟩⟩⟩
end
end Cl

set_option Elab.async false
set_option linter.all false
set_option maxRecDepth 100000
set_option maxHeartbeats 4000000
/-! the clean layer, part Y: own errors whose __init__ says super().__init__ -/
namespace PySem
namespace ErrX
open PySem.W PySem.Calls PyProof.Rows PySem.HandSPX

/-- the text of an __init__ of one field -/
structure Txt1 (st : Stmt) (y f : Str) : Prop where
  body : ∃ p0 p1 p2 p3 p4 p5 p6 p7 p8 p9 : Pos, L2.defBody st = [.Expr (.Call (.Attribute (.Call (.Name "super" p0) [] [] p1) "__init__" p2) [.Name y p3] [] p4) p5, .Assign [.Attribute (.Name "self" p6) f p7] (.Name y p8) p9] ∧ (p2.endLine == p4.line) = true
  args : ∃ ar : Arg, ((L2.defArgs st).posonlyargs ++ (L2.defArgs st).args).head? = some ar ∧ ar.arg = "self"
  nsup : (L2.defScope st).names.lookup ("super" : Str) = some .globalImplicit
  ncls : (L2.defScope st).names.lookup ("__class__" : Str) = some .free
  nslf : (L2.defScope st).names.lookup ("self" : Str) = some .local
  ny : (L2.defScope st).names.lookup y = some .local
  nocell : ∀ x ∈ (L2.defScope st).names, x.2 ≠ .cell
  kind : (L2.defScope st).kind = .function
  gen : (L2.defScope st).isGenerator = false
  co : (L2.defScope st).isCoroutine = false
  dbg : (y == ("__debug__" : Str)) = false
  ne : (("self" : Str) == y) = false
/-- the text of an __init__ of none -/
structure Txt0 (st : Stmt) : Prop where
  body : ∃ p0 p1 p2 p4 p5 : Pos, L2.defBody st = [.Expr (.Call (.Attribute (.Call (.Name "super" p0) [] [] p1) "__init__" p2) [] [] p4) p5] ∧ (p2.endLine == p4.line) = true
  args : ∃ ar : Arg, ((L2.defArgs st).posonlyargs ++ (L2.defArgs st).args).head? = some ar ∧ ar.arg = "self"
  nsup : (L2.defScope st).names.lookup ("super" : Str) = some .globalImplicit
  ncls : (L2.defScope st).names.lookup ("__class__" : Str) = some .free
  nslf : (L2.defScope st).names.lookup ("self" : Str) = some .local
  nocell : ∀ x ∈ (L2.defScope st).names, x.2 ≠ .cell
  kind : (L2.defScope st).kind = .function
  gen : (L2.defScope st).isGenerator = false
  co : (L2.defScope st).isCoroutine = false
/-- what the written part says of an own error's class at C and of its __init__, the def st with the parameters ps -/
structure ErrK (P : Program) (K : Frag) (C : Addr) (st : Stmt) (ps : List Str) : Prop where
  T : L2.OexC K C
  F : L2.XfC K C
  iC : ∃ fI cda cc : Addr, ∃ (qual : Str) (kV doc pm ct oc ccl cl : Value) (an od cdd cld : Option Addr) (osl ccs csl : Array (Option Value)) (vs : Array Value) (file : Str) (tf : Tok),
    findIn K (.ref C) "__init__" = some (some (.ref fI)) ∧ typeIn K (.ref fI) = some (.type "function") ∧
    K.lookup fI = some ⟨oc, od, .func (ksFn "__init__" qual (L2.defArgs st) (L2.defBody st) (L2.defScope st) .none kV doc pm an (.ref cda) ct cc), osl⟩ ∧ codeIn K (.ref cda) qual = true ∧
    K.lookup cda = some ⟨ccl, cdd, .fields vs, ccs⟩ ∧ vs[2]? = some (.str file tf) ∧ ((P.main.file : Str) == file) = true ∧
    K.lookup cc = some ⟨cl, cld, .cell (some (.ref C)), csl⟩ ∧
    ∀ us : List Value, us.length = ps.length → bindArgs (ksFn "__init__" qual (L2.defArgs st) (L2.defBody st) (L2.defScope st) .none kV doc pm an (.ref cda) ct cc) ⟨us, []⟩ = pure (ps.zip us)
  sup : ks_superIn K C C "__init__" = some (some (.builtin "ValueError.__init__"))
  subV : subIn K (.ref C) (.type "ValueError") = some true
  mro : mroIn K C (.ref C) = some true
  any : nsIn K cStatics "thirdparty.any" = some none
  top : (P.main.scope.names.lookup ("super" : Str)).isSome = false

theorem meth_eq {o : Expr} {name : Str} {p2 p4 : Pos} {es : List Expr} {env : Env} (hf : methodCallForm (es.length + ([] : List Keyword).length) (backTo p4 (starEach es env)) (backToKw p4 (keywordEach [] env)) = true) (hl : (p2.endLine == p4.line) = true) :
    eval (.Call (.Attribute o name p2) es [] p4) env = (do
      let ov ← attributeBase o name env (eval o env)
      standAt p2.atName
      let (f, first) ← holding [ov] (getMethod ov name (do return (← importBound o env).getD true))
      callWith p4 f first (backTo p4 (starEach es env)) []) := by
  rw [PySem.arm_eval_Call]
  unfold methodCall
  rw [hf]
  unfold methodCallPos
  rw [show (!true || p2.endLine == p4.line) = true by rw [hl]; rfl, if_pos rfl]
  rfl
/-- what stands behind super().__init__(..): all but the object at x is kept, and this one has no dict still -/
structure InitS (h h' : Heap) (x C : Addr) : Prop where
  keep : ∀ b o, b ≠ x → h.get? b = some o → h'.get? b = some o
  obj : ∃ t, h'.get? x = some (excO C t)
section
variable {prog : Program} {w : World} {A : Around} {E : Value → Shared → Prop} {R : Result → Shared → Prop} {s : Shared} {K : Frag} {mg mb : Str → Option Value} {C : Addr}
theorem lkC {M : Model} {env : Env} {m : Str → Option Value} {x : Str} {pos : Pos} {v : Value} {Q : Value → Shared → Prop} (hk : env.scope.kind = .function) (hl : env.kindOf x = some .local) (hn : s.heap.Ns env.locals m) (hv : m x = some v) (h : Q v s)
    (hd : (x == ("__debug__" : Str)) = false) : wpAny M A (eval (.Name x pos) env) Q E s := wpAny_Name (wpAny_loadName_local hk hl hn hv h) hd
/-- super().__init__(es), the values vs -/
theorem super_stmt {st : Stmt} {ps : List Str} {fI cda cc x t0 L : Addr} {qual : Str} {fd : FuncData} {oc ccl cl : Value} {od cdd cld : Option Addr} {osl ccs csl : Array (Option Value)} {fv : Array Value} {file : Str} {tf : Tok} {ar : Arg} {body : List Stmt} {scope : Scope} {m : Str → Option Value}
    {p0 p1 p2 p4 p5 : Pos} {es : List Expr} {vs : List Value} {Q : Flow → Shared → Prop} {pl : Sem Bool}
    (X : K.In s.heap) (hg : s.heap.Ns mainGlobals mg) (hgs : mg "super" = none) (hb : s.heap.Ns builtinsNs mb) (hbs : mb "super" = some (.type "super")) (T : L2.OexC K C)
    (lf : K.lookup fI = some ⟨oc, od, .func fd, osl⟩) (har : (fd.params.posonlyargs ++ fd.params.args).head? = some ar) (har2 : ar.arg = "self")
    (lc : K.lookup cda = some ⟨ccl, cdd, .fields fv, ccs⟩) (hfv : fv[2]? = some (.str file tf)) (hfile : ((prog.main.file : Str) == file) = true) (lcc : K.lookup cc = some ⟨cl, cld, .cell (some (.ref C)), csl⟩)
    (sup : ks_superIn K C C "__init__" = some (some (.builtin "ValueError.__init__"))) (subV : subIn K (.ref C) (.type "ValueError") = some true) (mro : mroIn K C (.ref C) = some true) (any : nsIn K cStatics "thirdparty.any" = some none) (top : (prog.main.scope.names.lookup ("super" : Str)).isSome = false)
    (ks : scope.names.lookup ("super" : Str) = some .globalImplicit) (kc : scope.names.lookup ("__class__" : Str) = some .free) (ksf : scope.names.lookup ("self" : Str) = some .local) (kk : scope.kind = .function)
    (hn : s.heap.Ns L m) (hm : m "self" = some (.ref x)) (hx : s.heap.get? x = some (excO C t0)) (hxL : x ≠ L)
    (hes : ∀ {u : Addr} {h' : Heap} {t' : Nat} {Q : Args → Shared → Prop}, (∀ b o, s.heap.get? b = some o → h'.get? b = some o) → Q ⟨vs, []⟩ { s with heap := h', toks := t' } → wpAny (model prog w) A (evalArgs (.ref u) true (backTo p4 (starEach es (ksEnv qual scope L fI (.ref cda) cc))) []) Q E { s with heap := h', toks := t' })
    (hpl : (backTo p4 (starEach es (ksEnv qual scope L fI (.ref cda) cc))).any (·.1) = false) (hvs : vs.length ≤ sizeLine)
    (he : eval (.Call (.Attribute (.Call (.Name "super" p0) [] [] p1) "__init__" p2) es [] p4) (ksEnv qual scope L fI (.ref cda) cc) = (do
      let ov ← attributeBase (.Call (.Name "super" p0) [] [] p1) "__init__" (ksEnv qual scope L fI (.ref cda) cc) (eval (.Call (.Name "super" p0) [] [] p1) (ksEnv qual scope L fI (.ref cda) cc))
      standAt p2.atName
      let (f, first) ← holding [ov] (getMethod ov "__init__" pl)
      callWith p4 f first (backTo p4 (starEach es (ksEnv qual scope L fI (.ref cda) cc))) []))
    (hq : ∀ h' tk, InitS s.heap h' x C → Q .next { s with heap := h', toks := tk }) :
    wpAt (model prog w) A (.func body (ksEnv qual scope L fI (.ref cda) cc)) (exec (.Expr (.Call (.Attribute (.Call (.Name "super" p0) [] [] p1) "__init__" p2) es [] p4) p5) (ksEnv qual scope L fI (.ref cda) cc)) Q E s := by
  have hsw : swapsWith (.Call (.Attribute (.Call (.Name "super" p0) [] [] p1) "__init__" p2) es [] p4) none p5.line (ksEnv qual scope L fI (.ref cda) cc) = pure false := rfl
  obtain ⟨nm, q, N, bs, bm, sn, sub, ab, col, dd, k0, k1, k2, k3, k5, hC, hbm⟩ := T.cls
  have hcl : clsIn K C = some { name := nm, bases := bs, mro := .ref C :: bm, ns := N, qualname := q, hasDict := true, slotNames := sn, subclasses := sub, abstract := ab, collection := col, hasDel := false } := by unfold clsIn; rw [hC] <;> rfl
  have hCo := X _ _ hC
  refine ks_wpAt_Expr_any ?_ (by unfold interactive; first | rfl | (simp [kk]) | (simp [kk]; rfl)) hsw
  refine ks_wpAt_MethodCall (pl := pl) ?_ he
  refine ks_wpAt_super_base (env := ksEnv qual scope L fI (.ref cda) cc) ks kc rfl rfl (X _ _ lf) rfl har rfl (X _ _ lc) rfl hfv hfile top ?_
  refine ks_loadName_global kk ks (loadGlobal_builtin (env := ksEnv qual scope L fI (.ref cda) cc) hg hgs hb hbs ⟨rfl, ?_⟩)
  refine wpAny_loadName_free kk kc rfl ⟨_, X _ _ lcc, rfl⟩ ?_
  rw [har2]
  refine wpAny_loadName_local kk ksf hn hm ?_
  refine ks_wpAny_isType_cls hCo rfl ⟨rfl, ?_⟩
  obtain ⟨hh, g, d, t, os⟩ := s
  have I : InstAt hh x (excO C t0) C none := ⟨hx, rfl, rfl, trivial⟩
  have xC : x ≠ C := ks_ne X I hcl
  refine ks_wpAny_call_super hCo rfl hx rfl (fun c e => by cases e) (looks_mroIn X mro) (fun h1 e1 k1 => ?_)
  have X1 : K.In h1 := X.keeps k1
  have I1 : InstAt h1 x (excO C t0) C none := ⟨k1 _ _ hx, rfl, rfl, trivial⟩
  have L1 : Looks (model prog w) h1 (mroOf (.ref C)) (.ref C :: bm) := (looks_clsIn X1 hcl).andThen .now
  have s1 : alongIn K "__init__" (((Value.ref C :: bm).dropWhile (· != .ref C)).drop 1) = some (some (.builtin "ValueError.__init__")) := by
    unfold ks_superIn at sup
    rw [hcl] at sup
    exact sup
  have L2 : Looks (model prog w) h1 (isInstance (.ref x) (.type "ValueError")) true := I1.type.andThen (looks_subIn X1 subV)
  refine kxs_getMethod kxs_ValueError e1 (looks_opaque X1 any) L1 rfl X1 s1 L2 xC rfl ?_
  have eu : (h1.push (kxs_mw "ValueError.__init__" x)).get? h1.objs.size = some (kxs_mw "ValueError.__init__" x) := Heap.get?_push_at rfl rfl
  have k2 : ∀ b o, hh.get? b = some o → (h1.push (kxs_mw "ValueError.__init__" x)).get? b = some o := fun b o e => Heap.get?_push_of_some _ (k1 b o e)
  refine kxs_callWith (i := "ValueError.__init__") (x := x) hpl (hes k2 ⟨eu, ?_⟩)
  show wpAny _ _ (call (.ref h1.objs.size) vs) _ _ _
  refine wpAny_call (codeAny_of_tree ?_)
  show wpAny _ A.in1 (callAny (.ref h1.objs.size) ⟨vs, []⟩) _ _ _
  simp only [callAny]
  refine wpAny_bind (wpAny_load eu ?_)
  simp only [kxs_mw, show (Value.type "method-wrapper" == Value.type "method" || Value.type "method-wrapper" == Value.type "builtin_function_or_method" || Value.type "method-wrapper" == Value.type "method-wrapper") = true by decide, if_true]
  refine KFB.if_so (by decide) ?_
  refine wpAny_bind (check_bound_init F.excBase_ValueError.toExcCallFacts (k2 _ _ hCo) (k2 _ _ hx) rfl ?_)
  refine wpAny_bind (wpAny_pure (wpAny_pure ?_))
  refine ⟨plainId_quiet F.excBase_ValueError.init.plain _, codeAny_builtin F.excBase_ValueError.initEntry ?_⟩
  refine exc_init_tree (cls := .ref C) (t0 := t0) (dv := none) (c2 := .none) (c3 := .none) (b4 := .bool false) (k2 _ _ hx) hvs fun h' kk' e' t' => ?_
  exact hq h' _ ⟨fun b o hb e => kk' b o hb (k2 b o e), _, e'⟩
/-- a made one with a field -/
structure Made1 (h h' : Heap) (e C d : Addr) (f : Str) (v : Value) : Prop where
  keep : ∀ b o, h.get? b = some o → h'.get? b = some o
  new : h.objs.size ≤ e
  obj : ∃ oe vs, h'.get? e = some oe ∧ oe.cls = .ref C ∧ oe.dict = some d ∧ oe.data = .fields vs ∧ vs[1]? = some .none
  dbig : h.objs.size ≤ d
  dne : d ≠ e
  ns : h'.Ns1 d (fun y => if y = f then some v else none)
/-- .. without -/
structure Made0 (h h' : Heap) (e C : Addr) : Prop where
  keep : ∀ b o, h.get? b = some o → h'.get? b = some o
  new : h.objs.size ≤ e
  obj : ∃ oe vs, h'.get? e = some oe ∧ oe.cls = .ref C ∧ oe.dict = none ∧ oe.data = .fields vs ∧ vs[1]? = some .none
theorem sz1 (v : Value) : [v].length ≤ sizeLine := by
  rw [sizeLine_eq]
  exact (by decide : 1 ≤ 16777216)
theorem sz0 : ([] : List Value).length ≤ sizeLine := Nat.zero_le _
theorem made1 {st : Stmt} {y f : Str} {v : Value} (T1 : Txt1 st y f) (EK : ErrK prog K C st ["self", y]) (noN : findIn K (.ref C) f = some none) (X : K.In s.heap) (hg : s.heap.Ns mainGlobals mg) (hgs : mg "super" = none) (hb : s.heap.Ns builtinsNs mb) (hbs : mb "super" = some (.type "super"))
    (hlim : s.heap.NoLimit) (hroom : A.depth + 1 < recursionLimit) (hq : ∀ h' tk e d, Made1 s.heap h' e C d f v → R (.ok (.ret (.ref e))) { s with heap := h', toks := tk }) :
    codeAny (model prog w) A (.call (.ref C) ⟨[v], []⟩) R s := by
  obtain ⟨fI, cda, cc, qual, kV, doc, pm, ct, oc, ccl, cl, an, od, cdd, cld, osl, ccs, csl, fv, file, tf, hi, ti, lf, hcd, lc, hfv, hfile, lcc, hbind⟩ := EK.iC
  obtain ⟨nm, q, N, bs, bm, sn, sub, ab, col, dd, k0, k1, k2, k3, k5, hC, hbm⟩ := EK.T.cls
  have hcl : clsIn K C = some { name := nm, bases := bs, mro := .ref C :: bm, ns := N, qualname := q, hasDict := true, slotNames := sn, subclasses := sub, abstract := ab, collection := col, hasDel := false } := by unfold clsIn; rw [hC] <;> rfl
  obtain ⟨p0, p1, p2, p3, p4, p5, p6, p7, p8, p9, hbody, hline⟩ := T1.body
  obtain ⟨ar, har, har2⟩ := T1.args
  obtain ⟨hp, g, dr, tk, os⟩ := s
  have k : ∀ b o, hp.get? b = some o → ((hp.push (kdv_tup [v])).push (excO C hp.objs.size)).get? b = some o := fun b o e => Heap.get?_push_of_some _ (Heap.get?_push_of_some _ e)
  have hget : ((hp.push (kdv_tup [v])).push (excO C hp.objs.size)).get? (hp.objs.size + 1) = some (excO C hp.objs.size) := by heap_get
  refine call_own F.excBase_ValueError (fun X => refsVE_contains X bm hbm) (X _ _ hC) (looks_findIn X hi) (fun self => bind_fn X self ti) (sz1 v) ?_
  have X0 := X.keeps k
  have g0 := hg.keeps k
  have b0 := hb.keeps k
  have lim0 := hlim.keeps k
  generalize hhp : (hp.push (kdv_tup [v])).push (excO C hp.objs.size) = hp0 at k hget X0 g0 b0 lim0 ⊢
  have hsz : hp0.objs.size = hp.objs.size + 2 := by rw [← hhp, Heap.size_push, Heap.size_push]
  generalize hx : hp.objs.size + 1 = x at hget ⊢
  refine ks_codeAny_call_defAt (fd := ksFn "__init__" qual (L2.defArgs st) (L2.defBody st) (L2.defScope st) .none kV doc pm an (.ref cda) ct cc) (body := L2.defBody st) (binds := [("self", .ref x), (y, v)]) hroom (X0 _ _ lf) rfl lim0 (codeRec_of X0 hcd) rfl (.of_eq (hbind [_, _] rfl)) T1.nocell (fun z hz => ?_) (fun h1 hns k1 => ?_) T1.co T1.gen T1.kind
  · rcases List.mem_cons.mp hz with e | hz
    · rw [e]; exact T1.nslf
    · rcases List.mem_cons.mp hz with e | hz
      · rw [e]; exact T1.ny
      · cases hz
  have hself : ([(("self" : Str), Value.ref x), (y, v)].reverse.lookup ("self" : Str)) = some (.ref x) := by
    have q := T1.ne
    simp [List.lookup, q]
  have hy : ([(("self" : Str), Value.ref x), (y, v)].reverse.lookup y) = some v := by simp [List.lookup]
  generalize hm : (fun z => [(("self" : Str), Value.ref x), (y, v)].reverse.lookup z) = m at hns
  have hself : m "self" = some (.ref x) := by rw [← hm]; exact hself
  have hy : m y = some v := by rw [← hm]; exact hy
  generalize hL : hp0.objs.size = L at hns ⊢
  have hxL : x ≠ L := by rw [← hL, ← hx, hsz]; omega
  rw [hbody]
  show wpAt (model prog w) _ (.func _ (ksEnv qual (L2.defScope st) L fI (.ref cda) cc)) (execs _ (ksEnv qual (L2.defScope st) L fI (.ref cda) cc)) _ _ _
  refine ks_wpAt_execs_cons (super_stmt (s := ⟨h1, g, dr, _, os⟩) (st := st) (ps := []) (vs := [v]) (m := m) (X0.keeps k1) (g0.keeps k1) hgs (b0.keeps k1) hbs EK.T lf har har2 lc hfv hfile lcc EK.sup EK.subV EK.mro EK.any EK.top T1.nsup T1.ncls T1.nslf T1.kind hns hself (k1 _ _ hget) hxL
    (fun {u h' t' Q'} kk hQ => ?_) rfl (sz1 v) (meth_eq rfl hline) fun h2 tk2 I2 => ?_)
  · refine evalArgs_plain (x := eval (.Name y p3) (ksEnv qual (L2.defScope st) L fI (.ref cda) cc)) (spliced_cons (lkC T1.kind T1.ny (hns.keeps kk) hy (spliced_nil hQ) T1.dbg))
  · obtain ⟨k2, t2, hx2⟩ := I2
    have X1 := X0.keeps k1
    have hCx : x ≠ C := ks_ne (ox := excO C hp.objs.size) (odx := none) X0 ⟨hget, rfl, rfl, trivial⟩ hcl
    have nKx : ∀ b o, K.lookup b = some o → b ≠ x := fun b o e z => by
      have y1 := X _ _ e
      rw [z, ← hx] at y1
      have y2 := Heap.lt_size y1
      exact absurd (Nat.lt_of_succ_lt y2) (Nat.lt_irrefl _)
    have X2 : K.In h2 := fun b o e => k2 b o (nKx b o e) (X1 _ _ e)
    obtain ⟨oL, es, ep, eL, rL⟩ := id hns
    have hns2 : h2.Ns L m := ⟨oL, es, ep, k2 _ _ (Ne.symm hxL) eL, rL⟩
    refine ks_wpAt_execs_cons (ks_wpAt_Assign_Attr (wpAt_of_wpAny (lkC T1.kind T1.ny hns2 hy (lkC T1.kind T1.nslf hns2 hself ?_ rfl) T1.dbg)) rfl)
    refine set_plain X2 (ox := excO C t2) (od := none) ⟨hx2, rfl, rfl, trivial⟩ EK.T.sa ?_
    refine exc_osa X2 hx2 hcl (show refsVE (.ref C :: bm) = true from hbm) rfl noN (fun h3 tk3 dx k3 dn dne hx3 hn3 => ?_)
    refine wpAt_of_wpAny (wpAny_execs_nil ?_)
    have dn : h2.objs.size ≤ dx := dn
    have lt1 : hp.objs.size ≤ dx := by
      have a1 : L < h1.objs.size := Heap.lt_size eL
      have a2 : L < h2.objs.size := Heap.lt_size (k2 _ _ (Ne.symm hxL) eL)
      have a3 : hp.objs.size + 2 = L := by rw [← hL, hsz]
      omega
    have old : ∀ b o, hp.get? b = some o → h3.get? b = some o := fun b o e => by
      have nb : b ≠ x := fun z => by
        have y2 := Heap.lt_size e
        rw [z, ← hx] at y2
        exact absurd (Nat.lt_of_succ_lt y2) (Nat.lt_irrefl _)
      exact k3 b o nb (k2 b o nb (k1 b o (k b o e)))
    exact ⟨rfl, hq h3 tk3 x dx ⟨old, by show hp.objs.size ≤ x; omega, ⟨_, _, hx3, rfl, rfl, rfl, rfl⟩, lt1, dne, hn3⟩⟩
theorem made0 {st : Stmt} (T1 : Txt0 st) (EK : ErrK prog K C st ["self"]) (X : K.In s.heap) (hg : s.heap.Ns mainGlobals mg) (hgs : mg "super" = none) (hb : s.heap.Ns builtinsNs mb) (hbs : mb "super" = some (.type "super"))
    (hlim : s.heap.NoLimit) (hroom : A.depth + 1 < recursionLimit) (hq : ∀ h' tk e, Made0 s.heap h' e C → R (.ok (.ret (.ref e))) { s with heap := h', toks := tk }) :
    codeAny (model prog w) A (.call (.ref C) ⟨[], []⟩) R s := by
  obtain ⟨fI, cda, cc, qual, kV, doc, pm, ct, oc, ccl, cl, an, od, cdd, cld, osl, ccs, csl, fv, file, tf, hi, ti, lf, hcd, lc, hfv, hfile, lcc, hbind⟩ := EK.iC
  obtain ⟨nm, q, N, bs, bm, sn, sub, ab, col, dd, k0, k1, k2, k3, k5, hC, hbm⟩ := EK.T.cls
  have hcl : clsIn K C = some { name := nm, bases := bs, mro := .ref C :: bm, ns := N, qualname := q, hasDict := true, slotNames := sn, subclasses := sub, abstract := ab, collection := col, hasDel := false } := by unfold clsIn; rw [hC] <;> rfl
  obtain ⟨p0, p1, p2, p4, p5, hbody, hline⟩ := T1.body
  obtain ⟨ar, har, har2⟩ := T1.args
  obtain ⟨hp, g, dr, tk, os⟩ := s
  have k : ∀ b o, hp.get? b = some o → ((hp.push (kdv_tup [])).push (excO C hp.objs.size)).get? b = some o := fun b o e => Heap.get?_push_of_some _ (Heap.get?_push_of_some _ e)
  have hget : ((hp.push (kdv_tup [])).push (excO C hp.objs.size)).get? (hp.objs.size + 1) = some (excO C hp.objs.size) := by heap_get
  refine call_own F.excBase_ValueError (fun X => refsVE_contains X bm hbm) (X _ _ hC) (looks_findIn X hi) (fun self => bind_fn X self ti) sz0 ?_
  have X0 := X.keeps k
  have g0 := hg.keeps k
  have b0 := hb.keeps k
  have lim0 := hlim.keeps k
  generalize hhp : (hp.push (kdv_tup [])).push (excO C hp.objs.size) = hp0 at k hget X0 g0 b0 lim0 ⊢
  have hsz : hp0.objs.size = hp.objs.size + 2 := by rw [← hhp, Heap.size_push, Heap.size_push]
  generalize hx : hp.objs.size + 1 = x at hget ⊢
  refine ks_codeAny_call_defAt (fd := ksFn "__init__" qual (L2.defArgs st) (L2.defBody st) (L2.defScope st) .none kV doc pm an (.ref cda) ct cc) (body := L2.defBody st) (binds := [("self", .ref x)]) hroom (X0 _ _ lf) rfl lim0 (codeRec_of X0 hcd) rfl (.of_eq (hbind [_] rfl)) T1.nocell (fun z hz => ?_) (fun h1 hns k1 => ?_) T1.co T1.gen T1.kind
  · rcases List.mem_cons.mp hz with e | hz
    · rw [e]; exact T1.nslf
    · cases hz
  have hself : ([(("self" : Str), Value.ref x)].reverse.lookup ("self" : Str)) = some (.ref x) := by simp [List.lookup]
  generalize hm : (fun z => [(("self" : Str), Value.ref x)].reverse.lookup z) = m at hns
  have hself : m "self" = some (.ref x) := by rw [← hm]; exact hself
  generalize hL : hp0.objs.size = L at hns ⊢
  have hxL : x ≠ L := by rw [← hL, ← hx, hsz]; omega
  rw [hbody]
  show wpAt (model prog w) _ (.func _ (ksEnv qual (L2.defScope st) L fI (.ref cda) cc)) (execs _ (ksEnv qual (L2.defScope st) L fI (.ref cda) cc)) _ _ _
  refine ks_wpAt_execs_cons (super_stmt (s := ⟨h1, g, dr, _, os⟩) (st := st) (ps := []) (vs := []) (m := m) (X0.keeps k1) (g0.keeps k1) hgs (b0.keeps k1) hbs EK.T lf har har2 lc hfv hfile lcc EK.sup EK.subV EK.mro EK.any EK.top T1.nsup T1.ncls T1.nslf T1.kind hns hself (k1 _ _ hget) hxL
    (fun {u h' t' Q'} kk hQ => ?_) rfl sz0 (meth_eq rfl hline) fun h2 tk2 I2 => ?_)
  · exact evalArgs_empty hQ
  · obtain ⟨k2, t2, hx2⟩ := I2
    refine wpAt_of_wpAny (wpAny_execs_nil ?_)
    have old : ∀ b o, hp.get? b = some o → h2.get? b = some o := fun b o e => by
      have nb : b ≠ x := fun z => by
        have y2 := Heap.lt_size e
        rw [z, ← hx] at y2
        exact absurd (Nat.lt_of_succ_lt y2) (Nat.lt_irrefl _)
      exact k2 b o nb (k1 b o (k b o e))
    exact ⟨rfl, hq h2 _ x ⟨old, by show hp.objs.size ≤ x; omega, ⟨_, _, hx2, rfl, rfl, rfl, rfl⟩⟩⟩
end
end ErrX
end PySem
namespace L2
open PySem PySem.Spec PyProof.Rows
theorem relO_one {f : Str} {v : V} {v' : Value} (r : RelV v v') (g : Str) : RelO (List.lookup g [(f, v)]) (if g = f then some v' else none) := by
  by_cases hw : g = f
  · subst hw
    rw [if_pos rfl]
    have q : List.lookup g [(g, v)] = some v := by simp [List.lookup]
    rw [q]
    exact r
  · rw [if_neg hw]
    have qw : (g == f) = false := by simpa using hw
    have q2 : List.lookup g [(f, v)] = none := by simp [List.lookup, qw]
    rw [q2]
    trivial
section
variable {X : Cx} {C : Addr}
/-- X(e), an own error of one field -/
def tMk1 (C : Addr) (f : Str) (ta : TE) : St → Hp → XK → Prop := fun σ H Q => ta σ H fun v H1 => ∀ d, H1 d = none → Q (.ref C) (some d) (upd H1 d (.xd [(f, v)]))
theorem pmk_err1 {st : Stmt} {y f x : Str} {a : Expr} {ta : TE} {p pos : Pos} {k : Nat} (T1 : PySem.ErrX.Txt1 st y f) (EK : PySem.ErrX.ErrK X.prog X.K C st ["self", y]) (noN : PySem.W.findIn X.K (.ref C) f = some none) (gC : X.mg x = some (.ref C)) (gS : X.mg "super" = none) (hr : Room k X.A) (ha : PE X a ta) (hg : Gl X x)
    (hs : starEach [a] X.env = (false, eval a X.env) :: starEach [] X.env) (hdb : (x == ("__debug__" : Str)) = false) :
    PMk X (.Call (.Name x p) [a] [] pos) (tMk1 C f ta) := by
  intro pins s σ H Q I h
  refine wpAny_Call_Name_kw (ld_glob I hg gC ?_ hdb)
  refine PySem.W.callWith_K (h₀ := X.base) I.ok.mod.kin EK.T.kC ?_ hs (by rfl)
  rw [hs]
  show wpAny _ _ (spliced ((false, eval a X.env) :: backTo pos (starEach [] X.env))) _ _ s
  refine Calls.spliced_cons (thn (ha.run pins s σ H _ I h) fun u s1 ⟨v, H1, I1, rv, q1⟩ => ?_)
  refine Calls.spliced_nil ⟨I1.kIn, ?_⟩
  show wpAny _ _ (call (.ref C) [u]) _ _ _
  have hlim := I1.nolimit
  obtain ⟨mb, b1, b2⟩ := I1.mod.blt
  have gb := I1.mod.glob.keeps I1.bk
  have bb := b1.keeps I1.bk
  have bs := (b2 "super" (by decide)).trans (show bootBuiltins "super" = some (.type "super") by decide +kernel)
  obtain ⟨hp, g, dr, tk, os⟩ := s1
  refine wpAny_call (PySem.ErrX.made1 T1 EK noN I1.kIn gb gS bb bs hlim (by have := hr.dp; omega) fun h' tk' e d M => ?_)
  show MkP X pins σ Q (.ref e) ⟨h', g, dr, tk', os⟩
  obtain ⟨oe, fv, hoe, hc, hd, hdat, h1⟩ := M.obj
  have hns := M.ns
  obtain ⟨G', g1, g2⟩ := restrict h' fun b => decide (b ≠ e)
  have gk : ∀ b, b ≠ e → G'.get? b = h'.get? b := fun b hb => g1 b (decide_eq_true hb)
  have ge : G'.get? e = none := g2 e (by simp)
  have old : ∀ b o, hp.get? b = some o → G'.get? b = some o := fun b o q => (gk b (Nat.ne_of_lt (Nat.lt_of_lt_of_le (Heap.lt_size q) M.new))).trans (M.keep b o q)
  have ob : ObjOk X.prog X.w (upd H1 d (.xd [(f, v)])) G' d (.xd [(f, v)]) := ⟨_, hns.at (fun o q => (gk d M.dne).trans q), fun g => relO_one rv g⟩
  have J : Inv X pins σ (upd H1 d (.xd [(f, v)])) ⟨G', g, dr, tk', os⟩ := I1.laid (t' := tk') old M.dbig ob
  refine ⟨e, oe, fv, ⟨G', g, dr, tk', os⟩, _, .ref C, some d, rfl, J, fun b o q => ?_, ge, hoe, ⟨hc, hd⟩, hdat, h1, ?_, rfl, I1.bare, raises_own EK.T.exC EK.T.tyC, q1 d (I1.hok.fresh M.dbig)⟩
  · by_cases hb : b = e
    · have q' : G'.get? b = some o := q
      rw [hb, ge] at q'; cases q'
    · exact (gk b hb).symm.trans q
  · rw [upd_ne (Ne.symm M.dne)]
    exact I1.hok.fresh M.new
/-- X(), of none -/
theorem pmk_err0 {st : Stmt} {x : Str} {p pos : Pos} {k : Nat} (T1 : PySem.ErrX.Txt0 st) (EK : PySem.ErrX.ErrK X.prog X.K C st ["self"]) (gC : X.mg x = some (.ref C)) (gS : X.mg "super" = none) (hr : Room k X.A) (hg : Gl X x) (hdb : (x == ("__debug__" : Str)) = false) :
    PMk X (.Call (.Name x p) [] [] pos) (fun _ H Q => Q (.ref C) none H) := by
  intro pins s σ H Q I h
  refine wpAny_Call_Name_kw (ld_glob I hg gC ?_ hdb)
  refine PySem.W.callWith_K0 I.kIn EK.T.kC ?_
  have hlim := I.nolimit
  obtain ⟨mb, b1, b2⟩ := I.mod.blt
  have gb := I.mod.glob.keeps I.bk
  have bb := b1.keeps I.bk
  have bs := (b2 "super" (by decide)).trans (show bootBuiltins "super" = some (.type "super") by decide +kernel)
  obtain ⟨hp, g, dr, tk, os⟩ := s
  refine wpAny_call (PySem.ErrX.made0 T1 EK I.kIn gb gS bb bs hlim (by have := hr.dp; omega) fun h' tk' e M => ?_)
  show MkP X pins σ Q (.ref e) ⟨h', g, dr, tk', os⟩
  obtain ⟨oe, fv, hoe, hc, hd, hdat, h1⟩ := M.obj
  obtain ⟨G', g1, g2⟩ := restrict h' fun b => decide (b ≠ e)
  have gk : ∀ b, b ≠ e → G'.get? b = h'.get? b := fun b hb => g1 b (decide_eq_true hb)
  have ge : G'.get? e = none := g2 e (by simp)
  have old : ∀ b o, hp.get? b = some o → G'.get? b = some o := fun b o q => (gk b (Nat.ne_of_lt (Nat.lt_of_lt_of_le (Heap.lt_size q) M.new))).trans (M.keep b o q)
  have J : Inv X pins σ H ⟨G', g, dr, tk', os⟩ := I.kept (t' := tk') old
  refine ⟨e, oe, fv, ⟨G', g, dr, tk', os⟩, _, .ref C, none, rfl, J, fun b o q => ?_, ge, hoe, ⟨hc, hd⟩, hdat, h1, I.hok.fresh M.new, rfl, I.bare, raises_own EK.T.exC EK.T.tyC, h⟩
  by_cases hb : b = e
  · have q' : G'.get? b = some o := q
    rw [hb, ge] at q'; cases q'
  · exact (gk b hb).symm.trans q
end
end L2

set_option Elab.async false
set_option linter.all false
set_option maxRecDepth 100000
set_option maxHeartbeats 4000000
/-! the clean layer, part Z: raise, try .. except X as n, calls that may raise -/
namespace PySem.ErrX
open PySem PySem.W PySem.Spec PySem.Calls PyProof.Rows
section
variable {prog : Program} {w : World} {A : Around} {E : Value → Shared → Prop} {s : Shared} {K : Frag} {x D : Addr} {ox : Obj} {od : Option Obj}
theorem data_find {C : Addr} {name : Str} {a g : Value} (hc : (clsIn K C).isSome = true) (ha : findIn K (.ref C) name = some (some a)) (hg : specialIn K a "__get__" = some (some g)) (ht : takesIn K a = some true) : findObj K C od name = some (.bind g a) := by
  obtain ⟨cd, hc⟩ := Option.isSome_iff_exists.mp hc
  unfold findObj
  rw [hc, Option.bind_some, ha, Option.bind_some]
  simp [hg, ht]
/-- e.__class__ of a caught error, whatever its dict -/
theorem cls_of {Q : Option Value → Shared → Prop} (T : L2.ExcC K D) (X : K.In s.heap) (I : InstAt s.heap x ox D od) (h : Q (some (.ref D)) { s with toks := s.toks + 1 }) : wpAny (model prog w) A (getAttr? (.ref x) "__class__") Q E s := by
  have hf : findObj K D od "__class__" = some (.bind (.builtin "getset_descriptor.__get__") (.builtin "object.__class__")) := data_find (by obtain ⟨cd, hc, _⟩ := any_some T.hd; rw [hc]; rfl) T.ha T.hn T.ht
  obtain ⟨hp, g, d, t, os⟩ := s
  have L0 := I.type (M := model prog w)
  have L1 := looks_findIn (M := model prog w) X T.hg
  have L2 := looks_findIn (M := model prog w) X T.hk
  have L3 := looks_find (M := model prog w) X I hf
  have sub : Looks (model prog w) hp (isInstance (.ref x) (.type "BaseException")) true := L0.andThen (looks_subIn X T.hs)
  have hx0 : (false && onTheHeap (Value.builtin "BaseException.__getattribute__")) = false := rfl
  have hx2 : (Value.builtin "BaseException.__getattribute__" == Value.builtin "object.__getattribute__") = false := by decide +kernel
  have hx1 : (onTheHeap (Value.ref D) && Value.builtin "BaseException.__getattribute__" == Value.builtin "object.__getattribute__") = false := by rw [hx2]; rfl
  unfold getAttr? getAttrBy? getAttrBy
  refine wpAny_bind (wpAny_mkText (wpAny_bind (wpAny_attempt (wpAny_holding (wpAny_bind (L0.at (wpAny_bind (L1.at ?_))))))))
  show wpAny _ _ (if (onTheHeap (Value.ref D) && Value.builtin "BaseException.__getattribute__" == Value.builtin "object.__getattribute__") = true then _ else _) _ _ _
  rw [hx1, if_neg Bool.false_ne_true]
  unfold getAttrByItsOwn hookBefore
  refine wpAny_bind ?_
  rw [if_pos (show onTheHeap (Value.ref D) = true from rfl)]
  refine L2.at ?_
  refine wpAny_bind (wpAny_attempt (wpAny_holding ?_))
  unfold callGetattribute
  rw [hx0, if_neg Bool.false_ne_true]
  unfold boundAndCalled
  rw [PySem.F.excAttr_ValueError.ga.bind (.ref x)]
  refine wpAny_bind (wpAny_pure ?_)
  show wpAny _ _ (call (.builtin "BaseException.__getattribute__") [.ref x, .str "__class__" t]) _ _ _
  refine wpAny_call (codeAny_call_builtin PySem.F.excAttr_ValueError.ga.plain PySem.F.entry_bexc_ga ?_)
  refine @check_slot (model prog w) _ _ ⟨hp, g, d, t + 1, os⟩ "BaseException.__getattribute__" "BaseException" "__getattribute__" (.ref x) [.str "__class__" t] [] _ (by decide +kernel) (by decide +kernel) sub (PySem.F.args_bexc_ga (.ref x) (.str "__class__" t)) ?_
  unfold Builtin.«object.__getattribute__»
  refine wpAny_bind (wpAny_of_eq (a := ((Value.ref x : Value), [Value.str "__class__" t])) (by first | rfl | (simp only [slotArgs]; rfl)) ?_)
  refine wpAny_bind (wpAny_pure (wpAny_bind (L0.at (wpAny_bind (L3.at ?_)))))
  show wpAny _ _ (holding [Value.builtin "object.__class__"] (call (.builtin "getset_descriptor.__get__") [.builtin "object.__class__", .ref x, .ref D]) >>= ret) _ _ _
  refine wpAny_bind (wpAny_holding (wpAny_call (class_get (s := ⟨hp, g, d, t + 1, os⟩) (ox := ox) (od := od) X I T.hm ?_)))
  refine wpAny_pure ?_
  show wpAny _ _ (handedOut (.ref D)) _ _ _
  rw [handedOut_of (v := .ref D) rfl]
  first
    | exact wpAny_pure (wpAny_pure h)
    | exact wpAny_pure h
    | exact wpAny_pure (wpAny_bind (wpAny_pure (wpAny_pure h)))
theorem kitx_err (T : L2.ExcC K D) : KitX K (.ref x) (.ref D) (fun h => InstAt h x ox D od) where
  ty := fun _ _ _ I => I.type
  it := fun _ _ X _ => by
    obtain ⟨cdD, hcD, _⟩ := any_some T.hd
    unfold clsIn at hcD
    split at hcD
    · rename_i c' d' cd' sl' ho
      intro A' Q' E' s' k q
      unfold isType loadHead
      exact wpAny_bind (wpAny_loadPart (k _ _ (X _ _ ho)) (wpAny_pure q))
    · cases hcD
  ne := fun h tp dd its n sl X htp => by
    obtain ⟨cdD, hcD, _⟩ := any_some T.hd
    refine Bool.eq_false_iff.mpr fun q => ?_
    have e : D = tp := Value.ref.inj (beq_iff_eq.mp q)
    subst e
    unfold clsIn at hcD
    split at hcD
    · rename_i c' d' cd' sl' ho
      have z := (X _ _ ho).symm.trans htp
      cases z
    · cases hcD
  ca := fun X I k => cls_of T X I k
end
end PySem.ErrX
namespace L2
open PySem PySem.Spec PyProof.Rows
/-- isinstance(e, S), e the exception that the suite holds, of the class D -/
theorem call_isX {X : Cx} {a D : Addr} {oe : Obj} {d : Option Addr} {pn : List (Addr × Obj)} (C : ExcC X.K D) (hz : Zc (.ref D) d oe) (hf : ∃ vs, oe.data = .fields vs) {S : Addr} (e : PySem.W.kitOne X.K (.ref D) (.ref S) = some true) :
    CallR (X.suite a ((a, oe) :: pn)) (.builtin "isinstance") (fun xs H Q => xs = [.ref a, .ref S] ∧ (∀ dd, d = some dd → ∃ fs, H dd = some (.xd fs)) ∧ Q (.bl true) H) := by
  intro pins s σ H xs us Q I r h
  obtain ⟨rfl, hdd, q⟩ := h
  cases r with
  | cons rx rr =>
    cases rr with
    | cons rt rr =>
      cases rr
      cases rx
      cases rt
      obtain ⟨hget, _⟩ := I.pin (a, oe) (List.mem_append.mpr (.inl List.mem_cons_self))
      obtain ⟨vs, hv⟩ := hf
      obtain ⟨od, J⟩ : ∃ od, PySem.W.InstAt s.heap a oe D od := by
        cases d with
        | none =>
          obtain ⟨oc, odd, oda, osl⟩ := oe
          obtain ⟨h1, h2⟩ := hz
          dsimp only at h1 h2 hv
          subst h1 h2 hv
          exact ⟨none, hget, rfl, rfl, trivial⟩
        | some dd =>
          obtain ⟨fs, hx⟩ := hdd dd rfl
          have ho : ObjOk X.prog X.w H s.heap dd (.xd fs) := I.hok dd _ hx
          obtain ⟨mA, ⟨od, es, ep, e1, _⟩, _⟩ := ho
          exact ⟨some od, hget, hz.1, by unfold PySem.W.notCls; rw [hv] <;> rfl, by rw [hz.2]; exact e1⟩
      exact PySem.W.kia_one (PySem.ErrX.kitx_err C) I.kIn J e (fun z => nomatch z) fun tk => ⟨.bl true, H, I.kept (t' := tk) fun _ _ z => z, rfl, q⟩
end L2
namespace Cl
open PySem PySem.Spec PyProof.Rows L2
open MO
/-- an exception in the air: its class, its dict -/
inductive XV (K : PySem.W.Frag) (mg : Str → Option Value) (G : Hp) (J : Addr → Prop) (H Hb : Hp) : Xc → Value → Option Addr → Prop
  | z {x : Str} {C : Addr} : mg x = some (.ref C) → XV K mg G J H Hb ⟨x, []⟩ (.ref C) none
  | f {x f : Str} {C dd : Addr} {v : V} {d : D} : mg x = some (.ref C) → Hb dd = none → G dd = none → ¬ J dd → H dd = some (.xd [(f, v)]) → Rp K G v d → XV K mg G J H Hb ⟨x, [(f, d)]⟩ (.ref C) (some dd)
theorem XV.base {K : PySem.W.Frag} {mg : Str → Option Value} {G H Hb Hc : Hp} {J : Addr → Prop} {x : Xc} {c : Value} {d : Option Addr} (h : XV K mg G J H Hb x c d) (k : ∀ a, Hb a = none → Hc a = none) : XV K mg G J H Hc x c d := by
  cases h with
  | z m => exact .z m
  | f m b g j h r => exact .f m (k _ b) g j h r
theorem XV.cls {K : PySem.W.Frag} {mg : Str → Option Value} {G H Hb : Hp} {J : Addr → Prop} {x : Xc} {c : Value} {d : Option Addr} (h : XV K mg G J H Hb x c d) : ∃ C, mg x.cls = some (.ref C) ∧ c = .ref C := by
  cases h with
  | z m => exact ⟨_, m, rfl⟩
  | f m b g j h r => exact ⟨_, m, rfl⟩
section
variable {γ : Type}
/-- what the context wishes of an exception, the names in ρ still known -/
def WT (C : Cc γ) (X : Cx) (ρ : En) : WX := fun cls d σ H => ∃ G J g x, C.St X.K ρ σ H G J g ∧ XV X.K X.mg G J H C.H0 x cls d ∧ C.EX x g
def Tk (C : Cc γ) (X : Cx) (ρ : En) : Prop := Takes X (WT C X ρ)
theorem Cc.St.back {C : Cc γ} {K : PySem.W.Frag} {ρ : En} {σ : L2.St} {H G : Hp} {J : Addr → Prop} {g : γ} (s : C.St K ρ σ H G J g) : ∀ a, H a = none → C.H0 a = none := fun a h => Classical.byContradiction fun z => s.aft.dm a z h
variable {m : Type → Type} [PM γ m] {α β δ τ : Type}
variable {C : Cc γ} {X : Cx} {ρ ρh : En} {rest : List Stmt} {out : α → En} {outL : τ → En} {rk : δ → R} {x : m β} {kn : α → m β} {kr : δ → m β} {kb kc : τ → m β}
/-- raise X(e) -/
theorem cs_raise1 {st : Stmt} {y f xn : Str} {a : Expr} {p pos pos2 : Pos} {lvl : Nat} {Ca : Addr} (T1 : PySem.ErrX.Txt1 st y f) (EK : PySem.ErrX.ErrK X.prog X.K Ca st ["self", y]) (noN : PySem.W.findIn X.K (.ref Ca) f = some none) (gC : X.mg xn = some (.ref Ca)) (gS : X.mg "super" = none)
    (hr : Room lvl X.A) (tk : Tk C X ρh) (le : LeE ρh ρ) (he : CE C X ρ a dv x (fun d => lift (.ex ⟨xn, [(f, d)]⟩))) (hg : Gl X xn := by rfl) (hs : starEach [a] X.env = (false, eval a X.env) :: starEach [] X.env := by rfl) (hdb : (xn == ("__debug__" : Str)) = false := by decide) (hc : X.calm = true := by rfl) :
    CS C X ρ [.Raise (some (.Call (.Name xn p) [a] [] pos)) none pos2] out outL rk x kn kr kb kc := fun Qf =>
  PSs.imp (pss_one (ps_raise hc tk (pmk_err1 T1 EK noN gC gS hr (he Qf) hg hs hdb))) fun E σ H ⟨G, J, g, st, w, fi⟩ => ⟨G, J, g, st, w, fun v d H1 G1 J1 g1 af1 si1 rr w1 dd hdd => by
    have w2 := PM.of_lift w1
    have n := New.own (o := .xd [(f, v)]) af1.vis.sub hdd
    have s1 := (st.go af1 si1)
    exact ⟨G1, J1, g1, _, (s1.go (n.aft af1.vis) (SIx.nw si1 n)).le le, .f gC (s1.back dd hdd) (none_of_sub af1.vis.sub hdd) (fun j => af1.vis.dom dd j hdd) upd_same rr, w2⟩⟩
/-- raise X() -/
theorem cs_raise0 {st : Stmt} {xn : Str} {p pos pos2 : Pos} {lvl : Nat} {Ca : Addr} (T1 : PySem.ErrX.Txt0 st) (EK : PySem.ErrX.ErrK X.prog X.K Ca st ["self"]) (gC : X.mg xn = some (.ref Ca)) (gS : X.mg "super" = none)
    (hr : Room lvl X.A) (tk : Tk C X ρh) (le : LeE ρh ρ) (hg : Gl X xn := by rfl) (hdb : (xn == ("__debug__" : Str)) = false := by decide) (hc : X.calm = true := by rfl) :
    CS C X ρ [.Raise (some (.Call (.Name xn p) [] [] pos)) none pos2] out outL rk (lift (.ex ⟨xn, []⟩)) kn kr kb kc := fun Qf =>
  PSs.imp (pss_one (ps_raise hc tk (pmk_err0 T1 EK gC gS hr hg hdb))) fun E σ H ⟨G, J, g, st, w, f⟩ => ⟨G, J, g, _, st.le le, .z gC, PM.of_lift w⟩
end

/-! ### defs that may raise -/
section
variable {γ : Type} {m : Type → Type} [PM γ m] {δ : Type}
def spX {γ : Type} {m : Type → Type} [PM γ m] {δ : Type} (K : PySem.W.Frag) (mg : Str → Option Value) (S : SIx γ) (sig : Sig) (f : Ar sig → m δ) (rk : δ → R) : Sp := fun vs H Q E => ∃ G J g rs, Vis G J H ∧ S.si g G J H ∧ RAs K G vs rs ∧ rs.length = sig.length ∧
  PM.wp (callM sig f rs) g (fun d g' => ∀ v H' G' J', Aft G J H G' J' H' → S.si g' G' J' H' → RR K G' J' H' H v (rk d) → Q v H')
    (fun x g' => ∀ cls d H' G' J', Aft G J H G' J' H' → S.si g' G' J' H' → XV K mg G' J' H' H x cls d → E cls d H')
end
structure FnX (P : Program) (w : World) (K : PySem.W.Frag) (mg : Str → Option Value) (base : Heap) (k : Nat) (f : Addr) (fd : FuncData) (ps : List Str) (sp : Sp) : Prop where
  num : ∀ vs H Q E, sp vs H Q E → vs.length = ps.length
  does : ∀ (A : Around) (outer : List Env) (s : Shared) (H : Hp) (args : Args) (us : List Value) (vs : List V) (Q : VK) (E : XK), Room k A → A.guards = some [] → Env0 P w K mg base A outer s H → BindsTo s fd args (ps.zip us) → Vals vs us → sp vs H Q E →
    codeAny (model P w) A (.call (.ref f) args) (CR (L2.CX P w) outer P w H s Q E) s
theorem FnX.lift {P : Program} {w : World} {K : PySem.W.Frag} {mg : Str → Option Value} {base : Heap} {j k : Nat} {f : Addr} {fd : FuncData} {ps : List Str} {sp : Sp} (F : FnX P w K mg base j f fd ps sp) (h : j ≤ k) : FnX P w K mg base k f fd ps sp where
  num := F.num
  does := fun A outer s H args us vs Q E hr => F.does A outer s H args us vs Q E (hr.mono h)
structure CalX (P : Program) (w : World) (K : PySem.W.Frag) (mg : Str → Option Value) (base : Heap) (x : Str) (lvl : Nat) (ps : List Str) (sp : Sp) : Prop where
  ex : ∃ f fd, mg x = some (.ref f) ∧ FnX P w K mg base lvl f fd ps sp ∧ PySem.W.keepIn K (.ref f) = true ∧ (∀ (s : Shared) (args : Args) (us : List Value), us.length = ps.length → bindArgs fd args = pure (ps.zip us) → BindsTo s fd args (ps.zip us)) ∧ (∀ us : List Value, us.length = ps.length → bindArgs fd ⟨us, []⟩ = pure (ps.zip us)) ∧ ∃ oc od sl, K.lookup f = some ⟨oc, od, .func fd, sl⟩
theorem fnX_of {P : Program} {w : World} {K : PySem.W.Frag} {mg : Str → Option Value} {base : Heap} {x qual : Str} {st : Stmt} {f : Addr} {fd : FuncData} {N ps : List Str} {k : Nat} {sp : Sp} (F : Fun K x qual st f fd) (S : FnScope N ps (defScope st)) (num : ∀ vs H Q E, sp vs H Q E → vs.length = ps.length)
    (hb : ∀ (cdv : Value) (A : Around) (outer : List Env) (s : Shared) (H : Hp) (vs : List V) (Q : VK) (E : XK), Room k (A.deeper (envOfC qual (defScope st) s.heap.objs.size f cdv)) → A.guards = some [] → sp vs H Q E →
      ∃ t, PSs (cxOf (L2.CX P w) P w K mg base N qual (defScope st) f cdv A outer s H E) (defBody st) t ∧ t { nx := fun _ H' => Q .non H', rt := Q } (L2.start N vs) H) : FnX P w K mg base (k + 1) f fd ps sp := by
  obtain ⟨oc, od, kV, doc, pm, an, cdv, ct, osl, rfl, lk, hcd⟩ := F.ex
  refine ⟨num, fun A outer s H args us vs Q E hr hgd e0 hbd rv hsp => ?_⟩
  have inK : K.In s.heap := e0.mod.kin.keeps fun b o e => (e0.bs b o e).1
  have nl : s.heap.NoLimit := e0.mod.nolimit.keeps fun b o e => (e0.bs b o e).1
  have kinds : ∀ y ∈ ps.zip us, (defScope st).names.lookup y.1 = some .local ∨ ((defScope st).names.lookup y.1 = some .cell ∧ ((cellsFrom (s.heap.objs.size + 1) (defScope st).names []).lookup y.1).isSome = true) := fun ⟨n, v⟩ hy => (S.par n (List.of_mem_zip hy).1).imp (fun q => q) fun q => ⟨q, PySem.W.cellsFrom_some _ _ _ (.inl q)⟩
  refine codeAny_call_function hr.depth (inK _ _ lk) rfl S.co S.gen rfl (PySem.W.codeRec_of inK hcd) (hbd _ _ _ _ (wpAny_newFunctionEnv_cells S.kind kinds fun env he s1 ic => ?_))
  subst he
  refine ⟨nl.keeps ic.toInCall.keep, codeAny_func ?_⟩
  obtain ⟨t, ht, hq⟩ := hb cdv A outer s H vs Q E (hr.deeper _) hgd hsp
  have I0 := inv_start (CX := L2.CX P w) (E := E) S hr.hd e0 (num _ _ _ _ hsp) rv ic
  refine wpAny_mono (ht.run [] s1 _ H _ I0 hq) (fun fl s' hs => ?_) fun e s' hs => hs
  have give : ∀ {σ' : L2.St} {H' : Hp} {v : V} {u : Value}, Inv (cxOf (L2.CX P w) P w K mg base N qual (defScope st) f cdv A outer s H E) [] σ' H' s' → RelV v u → Q v H' → L2.CE outer P w H s Q u s' := fun {σ' H' v u} i r q => ⟨v, H', i.os, i.bare, i.base, i.hok, r, q⟩
  cases fl with
  | next => obtain ⟨σ', H', i, q⟩ := hs; exact give (v := V.non) (u := Value.none) i rfl q
  | ret u => obtain ⟨v, σ', H', i, r, q⟩ := hs; exact give i r q
  | brk => obtain ⟨_, _, _, q⟩ := hs; exact q.elim
  | cont => obtain ⟨_, _, _, q⟩ := hs; exact q.elim
section
variable {γ : Type} {m : Type → Type} [PM γ m] {δ : Type}
/-- THE RULE for a def that may raise, by its body -/
theorem cal_ofX {P : Program} {w : World} {K : PySem.W.Frag} {mg : Str → Option Value} {base : Heap} {x qual : Str} {st : Stmt} {N ps : List Str} {k : Nat} {S : SIx γ} {sig : Sig} {f : Ar sig → m δ} {rk : δ → R} (kn : Unit → m δ) (F : Dfd K mg x qual st ps) (sc : FnScope N ps (defScope st)) (hl : ps.length = sig.length)
    (hkn : kn = (fun _ => lift .no) ∨ ∃ d0, kn = (fun _ => pur d0) ∧ rk d0 = .v .none)
    (hbody : ∀ (f' : Addr) (cdv : Value) (A : Around) (outer : List Env) (s : Shared) (H G : Hp) (J : Addr → Prop) (E : XK) (EX : Xc → γ → Prop) (a : Ar sig), Room k (A.deeper (envOfC qual (defScope st) s.heap.objs.size f' cdv)) → A.guards = some [] →
      Tk (⟨H, G, J, S, EX⟩ : Cc γ) (cxOf (L2.CX P w) P w K mg base N qual (defScope st) f' cdv A outer s H E) (List.replicate N.length none) →
      PassesOwn (model P w) (cxOf (L2.CX P w) P w K mg base N qual (defScope st) f' cdv A outer s H E).A (cxOf (L2.CX P w) P w K mg base N qual (defScope st) f' cdv A outer s H E).env (cxOf (L2.CX P w) P w K mg base N qual (defScope st) f' cdv A outer s H E).xe →
      CS (m := m) (⟨H, G, J, S, EX⟩ : Cc γ) (cxOf (L2.CX P w) P w K mg base N qual (defScope st) f' cdv A outer s H E) (entE a N.length) (defBody st) (fun _ : Unit => List.replicate N.length none) (fun _ : Unit => badE) rk (f a) kn (fun r => pur r) (fun _ => lift .no) (fun _ => lift .no)) :
    CalX P w K mg base x (k + 1) ps (spX K mg S sig f rk) := by
  obtain ⟨fA, fd, hm, FF, hb⟩ := F.ex
  refine ⟨fA, fd, hm, fnX_of FF sc (fun vs H Q E h => ?_) (fun cdv A outer s H vs Q E hr hgd h => ?_), FF.kp, fun s args us _ e => .of_eq e, hb, by obtain ⟨oc, od, kV, doc, pm, an, cdv, ct, osl, rfl, lk, hcd⟩ := FF.ex; exact ⟨oc, od, osl, lk⟩⟩
  · obtain ⟨G, J, g, rs, _, _, ra, hlen, _⟩ := h
    rw [ra.length, hlen, hl]
  · obtain ⟨G, J, g, rs, vis, si, ra, hlen, w1⟩ := h
    unfold callM at w1
    have hN : ps.length ≤ N.length := by
      have := congrArg List.length sc.pre
      rw [List.length_take] at this
      omega
    cases e : unpack sig rs with
    | none =>
      rw [e] at w1
      exact (PM.of_lift w1).elim
    | some a =>
      rw [e] at w1
      refine ⟨_, hbody fA cdv A outer s H G J E (fun x g' => ∀ cls d H' G' J', Aft G J H G' J' H' → S.si g' G' J' H' → XV K mg G' J' H' H x cls d → E cls d H') a hr hgd ((takes_of rfl rfl rfl rfl).imp fun cls d σ' H' z => ?_) (passes_of rfl) _, G, J, g, ⟨env_start ra e (by rw [← hl]; exact hN), Aft.refl vis, si⟩, w1, ⟨fun _ σ' H' G' J' g' _ st w2 => ?_, fun r v H' G' J' g' af si' rr w2 => ?_, fun _ σ' H' G' J' g' _ st w2 => (PM.of_lift w2).elim, fun _ σ' H' G' J' g' _ st w2 => (PM.of_lift w2).elim⟩⟩
      · obtain ⟨G', J', g', xx, st, xv, hE⟩ := z
        exact hE cls d H' G' J' st.aft st.si xv
      · rcases hkn with q | ⟨d0, q, q2⟩
        · rw [q] at w2
          exact (PM.of_lift w2).elim
        · rw [q] at w2
          have w3 := PM.of_pur w2
          exact w3 .non H' G' J' st.aft st.si (by rw [q2]; exact .non)
      · have w3 := PM.of_pur w2
        exact w3 v H' G' J' af si' rr
end
section
variable {X : Cx} {k : Nat} {f : Addr} {fd : FuncData} {ps ks : List Str} {perm : List Nat} {sp : Sp} {E : L2.St → XK}
theorem go_fnX {pins : List (Addr × Obj)} {σ : L2.St} {H : Hp} {s : Shared} {Q : VK} {us : List Value} {vs : List V} {kw : List (Str × Value)} {qs : List Value} (F : FnX X.prog X.w X.K X.mg X.base k f fd ps sp) (hr : Room k X.A) (hgd : X.A.guards = some []) (hx : ∀ σ, PassesAt (L2.CX X.prog X.w) X σ (E σ))
    (I : Inv X pins σ H s) (hb : BindsTo s fd ⟨qs, kw⟩ (ps.zip us)) (r : Vals vs us) (h : sp vs H Q (E σ)) : wpAny (model X.prog X.w) X.A (call (.ref f) qs kw) (EP X pins σ Q) X.xe s := by
  refine wpAny_call (codeAny_mono (F.does X.A X.stack s H ⟨qs, kw⟩ us vs Q (E σ) hr hgd I.env0 hb r h) fun res s' hq => ?_)
  match res, hq with
  | .error e, hq => exact hx σ pins H s e s' I hq
  | .ok (.ret u), hq => exact I.after hq
  | .ok .next, hq => exact False.elim hq
  | .ok .brk, hq => exact False.elim hq
  | .ok .cont, hq => exact False.elim hq
variable {x : Str} {p pos : Pos} {e : Expr} {es : List Expr} {kws : List Keyword} {t tk : TA}
theorem pe_callX (c : CalX X.prog X.w X.K X.mg X.base x k ps sp) (hr : Room k X.A) (hgd : X.A.guards = some []) (hx : ∀ σ, PassesAt (L2.CX X.prog X.w) X σ (E σ)) (hg : Gl X x) (ha : PA X (e :: es) t) (hdb : (x == ("__debug__" : Str)) = false) (he : starEach (e :: es) X.env = (false, eval e X.env) :: starEach es X.env)
    (hpl : (backTo pos (starEach es X.env)).any (·.1) = false) : PE X (.Call (.Name x p) (e :: es) [] pos) (tCallS sp E t) := by
  obtain ⟨f, fd, hm, F, hk, hb, hb2, hlk⟩ := c.ex
  refine ⟨fun pins s σ H Q I h => wpAny_Call_Name_kw (ld_glob I hg hm (PySem.W.callWith_K (h₀ := X.base) I.ok.mod.kin hk (thn (ha.run pos pins s σ H _ I h) fun us s1 ⟨vs, H1, I1, r, q⟩ => ⟨I1.kIn, ?_⟩) he hpl) hdb)⟩
  have hn : us.length = ps.length := by rw [← r.length]; exact F.num _ _ _ _ q
  exact go_fnX F hr hgd hx I1 (hb s1 _ us hn (hb2 us hn)) r q
theorem pe_callXK0 (c : CalX X.prog X.w X.K X.mg X.base x k ps sp) (b : KwB X.K X.mg x ps 0 ks perm) (hr : Room k X.A) (hgd : X.A.guards = some []) (hx : ∀ σ, PassesAt (L2.CX X.prog X.w) X σ (E σ)) (hg : Gl X x) (ha : PK X kws tk) (hpm : perm.length = ps.length) (hkl : kws.length = ks.length) (hdb : (x == ("__debug__" : Str)) = false)
    (hln : ∀ σ H Q, tk σ H Q → tk σ H fun zs H' => zs.length = kws.length ∧ Q zs H')
    (hall : (backToKw pos (keywordEach kws X.env)).all (·.1.isSome) = true) (hks : (backToKw pos (keywordEach kws X.env)).filterMap (·.1) = ks)
    (hpl : ((backTo pos (starEach [] X.env)).any (·.1) || (backToKw pos (keywordEach kws X.env)).any (·.1.isNone)) = false) : PE X (.Call (.Name x p) [] kws pos) (fun σ H Q => tk σ H fun zs H1 => sp (pick V.non perm zs) H1 Q (E σ)) := by
  obtain ⟨f, fd, hm, F, hk, hb, hb2, oc, od, sl, hlk⟩ := c.ex
  refine ⟨fun pins s σ H Q I h => wpAny_Call_Name_kw (ld_glob I hg hm (PySem.W.callWith_KW0 (h₀ := X.base) I.ok.mod.kin hk hall (thn (ha.run pos pins s σ H _ I (hln σ H _ h)) fun ws s1 ⟨zs, H1, I1, rz, hl, q⟩ => ⟨I1.kIn, ?_⟩) hpl) hdb)⟩
  rw [hks]
  have hw : ws.length = ks.length := by rw [← rz.length, hl, hkl]
  have e1 := b.b f fd oc od sl hm hlk [] ws rfl hw
  have r2 := pick_vals (perm := perm) rz
  exact go_fnX (us := pick Value.none perm ws) F hr hgd hx I1 (hb s1 ⟨[], ks.zip ws⟩ _ (by unfold pick; rw [List.length_map, hpm]) (by rw [List.nil_append] at e1; exact e1)) r2 q
theorem pe_callXK (c : CalX X.prog X.w X.K X.mg X.base x k ps sp) (b : KwB X.K X.mg x ps (es.length + 1) ks perm) (hr : Room k X.A) (hgd : X.A.guards = some []) (hx : ∀ σ, PassesAt (L2.CX X.prog X.w) X σ (E σ)) (hg : Gl X x) (ha : PA X (e :: es) t) (hkw : PK X kws tk) (hpm : perm.length = ps.length) (hkl : kws.length = ks.length) (hdb : (x == ("__debug__" : Str)) = false)
    (hla : ∀ σ H Q, t σ H Q → t σ H fun zs H' => zs.length = es.length + 1 ∧ Q zs H') (hln : ∀ σ H Q, tk σ H Q → tk σ H fun zs H' => zs.length = kws.length ∧ Q zs H')
    (hall : (backToKw pos (keywordEach kws X.env)).all (·.1.isSome) = true) (hks : (backToKw pos (keywordEach kws X.env)).filterMap (·.1) = ks) (he : starEach (e :: es) X.env = (false, eval e X.env) :: starEach es X.env)
    (hpl : ((backTo pos (starEach (e :: es) X.env)).any (·.1) || (backToKw pos (keywordEach kws X.env)).any (·.1.isNone)) = false) : PE X (.Call (.Name x p) (e :: es) kws pos) (fun σ H Q => t σ H fun vs H0 => tk σ H0 fun zs H1 => sp (pick V.non perm (vs ++ zs)) H1 Q (E σ)) := by
  obtain ⟨f, fd, hm, F, hk, hb, hb2, oc, od, sl, hlk⟩ := c.ex
  refine ⟨fun pins s σ H Q I h => wpAny_Call_Name_kw (ld_glob I hg hm (PySem.W.callWith_KW (h₀ := X.base) I.ok.mod.kin hk hall (thn (ha.run pos pins s σ H _ I (hla σ H _ h)) fun us s0 ⟨vs, H0, I0, ru, hlu, q0⟩ => (thn (hkw.run pos pins s0 σ H0 _ I0 (hln σ H0 _ q0)) fun ws s1 ⟨zs, H1, I1, rz, hl, q⟩ => ⟨I1.kIn, ?_⟩)) hpl he) hdb)⟩
  rw [hks]
  have hw : ws.length = ks.length := by rw [← rz.length, hl, hkl]
  have hu : us.length = es.length + 1 := by rw [← ru.length, hlu]
  have e1 := b.b f fd oc od sl hm hlk us ws hu hw
  have r2 := pick_vals (perm := perm) (vals_app ru rz)
  exact go_fnX (us := pick Value.none perm (us ++ ws)) F hr hgd hx I1 (hb s1 ⟨us, ks.zip ws⟩ _ (by unfold pick; rw [List.length_map, hpm]) e1) r2 q
end
section
variable {γ : Type} {m : Type → Type} [PM γ m] {α β δ τ : Type} {C : Cc γ} {X : Cx} {ρ ρh : En}
theorem fin_callX {sig : Sig} {f : Ar sig → P δ} {rk : δ → R} {rs : List R} {vs : List V} {k : δ → m β} {Qf : β → γ → Prop} {Q : VK} {σ : L2.St} {H H1 G G1 : Hp} {J J1 : Addr → Prop} {g g1 : γ} (st : C.St X.K ρ σ H G J g) (le : LeE ρh ρ) (af1 : Aft G J H G1 J1 H1) (si1 : C.S.si g1 G1 J1 H1) (ra : RAs X.K G1 vs rs) (hn : rs.length = sig.length)
    (w1 : PM.wp (bnd (lift (callM sig f rs) : m δ) k) g1 Qf C.EX)
    (h : ∀ v a H' G' J' g', Aft G J H G' J' H' → C.S.si g' G' J' H' → RR X.K G' J' H' H v (rk a) → PM.wp (k a) g' Qf C.EX → Q v H') : spX X.K X.mg S0 sig f rk vs H1 Q (WE (WT C X ρh) σ) := by
  refine ⟨G1, fun _ => False, (), rs, ⟨af1.vis.sub, fun _ h => h.elim, fun _ h => h.elim⟩, fun _ h => h, ra, hn, ?_⟩
  have w2 := PM.of_lift (PM.of_bnd w1)
  cases e1 : callM sig f rs with
  | no => rw [e1] at w2; exact w2.elim
  | ex q =>
    rw [e1] at w2
    intro cls d H' G' J' af si xv
    have n : New G1 H1 G' H' := ⟨af.gg, fun a o h => af.hh a o (fun z => z) h, af.gn, af.vis.sub⟩
    have s1 := (st.go af1 si1).go (n.aft af1.vis) (SIx.nw si1 n)
    refine ⟨G', J1, g1, q, s1.le le, ?_, w2⟩
    have bk := (st.go af1 si1).back
    cases xv with
    | z mm => exact .z mm
    | f mm b gg jj hh rr => exact .f mm (bk _ b) gg (fun j => af1.vis.dom _ j b) hh rr
  | ok d =>
    rw [e1] at w2
    intro v H' G' J' af si rr
    have n : New G1 H1 G' H' := ⟨af.gg, fun a o h => af.hh a o (fun z => z) h, af.gn, af.vis.sub⟩
    refine h v d H' G' J1 g1 (af1.trans (n.aft af1.vis)) (SIx.nw si1 n) ?_ w2
    have rr' : RR X.K G' J1 H' H1 v (rk d) := by
      cases q : rk d with
      | v d => rw [q] at rr; exact rr
      | o x => rw [q] at rr; exact rr
      | l c =>
        rw [q] at rr
        obtain ⟨p, h1, h2, h3, h4, h5⟩ := rr
        exact ⟨p, h1, h2, h3, fun j => af1.vis.dom p j h2, h5⟩
      | p xs d =>
        rw [q] at rr
        obtain ⟨t, p, v2, h1, ht, hr2, h2, h3, h4, h5⟩ := rr
        exact ⟨t, p, v2, h1, ht, hr2, h2, h3, fun j => af1.vis.dom p j h2, h5⟩
    exact rr'.base af1.back
/-- a call of a plain def that may raise -/
theorem ce_callX {x : Str} {lvl : Nat} {ps : List Str} {sig : Sig} {f : Ar sig → P δ} {rk : δ → R} {p pos : Pos} {e : Expr} {es : List Expr} {y : m β} {k : δ → m β} (c : CalX X.prog X.w X.K X.mg X.base x lvl ps (spX X.K X.mg S0 sig f rk)) (tk : Tk C X ρh) (le : LeE ρh ρ) (hr : Room lvl X.A) (hgd : X.A.guards = some [])
    (ha : CA C X ρ (e :: es) y (fun rs => bnd (lift (callM sig f rs)) k)) (hl : (e :: es).length = sig.length := by rfl) (hg : Gl X x := by rfl) (hdb : (x == ("__debug__" : Str)) = false := by decide)
    (he : starEach (e :: es) X.env = (false, eval e X.env) :: starEach es X.env := by rfl) (hpl : (backTo pos (starEach es X.env)).any (·.1) = false := by rfl) : CE C X ρ (.Call (.Name x p) (e :: es) [] pos) rk y k := fun Qf => by
  refine PE.imp (pe_callX (E := WE (WT C X ρh)) c hr hgd (fun σ => passAt tk σ) hg (ha Qf) hdb he hpl) fun σ H Q ⟨G, J, g, st, w, h⟩ => ⟨G, J, g, st, w, fun vs rs H1 G1 J1 g1 af1 si1 rrs hn w1 => ?_⟩
  exact fin_callX st le af1 si1 rrs.ras (by rw [hn, hl]) w1 h
theorem ce_callXK0 {x : Str} {lvl : Nat} {ps ks : List Str} {perm : List Nat} {sig : Sig} {f : Ar sig → P δ} {rk : δ → R} {p pos : Pos} {kws : List Keyword} {y : m β} {k : δ → m β} (c : CalX X.prog X.w X.K X.mg X.base x lvl ps (spX X.K X.mg S0 sig f rk)) (tk : Tk C X ρh) (le : LeE ρh ρ) (b : KwB X.K X.mg x ps 0 ks perm) (hr : Room lvl X.A) (hgd : X.A.guards = some [])
    (ha : CK C X ρ kws y (fun rs => bnd (lift (callM sig f (pick (R.v .none) perm rs))) k)) (hpm : perm.length = ps.length := by rfl) (hl : perm.length = sig.length := by rfl) (hkl : kws.length = ks.length := by rfl) (hg : Gl X x := by rfl) (hdb : (x == ("__debug__" : Str)) = false := by decide)
    (hall : (backToKw pos (keywordEach kws X.env)).all (·.1.isSome) = true := by rfl) (hks : (backToKw pos (keywordEach kws X.env)).filterMap (·.1) = ks := by rfl)
    (hpl : ((backTo pos (starEach [] X.env)).any (·.1) || (backToKw pos (keywordEach kws X.env)).any (·.1.isNone)) = false := by rfl) : CE C X ρ (.Call (.Name x p) [] kws pos) rk y k := fun Qf => by
  refine PE.imp (pe_callXK0 (E := WE (WT C X ρh)) c b hr hgd (fun σ => passAt tk σ) hg (ha Qf) hpm hkl hdb (fun σ H Q ⟨G, J, g, st, w, h⟩ => ⟨G, J, g, st, w, fun vs rs H' G' J' g' af si rrs hn w' => ⟨by rw [rrs.length, hn], h vs rs H' G' J' g' af si rrs hn w'⟩⟩) hall hks hpl)
    fun σ H Q ⟨G, J, g, st, w, h⟩ => ⟨G, J, g, st, w, fun vs rs H1 G1 J1 g1 af1 si1 rrs hn w1 => ?_⟩
  exact fin_callX st le af1 si1 (pick_ras rrs.ras) (by unfold pick; rw [List.length_map, hl]) w1 h
theorem ce_callXK {x : Str} {lvl : Nat} {ps ks : List Str} {perm : List Nat} {sig : Sig} {f : Ar sig → P δ} {rk : δ → R} {p pos : Pos} {e : Expr} {es : List Expr} {kws : List Keyword} {y : m β} {y2 : List R → m β} {k : δ → m β} (c : CalX X.prog X.w X.K X.mg X.base x lvl ps (spX X.K X.mg S0 sig f rk)) (tk : Tk C X ρh) (le : LeE ρh ρ) (b : KwB X.K X.mg x ps (es.length + 1) ks perm) (hr : Room lvl X.A) (hgd : X.A.guards = some [])
    (hk : ∀ rs, CK C X ρ kws (y2 rs) (fun qs => bnd (lift (callM sig f (pick (R.v .none) perm (rs ++ qs)))) k)) (ha : CA C X ρ (e :: es) y y2) (hpm : perm.length = ps.length := by rfl) (hl : perm.length = sig.length := by rfl) (hkl : kws.length = ks.length := by rfl) (hg : Gl X x := by rfl) (hdb : (x == ("__debug__" : Str)) = false := by decide)
    (hall : (backToKw pos (keywordEach kws X.env)).all (·.1.isSome) = true := by rfl) (hks : (backToKw pos (keywordEach kws X.env)).filterMap (·.1) = ks := by rfl) (he : starEach (e :: es) X.env = (false, eval e X.env) :: starEach es X.env := by rfl)
    (hpl : ((backTo pos (starEach (e :: es) X.env)).any (·.1) || (backToKw pos (keywordEach kws X.env)).any (·.1.isNone)) = false := by rfl) : CE C X ρ (.Call (.Name x p) (e :: es) kws pos) rk y k := fun Qf => by
  refine PE.imp (pe_callXK (E := WE (WT C X ρh)) c b hr hgd (fun σ => passAt tk σ) hg (ha Qf) (PK.ex fun rs => hk rs Qf) hpm hkl hdb (fun σ H Q ⟨G, J, g, st, w, h⟩ => ⟨G, J, g, st, w, fun vs rs H' G' J' g' af si rrs hn w' => ⟨by rw [rrs.length, hn]; rfl, h vs rs H' G' J' g' af si rrs hn w'⟩⟩)
    (fun σ H Q ⟨rs, G, J, g, st, w, h⟩ => ⟨rs, G, J, g, st, w, fun vs rs H' G' J' g' af si rrs hn w' => ⟨by rw [rrs.length, hn], h vs rs H' G' J' g' af si rrs hn w'⟩⟩) hall hks he hpl)
    fun σ H Q ⟨G, J, g, st, w, h⟩ => ⟨G, J, g, st, w, fun vs rs H1 G1 J1 g1 af1 si1 rrs hn w1 => ⟨rs, G1, J1, g1, st.go af1 si1, w1, fun zs qs H2 G2 J2 g2 af2 si2 rrs2 hn2 w2 => ?_⟩⟩
  exact fin_callX st le (af1.trans af2) si2 (pick_ras ((rrs.aft af2).ras.append rrs2.ras)) (by unfold pick; rw [List.length_map, hl]) w2 h
end

/-! ### the classes, by name -/
structure Err1 (P : Program) (K : PySem.W.Frag) (mg : Str → Option Value) (x : Str) (st : Stmt) (y f : Str) : Prop where
  t : PySem.ErrX.Txt1 st y f
  ex : ∃ C, mg x = some (.ref C) ∧ PySem.ErrX.ErrK P K C st ["self", y] ∧ PySem.W.findIn K (.ref C) f = some none
  s : mg "super" = none
structure Err0 (P : Program) (K : PySem.W.Frag) (mg : Str → Option Value) (x : Str) (st : Stmt) : Prop where
  t : PySem.ErrX.Txt0 st
  ex : ∃ C, mg x = some (.ref C) ∧ PySem.ErrX.ErrK P K C st ["self"]
  s : mg "super" = none
/-- a class that may be caught -/
structure Catch (K : PySem.W.Frag) (mg : Str → Option Value) (x : Str) : Prop where
  ex : ∃ C, mg x = some (.ref C) ∧ ExcC K C ∧ XfC K C ∧ PySem.W.exmOne K (.ref C) (.ref C) = some true
/-- what X is a kind of -/
structure Sort1 (K : PySem.W.Frag) (mg : Str → Option Value) (x s : Str) : Prop where
  ex : ∃ C S, mg x = some (.ref C) ∧ mg s = some (.ref S) ∧ PySem.W.kitOne K (.ref C) (.ref S) = some true
structure NoF (K : PySem.W.Frag) (mg : Str → Option Value) (x f : Str) : Prop where
  ex : ∃ C, mg x = some (.ref C) ∧ PySem.W.findIn K (.ref C) f = some none
section
variable {γ : Type} {m : Type → Type} [PM γ m] {α β δ τ : Type}
variable {C : Cc γ} {X : Cx} {ρ ρh : En} {rest : List Stmt} {out : α → En} {outL : τ → En} {rk : δ → R} {x : m β} {kn : α → m β} {kr : δ → m β} {kb kc : τ → m β}
theorem cs_rai1 {st : Stmt} {y f xn : Str} {a : Expr} {p pos pos2 : Pos} {lvl : Nat} (W : Err1 X.prog X.K X.mg xn st y f) (hr : Room lvl X.A) (tk : Tk C X ρh) (le : LeE ρh ρ) (he : CE C X ρ a dv x (fun d => lift (.ex ⟨xn, [(f, d)]⟩))) (hg : Gl X xn := by rfl) (hs : starEach [a] X.env = (false, eval a X.env) :: starEach [] X.env := by rfl) (hdb : (xn == ("__debug__" : Str)) = false := by decide) (hc : X.calm = true := by rfl) :
    CS C X ρ [.Raise (some (.Call (.Name xn p) [a] [] pos)) none pos2] out outL rk x kn kr kb kc := by
  obtain ⟨Ca, gC, EK, nf⟩ := W.ex
  exact cs_raise1 W.t EK nf gC W.s hr tk le he hg hs hdb hc
theorem cs_rai0 {st : Stmt} {xn : Str} {p pos pos2 : Pos} {lvl : Nat} (W : Err0 X.prog X.K X.mg xn st) (hr : Room lvl X.A) (tk : Tk C X ρh) (le : LeE ρh ρ) (hg : Gl X xn := by rfl) (hdb : (xn == ("__debug__" : Str)) = false := by decide) (hc : X.calm = true := by rfl) :
    CS C X ρ [.Raise (some (.Call (.Name xn p) [] [] pos)) none pos2] out outL rk (lift (.ex ⟨xn, []⟩)) kn kr kb kc := by
  obtain ⟨Ca, gC, EK⟩ := W.ex
  exact cs_raise0 W.t EK gC W.s hr tk le hg hdb hc
end

/-! ### try -/
/-- except x as ..: what is done with the fields -/
def catchX {m : Type → Type} [MO m] {α : Type} (x : Str) (h : List (Str × D) → m α) : Xc → m α := fun e => if (e.cls == x) = true then nox (h e.fs) else lift .no
def noOwnB : En → Bool
  | [] => true
  | some (.own _) :: _ => false
  | some (.ll _) :: _ => false
  | none :: r => noOwnB r
  | some (.val _) :: r => noOwnB r
  | some (.obj _) :: r => noOwnB r
  | some .bad :: r => noOwnB r
theorem noOwn_at : ∀ {ρ : En} {i : Nat} {c : Cell}, noOwnB ρ = true → ρ[i]? ≠ some (some (.own c))
  | [], i, c, _, h => by simp at h
  | some (.own _) :: _, i, c, q, _ => by simp [noOwnB] at q
  | some (.ll _) :: _, i, c, q, _ => by simp [noOwnB] at q
  | none :: r, 0, c, q, h => by simp at h
  | some (.val _) :: r, 0, c, q, h => by simp at h
  | some (.obj _) :: r, 0, c, q, h => by simp at h
  | some .bad :: r, 0, c, q, h => by simp at h
  | none :: r, i + 1, c, q, h => noOwn_at (ρ := r) (i := i) (c := c) (by simpa [noOwnB] using q) (by simpa using h)
  | some (.val _) :: r, i + 1, c, q, h => noOwn_at (ρ := r) (i := i) (c := c) (by simpa [noOwnB] using q) (by simpa using h)
  | some (.obj _) :: r, i + 1, c, q, h => noOwn_at (ρ := r) (i := i) (c := c) (by simpa [noOwnB] using q) (by simpa using h)
  | some .bad :: r, i + 1, c, q, h => noOwn_at (ρ := r) (i := i) (c := c) (by simpa [noOwnB] using q) (by simpa using h)
theorem noLL_at : ∀ {ρ : En} {i : Nat} {c : List (List D)}, noOwnB ρ = true → ρ[i]? ≠ some (some (.ll c))
  | [], i, c, _, h => by simp at h
  | some (.own _) :: _, i, c, q, _ => by simp [noOwnB] at q
  | some (.ll _) :: _, i, c, q, _ => by simp [noOwnB] at q
  | none :: r, 0, c, q, h => by simp at h
  | some (.val _) :: r, 0, c, q, h => by simp at h
  | some (.obj _) :: r, 0, c, q, h => by simp at h
  | some .bad :: r, 0, c, q, h => by simp at h
  | none :: r, i + 1, c, q, h => noLL_at (ρ := r) (i := i) (c := c) (by simpa [noOwnB] using q) (by simpa using h)
  | some (.val _) :: r, i + 1, c, q, h => noLL_at (ρ := r) (i := i) (c := c) (by simpa [noOwnB] using q) (by simpa using h)
  | some (.obj _) :: r, i + 1, c, q, h => noLL_at (ρ := r) (i := i) (c := c) (by simpa [noOwnB] using q) (by simpa using h)
  | some .bad :: r, i + 1, c, q, h => noLL_at (ρ := r) (i := i) (c := c) (by simpa [noOwnB] using q) (by simpa using h)
theorem EnvR.rebase {K : PySem.W.Frag} {H0 H0' H G : Hp} {ρ : En} {σ : L2.St} {J : Addr → Prop} (e : EnvR K H0 ρ σ H G J) (h : noOwnB ρ = true) : EnvR K H0' ρ σ H G J :=
  ⟨e.val, e.obj, fun i c q => absurd q (noOwn_at h), fun i j c c' p _ q => absurd q (noOwn_at h), e.len, e.nb, LLok.none fun i c => noLL_at h⟩
theorem EnvR.lower {K : PySem.W.Frag} {H0 H0' H G : Hp} {ρ : En} {σ : L2.St} {J : Addr → Prop} (e : EnvR K H0 ρ σ H G J) (k : ∀ a, H0 a = none → H0' a = none) : EnvR K H0' ρ σ H G J :=
  ⟨e.val, e.obj, fun i c q => by
    obtain ⟨p, h1, h2, h3⟩ := e.own i c q
    exact ⟨p, h1, k p h2, h3⟩, e.sep, e.len, e.nb, e.kid.keep (Sub.refl _) (fun _ _ h => ⟨h, rfl⟩) (fun i c h => .inl ⟨c, h, rfl⟩) (fun _ _ _ _ h => h) fun _ _ _ h0 hg hj _ => ⟨k _ h0, hg, hj⟩⟩
theorem PSs.and {X : Cx} {e : List Stmt} {P : Prop} {t : TS} (h : P → PSs X e t) : PSs X e (fun E σ H => P ∧ t E σ H) := ⟨fun pins s σ H D I ⟨p, q⟩ => (h p).run pins s σ H D I q⟩
theorem set_none_of {ρ : En} {i : Nat} (h : ρ[i]? = some none) : ρ.set i none = ρ := by
  apply List.ext_getElem?
  intro j
  by_cases q : i = j
  · subst q
    rw [List.getElem?_set, if_pos rfl, h]
    have hl : i < ρ.length := (List.getElem?_eq_some_iff.mp h).1
    rw [if_pos hl]
  · rw [List.getElem?_set_ne q]
abbrev Cc.ex {γ : Type} (C : Cc γ) (EX : Xc → γ → Prop) : Cc γ := { C with EX := EX }
section
variable {γ : Type} {m : Type → Type} [PM γ m] {α β δ τ ω : Type}
variable {C : Cc γ} {X : Cx} {ρ ρh : En} {rest : List Stmt} {out : α → En} {outL : ω → En} {rk : δ → R} {kn : α → m β} {kr : δ → m β} {kb kc : ω → m β}
/-- the reading of a try's body -/
def tbX (C : Cc γ) (X : Cx) (ρ ρh : En) (outT : τ → En) (rk : δ → R) (B : m (Lp δ τ)) : WX → TS := fun W E σ H => ∃ (C1 : Cc γ) (Qb : Lp δ τ → γ → Prop), (C1.S = C.S ∧ ∀ cls d σ H, WT C1 X ρh cls d σ H → W cls d σ H) ∧
  ∃ G J g, C1.St X.K ρ σ H G J g ∧ PM.wp B g Qb C1.EX ∧ Fi C1 X.K G outT (fun _ : Unit => badE) rk (fun t => (pur (.nx t) : m (Lp δ τ))) (fun r => pur (.rt r)) (fun _ => lift .no) (fun _ => lift .no) Qb E
def tsX (C : Cc γ) (X : Cx) (ρh : En) (i : Nat) (xn : Str) (outT : τ → En) (rk : δ → R) (hm : List (Str × D) → m (Lp δ τ)) : Addr → Value → Option Addr → TS := fun a cls d E σ H => ∃ (fs : List (Str × D)) (C' : Cc γ) (Qb : Lp δ τ → γ → Prop), (C'.S = C.S ∧ (C'.EX = fun _ _ => False) ∧ XV X.K X.mg C'.G0 C'.J0 C'.H0 C.H0 ⟨xn, fs⟩ cls d) ∧
  ∃ G J g, C'.St X.K (ρh.set i (some (.obj a))) σ H G J g ∧ PM.wp (hm fs) g Qb C'.EX ∧ Fi C' X.K G outT (fun _ : Unit => badE) rk (fun t => (pur (.nx t) : m (Lp δ τ))) (fun r => pur (.rt r)) (fun _ => lift .no) (fun _ => lift .no) Qb E
theorem cs_try {xn n : Str} {np pos pos' : Pos} {i : Nat} {body : List Stmt} {b₀ : Stmt} {suite : List Stmt} {outT : τ → En} {B : m (Lp δ τ)} {hm : List (Str × D) → m (Lp δ τ)} {K : τ → m β}
    (W : Catch X.K X.mg xn) (hR : ∀ t, CS C X (outT t) rest out outL rk (K t) kn kr kb kc)
    (hB : ∀ (C1 : Cc γ) (pn : List (Addr × Obj)) (xe : Value → Shared → Prop), C1.S = C.S → Tk C1 (X.tr pn xe) ρh → PassesOwn (model X.prog X.w) X.A X.env xe →
      CS C1 (X.tr pn xe) ρ body outT (fun _ : Unit => badE) rk B (fun t => (pur (.nx t) : m (Lp δ τ))) (fun r => pur (.rt r)) (fun _ => lift .no) (fun _ => lift .no))
    (hS : ∀ (fs : List (Str × D)) (C' : Cc γ) (a : Addr) (oe : Obj) (cls : Value) (d : Option Addr) (pn : List (Addr × Obj)), C'.S = C.S → (C'.EX = fun _ _ => False) → Zc cls d oe → (∃ vs, oe.data = .fields vs) → XV X.K X.mg C'.G0 C'.J0 C'.H0 C.H0 ⟨xn, fs⟩ cls d →
      CS C' (X.suite a ((a, oe) :: pn)) (ρh.set i (some (.obj a))) (b₀ :: suite) outT (fun _ : Unit => badE) rk (hm fs) (fun t => (pur (.nx t) : m (Lp δ τ))) (fun r => pur (.rt r)) (fun _ => lift .no) (fun _ => lift .no))
    (hN : X.N.Nodup) (hno : noOwnB ρh = true := by rfl) (hno2 : noOwnB ρ = true := by rfl) (hout : ∀ t, (outT t)[i]? = some none := by intro _; rfl) (hi : X.N[i]? = some n := by rfl) (hln : X.env.kindOf n = some .local := by rfl) (hg : Gl X xn := by rfl) (hdb : (xn == ("__debug__" : Str)) = false := by decide)
    (hst : X.stack = X.env :: X.outer := by rfl) (hf : X.env.frame = some X.env.locals := by rfl) :
    CS C X ρ (.Try body [.ExceptHandler (some (.Name xn np)) (some n) (b₀ :: suite) pos'] [] [] pos :: rest) out outL rk (bnd (trx B (catchX xn hm)) (lpK K kr)) kn kr kb kc := fun Qf => by
  obtain ⟨Ce, gC, EC, FC, hexm⟩ := W.ex
  have hb : ∀ (W : WX) (pn : List (Addr × Obj)) (xe : Value → Shared → Prop), Takes (X.tr pn xe) W → PassesOwn (model X.prog X.w) X.A X.env xe → PSs (X.tr pn xe) body (tbX C X ρ ρh outT rk B W) := fun W pn xe tk po =>
    PSs.ex fun C1 => PSs.ex fun Qb => PSs.and fun hl => hB C1 pn xe hl.1 (tk.imp hl.2) po Qb
  have hsu : ∀ (a : Addr) (oe : Obj) (cls : Value) (d : Option Addr) (pn : List (Addr × Obj)), Zc cls d oe → (∃ vs, oe.data = .fields vs) → PSs (X.suite a ((a, oe) :: pn)) (b₀ :: suite) (tsX C X ρh i xn outT rk hm a cls d) := fun a oe cls d pn hz hf =>
    PSs.ex fun fs => PSs.ex fun C' => PSs.ex fun Qb => PSs.and fun hl => hS fs C' a oe cls d pn hl.1 hl.2.1 hz hf hl.2.2 Qb
  refine PSs.imp (pss_cons (ps_try_as (Wout := fun _ _ _ _ => False) hst hf hN hi hln (c := .ref Ce) ⟨hg, hdb, .inl gC⟩ takes0 hb hsu) (PSs.ex fun t => hR t Qf)) fun E σ H ⟨G, J, g, st, w, fi⟩ => ?_
  have w1 := PM.of_trx (PM.of_bnd w)
  refine ⟨⟨H, G, J, C.S, fun e g' => PM.wp (catchX xn hm e) g' (fun r g' => PM.wp (lpK K kr r) g' Qf C.EX) C.EX⟩, fun r g' => PM.wp (lpK K kr r) g' Qf C.EX, ⟨rfl, fun cls d σ1 H1 hw => ?_⟩, G, J, g, ⟨st.env.rebase hno2, Aft.refl st.vis, st.si⟩, w1, ⟨fun t σ' H' G' J' g' s' st' w' => ?_, fun r v H' G' J' g' af' si' rr' w' => ?_, fun t σ' H' G' J' g' s' st' w' => (PM.of_lift w').elim, fun t σ' H' G' J' g' s' st' w' => (PM.of_lift w').elim⟩⟩
  · obtain ⟨G1, J1, g1, e, st1, xv, w2⟩ := hw
    have afA : Aft G J H G1 J1 H1 := st1.aft
    have w2 : PM.wp (catchX xn hm e) g1 (fun r g' => PM.wp (lpK K kr r) g' Qf C.EX) C.EX := w2
    unfold catchX at w2
    by_cases q : (e.cls == xn) = true
    · rw [if_pos q] at w2
      have w3 := PM.of_nox w2
      obtain ⟨Cx1, m1, rfl⟩ := xv.cls
      have q2 : e.cls = xn := by simpa using q
      rw [q2, gC] at m1
      cases m1
      have bk : ∀ a, H1 a = none → C.H0 a = none := fun a z => st.back a (afA.back a z)
      refine ⟨true, hexm, fun _ a na => ⟨e.fs, ⟨H1, G1, J1, C.S, fun _ _ => False⟩, fun r g' => PM.wp (lpK K kr r) g' Qf C.EX, ⟨rfl, rfl, ?_⟩, G1, J1, g1, ⟨(st1.env.rebase hno).setO, Aft.refl st1.vis, st1.si⟩, w3, ⟨fun t σ' H' G' J' g' s' st' w' => ?_, fun r v H' G' J' g' af' si' rr' w' => ?_, fun t σ' H' G' J' g' s' st' w' => (PM.of_lift w').elim, fun t σ' H' G' J' g' s' st' w' => (PM.of_lift w').elim⟩⟩, fun z => nomatch z⟩
      · cases e
        dsimp only at q2
        subst q2
        exact xv.base st.back
      · have w4 := PM.of_pur w'
        have ev : EnvR X.K C.H0 (outT t) (σ'.set i none) H' G' J' := by
          have z := (st'.env.lower bk).unset (i := i)
          rw [set_none_of (hout t)] at z
          exact z
        exact ⟨t, G', J', g', ⟨ev, st.aft.trans (afA.trans st'.aft), st'.si⟩, w4, fi.sub (afA.gg.trans s')⟩
      · have w4 := PM.of_pur w'
        exact fi.rt r v H' G' J' g' (st.aft.trans (afA.trans af')) si' (rr'.base bk) w4
    · rw [if_neg q] at w2
      exact (PM.of_lift w2).elim
  · have w4 := PM.of_pur w'
    exact ⟨t, G', J', g', ⟨st'.env.lower st.back, st.aft.trans st'.aft, st'.si⟩, w4, fi.sub s'⟩
  · have w4 := PM.of_pur w'
    exact fi.rt r v H' G' J' g' (st.aft.trans af') si' (rr'.base st.back) w4
/-! ### what a suite asks of its exception -/
variable {x : m β} {xn n f : Str} {a : Addr} {oe : Obj} {cls : Value} {d : Option Addr} {pn : List (Addr × Obj)} {fs : List (Str × D)} {Hb : Hp}
/-- e.f -/
theorem ce_xf {i : Nat} {p pos : Pos} {k : D → m β} (W : Catch X.K X.mg xn) (N : NoF X.K X.mg xn f) (hz : Zc cls d oe) (hf : ∃ vs, oe.data = .fields vs) (xv : XV X.K X.mg C.G0 C.J0 C.H0 Hb ⟨xn, fs⟩ cls d)
    (hd : ρ[i]? = some (some (.obj a)) := by rfl) (hp : PE (X.suite a ((a, oe) :: pn)) (.Name n p) (tVar i) := by exact pv _) (hb : attributeBase (.Name n p) f X.env (eval (.Name n p) X.env) = eval (.Name n p) X.env := by rfl) :
    CE C (X.suite a ((a, oe) :: pn)) ρ (.Attribute (.Name n p) f pos) dv (bnd (need (fs.lookup f)) k) k := fun Qf => by
  obtain ⟨Ce, gC, EC, FC, hexm⟩ := W.ex
  obtain ⟨Cn, gN, nf⟩ := N.ex
  rw [gC] at gN
  cases gN
  refine PE.imp (pe_xf FC nf hz hf hp hb) fun σ H Q ⟨G, J, g, st, w, h⟩ => ?_
  obtain ⟨dv1, e1, w2⟩ := of_need w
  generalize hx : (⟨xn, fs⟩ : Xc) = xx at xv
  cases xv with
  | z mm =>
    cases hx
    simp [List.lookup] at e1
  | @f x2 f2 C2 dd v2 d2 mm b gg jj hh rr =>
    cases hx
    have hm2 : X.mg xn = some (.ref C2) := mm
    rw [gC] at hm2
    cases hm2
    have e2 : f = f2 ∧ d2 = dv1 := by
      simp only [List.lookup] at e1
      split at e1
      · rename_i q
        exact ⟨by simpa using q, Option.some.inj e1⟩
      · cases e1
    obtain ⟨rfl, rfl⟩ := e2
    exact ⟨_, st.env.obj i a hd, rfl, rfl, dd, [(f, v2)], v2, rfl, st.aft.hh dd _ jj hh, by simp [List.lookup], h v2 d2 H G J g (Aft.refl st.vis) st.si (rr.sub st.aft.gg) w2⟩
/-- isinstance(e, S) -/
theorem ce_xis {i : Nat} {s : Str} {p1 p2 p3 pos : Pos} {k : Bool → m β} (W : Catch X.K X.mg xn) (S : Sort1 X.K X.mg xn s) (hz : Zc cls d oe) (hf : ∃ vs, oe.data = .fields vs) (xv : XV X.K X.mg C.G0 C.J0 C.H0 Hb ⟨xn, fs⟩ cls d) (hm : X.mg "isinstance" = none)
    (hd : ρ[i]? = some (some (.obj a)) := by rfl) (hp : PE (X.suite a ((a, oe) :: pn)) (.Name n p2) (tVar i) := by exact pv _) (hg : Gl X "isinstance" := by rfl) (hgs : Gl X s := by rfl) (hdbs : (s == ("__debug__" : Str)) = false := by decide)
    (he : starEach [.Name n p2, .Name s p3] X.env = (false, eval (.Name n p2) X.env) :: starEach [.Name s p3] X.env := by rfl) (he2 : starEach [.Name s p3] X.env = (false, eval (.Name s p3) X.env) :: starEach [] X.env := by rfl) (hpl : (backTo pos (starEach [.Name s p3] X.env)).any (·.1) = false := by rfl) :
    CE C (X.suite a ((a, oe) :: pn)) ρ (.Call (.Name "isinstance" p1) [.Name n p2, .Name s p3] [] pos) bv (k true) k := fun Qf => by
  obtain ⟨Ce, gC, EC, FC, hexm⟩ := W.ex
  obtain ⟨C2, S2, g2, g3, hk⟩ := S.ex
  rw [gC] at g2
  cases g2
  obtain ⟨C3, m3, rfl⟩ := xv.cls
  dsimp only at m3
  rw [gC] at m3
  cases m3
  refine PE.imp (pe_callB (call_isX EC hz hf hk) hg hm PyProof.Rows.boot_isinstance (pa_cons hp (pa_cons (pe_glob (v := .ref S2) hgs g3 rfl hdbs) pa_nil he2) he) (by decide) (by decide) he hpl) fun σ H Q ⟨G, J, g, st, w, h⟩ => ?_
  refine ⟨_, st.env.obj i a hd, rfl, fun dd hdd => ?_, h _ true H G J g (Aft.refl st.vis) st.si (.bl _) w⟩
  cases xv with
  | z mm => cases hdd
  | f mm b gg jj hh rr =>
    cases hdd
    exact ⟨_, st.aft.hh dd _ jj hh⟩
end
end Cl
namespace Cl
open PySem PySem.Spec PyProof.Rows L2
open MO
/-! ### calls of defs that raise nothing, where something may raise; {} -/
section
variable {γ : Type} {m : Type → Type} [PM γ m] {α β δ τ : Type} {C : Cc γ} {X : Cx} {ρ ρh : En}
theorem fin_callPn {sig : Sig} {f : Ar sig → P δ} {rk : δ → R} {rs : List R} {vs : List V} {k : δ → m β} {Qf : β → γ → Prop} {Q : VK} {H H1 G G1 : Hp} {J J1 : Addr → Prop} {g1 : γ} (af1 : Aft G J H G1 J1 H1) (si1 : C.S.si g1 G1 J1 H1) (ra : RAs X.K G1 vs rs) (hn : rs.length = sig.length)
    (w1 : PM.wp (bnd (nox (lift (callM sig f rs) : m δ)) k) g1 Qf C.EX)
    (h : ∀ v a H' G' J' g', Aft G J H G' J' H' → C.S.si g' G' J' H' → RR X.K G' J' H' H v (rk a) → PM.wp (k a) g' Qf C.EX → Q v H') : spC X.K S0 sig f rk vs H1 Q E0 := by
  refine ⟨G1, fun _ => False, (), rs, ⟨af1.vis.sub, fun _ h => h.elim, fun _ h => h.elim⟩, fun _ h => h, ra, hn, ?_⟩
  have w2 := PM.of_lift (PM.of_nox (PM.of_bnd w1))
  cases e1 : callM sig f rs with
  | no => rw [e1] at w2; exact w2.elim
  | ex q => rw [e1] at w2; exact w2.elim
  | ok d =>
    rw [e1] at w2
    intro v H' G' J' af si rr
    have n : New G1 H1 G' H' := ⟨af.gg, fun a o h => af.hh a o (fun z => z) h, af.gn, af.vis.sub⟩
    refine h v d H' G' J1 g1 (af1.trans (n.aft af1.vis)) (SIx.nw si1 n) ?_ w2
    have rr' : RR X.K G' J1 H' H1 v (rk d) := by
      cases q : rk d with
      | v d => rw [q] at rr; exact rr
      | o x => rw [q] at rr; exact rr
      | l c =>
        rw [q] at rr
        obtain ⟨p, h1, h2, h3, h4, h5⟩ := rr
        exact ⟨p, h1, h2, h3, fun j => af1.vis.dom p j h2, h5⟩
      | p xs d =>
        rw [q] at rr
        obtain ⟨t, p, v2, h1, ht, hr2, h2, h3, h4, h5⟩ := rr
        exact ⟨t, p, v2, h1, ht, hr2, h2, h3, fun j => af1.vis.dom p j h2, h5⟩
    exact rr'.base af1.back
theorem ce_callPn {x : Str} {lvl : Nat} {ps : List Str} {sig : Sig} {f : Ar sig → P δ} {rk : δ → R} {p pos : Pos} {e : Expr} {es : List Expr} {y : m β} {k : δ → m β} (c : Cal X.prog X.w X.K X.mg X.base x lvl ps (spC X.K S0 sig f rk)) (hr : Room lvl X.A) (hgd : X.A.guards = some [])
    (ha : CA C X ρ (e :: es) y (fun rs => bnd (nox (lift (callM sig f rs))) k)) (hl : (e :: es).length = sig.length := by rfl) (hg : Gl X x := by rfl) (hdb : (x == ("__debug__" : Str)) = false := by decide)
    (he : starEach (e :: es) X.env = (false, eval e X.env) :: starEach es X.env := by rfl) (hpl : (backTo pos (starEach es X.env)).any (·.1) = false := by rfl) : CE C X ρ (.Call (.Name x p) (e :: es) [] pos) rk y k := fun Qf => by
  refine PE.imp (pe_callG c hr hgd hg (ha Qf) hdb he hpl) fun σ H Q ⟨G, J, g, st, w, h⟩ => ⟨G, J, g, st, w, fun vs rs H1 G1 J1 g1 af1 si1 rrs hn w1 => ?_⟩
  exact fin_callPn af1 si1 rrs.ras (by rw [hn, hl]) w1 h
theorem ce_callPn0 {x : Str} {lvl : Nat} {ps : List Str} {f : Ar [] → P δ} {rk : δ → R} {p pos : Pos} {k : δ → m β} (c : Cal X.prog X.w X.K X.mg X.base x lvl ps (spC X.K S0 [] f rk)) (hr : Room lvl X.A) (hgd : X.A.guards = some [])
    (hg : Gl X x := by rfl) (hdb : (x == ("__debug__" : Str)) = false := by decide) : CE C X ρ (.Call (.Name x p) [] [] pos) rk (bnd (nox (lift (f ()))) k) k := fun Qf => by
  refine PE.imp (pe_callG0 c hr hgd hg hdb) fun σ H Q ⟨G, J, g, st, w1, h⟩ => ?_
  exact fin_callPn (sig := []) (f := f) (rs := []) (Aft.refl st.vis) st.si .nil rfl w1 h
theorem ce_callPnK0 {x : Str} {lvl : Nat} {ps ks : List Str} {perm : List Nat} {sig : Sig} {f : Ar sig → P δ} {rk : δ → R} {p pos : Pos} {kws : List Keyword} {y : m β} {k : δ → m β} (c : Cal X.prog X.w X.K X.mg X.base x lvl ps (spC X.K S0 sig f rk)) (b : KwB X.K X.mg x ps 0 ks perm) (hr : Room lvl X.A) (hgd : X.A.guards = some [])
    (ha : CK C X ρ kws y (fun rs => bnd (nox (lift (callM sig f (pick (R.v .none) perm rs)))) k)) (hpm : perm.length = ps.length := by rfl) (hl : perm.length = sig.length := by rfl) (hkl : kws.length = ks.length := by rfl) (hg : Gl X x := by rfl) (hdb : (x == ("__debug__" : Str)) = false := by decide)
    (hall : (backToKw pos (keywordEach kws X.env)).all (·.1.isSome) = true := by rfl) (hks : (backToKw pos (keywordEach kws X.env)).filterMap (·.1) = ks := by rfl)
    (hpl : ((backTo pos (starEach [] X.env)).any (·.1) || (backToKw pos (keywordEach kws X.env)).any (·.1.isNone)) = false := by rfl) : CE C X ρ (.Call (.Name x p) [] kws pos) rk y k := fun Qf => by
  refine PE.imp (pe_callGK0 c b hr hgd hg (ha Qf) hpm hkl hdb (fun σ H Q ⟨G, J, g, st, w, h⟩ => ⟨G, J, g, st, w, fun vs rs H' G' J' g' af si rrs hn w' => ⟨by rw [rrs.length, hn], h vs rs H' G' J' g' af si rrs hn w'⟩⟩) hall hks hpl)
    fun σ H Q ⟨G, J, g, st, w, h⟩ => ⟨G, J, g, st, w, fun vs rs H1 G1 J1 g1 af1 si1 rrs hn w1 => ?_⟩
  exact fin_callPn af1 si1 (pick_ras rrs.ras) (by unfold pick; rw [List.length_map, hl]) w1 h
/-- {} -/
theorem ce_dct0 {pos : Pos} {k : D → m β} : CE C X ρ (.Dict [] [] pos) dv (k (.dict [])) k := fun Qf =>
  PE.imp pe_dnewK fun σ H Q ⟨G, J, g, st, w, h⟩ p hp => by
    have n := New.laid (o := .dK []) st.vis.sub hp
    exact h _ (.dict []) _ _ J g (n.aft st.vis) (SIx.nw st.si n) (.dct upd_same .nil) w
end
/-! ### what the written part says -/
section
variable {P : Program} {K : PySem.W.Frag} {mg : Str → Option Value} {h : Heap} {x s f y : Str} {st : Stmt} {C S fI cda cc N : Addr} {nm q qual : Str} {bs bm : List Value} {sn : List Str} {sub : List Value} {ab : Bool} {col : Option Bool} {dd : Option Addr} {k0 k1 k2 k3 k5 : Option Value}
variable {kV doc pm ct oc ccl cl : Value} {an od cdd cld : Option Addr} {osl ccs csl : Array (Option Value)} {vs : Array Value} {file : Str} {tf : Tok}
open PySem.W
theorem errk_mk {ps : List Str} (l : K.lookup C = some (excClassObj nm q C N bs bm true sn sub ab col dd k0 k1 k2 k3 k5 "ValueError.__new__")) (m : PySem.HandSPX.refsVE bm = true) (s1 : findIn K (.ref C) "__setattr__" = some (some (.builtin "object.__setattr__"))) (s2 : subIn K (.ref C) (.type "BaseException") = some true)
    (s3 : typeIn K (.ref C) = some (.type "type")) (s4 : keepIn K (.ref C) = true) (g1 : findIn K (.ref C) "__getattribute__" = some (some (.builtin "BaseException.__getattribute__"))) (g2 : findIn K (.ref C) "__getattr__" = some none) (g3 : hasDictIn K C = true)
    (i1 : findIn K (.ref C) "__init__" = some (some (.ref fI))) (i2 : typeIn K (.ref fI) = some (.type "function"))
    (i3 : K.lookup fI = some ⟨oc, od, .func (ksFn "__init__" qual (defArgs st) (defBody st) (defScope st) .none kV doc pm an (.ref cda) ct cc), osl⟩) (i4 : codeIn K (.ref cda) qual = true) (i5 : K.lookup cda = some ⟨ccl, cdd, .fields vs, ccs⟩) (i6 : vs[2]? = some (.str file tf))
    (i7 : ((P.main.file : Str) == file) = true) (i8 : K.lookup cc = some ⟨cl, cld, .cell (some (.ref C)), csl⟩)
    (u1 : ks_superIn K C C "__init__" = some (some (.builtin "ValueError.__init__"))) (u2 : subIn K (.ref C) (.type "ValueError") = some true) (u3 : mroIn K C (.ref C) = some true) (u4 : nsIn K cStatics "thirdparty.any" = some none) (u5 : (P.main.scope.names.lookup ("super" : Str)).isSome = false)
    (i9 : ∀ (qual : Str) (kV doc pm : Value) (an : Option Addr) (cdv ct : Value) (cc : Addr) (us : List Value), us.length = ps.length → bindArgs (ksFn "__init__" qual (defArgs st) (defBody st) (defScope st) .none kV doc pm an cdv ct cc) ⟨us, []⟩ = pure (ps.zip us)) : PySem.ErrX.ErrK P K C st ps :=
  ⟨⟨⟨_, _, _, _, _, _, _, _, _, _, _, _, _, _, _, l, m⟩, s1, s2, s3, s4⟩, ⟨g1, g2, s2, g3⟩, ⟨fI, cda, cc, qual, kV, doc, pm, ct, oc, ccl, cl, an, od, cdd, cld, osl, ccs, csl, vs, file, tf, i1, i2, i3, i4, i5, i6, i7, i8, fun us hu => i9 _ _ _ _ _ _ _ _ us hu⟩, u1, u2, u3, u4, u5⟩
theorem err1_mk (X : K.In h) (G : h.Ns mainGlobals mg) (E : PySem.ErrX.ErrK P K C st ["self", y]) (T : PySem.ErrX.Txt1 st y f) (a : nsIn K mainGlobals x = some (some (.ref C))) (n : findIn K (.ref C) f = some none) (u : nsIn K mainGlobals "super" = some none) : Err1 P K mg x st y f :=
  ⟨T, ⟨C, PySem.W.mg_of X G a, E, n⟩, PySem.W.mg_none_of X G u⟩
theorem err0_mk (X : K.In h) (G : h.Ns mainGlobals mg) (E : PySem.ErrX.ErrK P K C st ["self"]) (T : PySem.ErrX.Txt0 st) (a : nsIn K mainGlobals x = some (some (.ref C))) (u : nsIn K mainGlobals "super" = some none) : Err0 P K mg x st :=
  ⟨T, ⟨C, PySem.W.mg_of X G a, E⟩, PySem.W.mg_none_of X G u⟩
theorem catch_mk (X : K.In h) (G : h.Ns mainGlobals mg) (a : nsIn K mainGlobals x = some (some (.ref C))) (g1 : findIn K (.ref C) "__getattribute__" = some (some (.builtin "BaseException.__getattribute__"))) (g2 : findIn K (.ref C) "__getattr__" = some none) (s2 : subIn K (.ref C) (.type "BaseException") = some true) (g3 : hasDictIn K C = true)
    (c1 : findIn K (.ref C) "__class__" = some (some (.builtin "object.__class__"))) (c2 : specialIn K (.builtin "object.__class__") "__get__" = some (some (.builtin "getset_descriptor.__get__"))) (c3 : takesIn K (.builtin "object.__class__") = some true) (c4 : mroIn K C (.type "object") = some true)
    (s3 : typeIn K (.ref C) = some (.type "type")) (c5 : subIn K (.ref C) (.ref C) = some true) : Catch K mg x :=
  ⟨C, PySem.W.mg_of X G a, ⟨g1, g2, s2, g3, c1, c2, c3, c4⟩, ⟨g1, g2, s2, g3⟩, exm_ref s2 g3 s3 c5⟩
theorem sort_mk (X : K.In h) (G : h.Ns mainGlobals mg) (a : nsIn K mainGlobals x = some (some (.ref C))) (b : nsIn K mainGlobals s = some (some (.ref S))) (g3 : hasDictIn K S = true) (s3 : typeIn K (.ref S) = some (.type "type")) (c5 : subIn K (.ref C) (.ref S) = some true) : Sort1 K mg x s := by
  refine ⟨C, S, PySem.W.mg_of X G a, PySem.W.mg_of X G b, ?_⟩
  unfold kitOne
  split
  · rfl
  · obtain ⟨cd, hc, _⟩ := any_some g3
    have e2 : ((clsIn K S).isSome && typeIn K (.ref S) == some (.type "type")) = true := by rw [hc, s3] <;> rfl
    show (if ((clsIn K S).isSome && typeIn K (.ref S) == some (.type "type")) = true then subIn K (.ref C) (.ref S) else none) = some true
    rw [if_pos e2]
    exact c5
theorem nof_mk (X : K.In h) (G : h.Ns mainGlobals mg) (a : nsIn K mainGlobals x = some (some (.ref C))) (n : findIn K (.ref C) f = some none) : NoF K mg x f := ⟨C, PySem.W.mg_of X G a, n⟩
end
end Cl

set_option Elab.async false
set_option linter.all false
set_option maxRecDepth 100000
set_option maxHeartbeats 400000
/-! the clean layer: plain facts of texts -/
namespace Cl
open PySem PySem.Spec PyProof.Rows L2
open MO
theorem tlLen (x : Str) : (TL.tl x).length = x.length := (TL.len_tl x).symm
theorem sokIff (x : Str) : PyData.strOk x = (TL.tl x).all (fun c => decide (c < 1114112)) := by
  show x.cps.all _ = x.cps.toList.all _
  rw [Array.all_toList]
theorem spl_mem (S : List Nat) : ∀ (l : List Nat) (k : Nat) (acc : List Nat), ∀ p ∈ TL.spl S k acc l, p.length ≤ acc.length + l.length ∧ ∀ c ∈ p, c ∈ acc ∨ c ∈ l
  | [], k, acc, p, h => by
    rw [TL.spl_nil] at h
    rw [List.mem_singleton.mp h]
    exact ⟨Nat.le_refl _, fun c hc => .inl hc⟩
  | c :: r, 0, acc, p, h => by
    unfold TL.spl at h
    split at h
    · rcases List.mem_cons.mp h with rfl | h
      · exact ⟨Nat.le_add_right _ _, fun c hc => .inl hc⟩
      · obtain ⟨a, b⟩ := spl_mem S r _ _ p h
        exact ⟨by rw [List.length_cons]; rw [List.length_nil] at a; omega, fun d hd => by
          rcases b d hd with z | z
          · cases z
          · exact .inr (List.mem_cons_of_mem _ z)⟩
    · obtain ⟨a, b⟩ := spl_mem S r _ _ p h
      exact ⟨by rw [List.length_append, List.length_singleton] at a; rw [List.length_cons]; omega, fun d hd => by
        rcases b d hd with z | z
        · rcases List.mem_append.mp z with z | z
          · exact .inl z
          · rw [List.mem_singleton.mp z]; exact .inr List.mem_cons_self
        · exact .inr (List.mem_cons_of_mem _ z)⟩
  | c :: r, k + 1, acc, p, h => by
    unfold TL.spl at h
    obtain ⟨a, b⟩ := spl_mem S r _ _ p h
    exact ⟨by rw [List.length_cons]; omega, fun d hd => (b d hd).imp (fun z => z) fun z => List.mem_cons_of_mem _ z⟩
theorem spl_ne (S : List Nat) : ∀ (l : List Nat) (k : Nat) (acc : List Nat), TL.spl S k acc l ≠ []
  | [], k, acc => by rw [TL.spl_nil]; intro z; cases z
  | c :: r, 0, acc => by
    unfold TL.spl
    split
    · intro z; cases z
    · exact spl_ne S r _ _
  | c :: r, k + 1, acc => by
    unfold TL.spl
    exact spl_ne S r _ _
theorem split_mem {x y : Str} (hy : TL.tl y ≠ []) (hk : y.cps.all (· < 256) = true) {p : Str} (h : p ∈ Txt.split x y) : p.length ≤ x.length ∧ (PyData.strOk x = true → PyData.strOk p = true) := by
  have e := TL.split_spl x y hy (TL.kind_ok hk)
  have hm : TL.tl p ∈ TL.spl (TL.tl y) 0 [] (TL.tl x) := by rw [← e]; exact List.mem_map_of_mem h
  obtain ⟨a, b⟩ := spl_mem _ _ _ _ _ hm
  refine ⟨by rw [tlLen, tlLen] at a; simpa using a, fun hs => ?_⟩
  rw [sokIff, List.all_eq_true] at hs ⊢
  intro c hc
  rcases b c hc with z | z
  · cases z
  · exact hs c z
theorem split_ne {x y : Str} (hy : TL.tl y ≠ []) (hk : y.cps.all (· < 256) = true) : Txt.split x y ≠ [] := fun z => by
  have e := TL.split_spl x y hy (TL.kind_ok hk)
  rw [z] at e
  exact spl_ne _ _ _ _ e.symm
/-- a text of at most n signs, all of them signs -/
structure Tx (n : Nat) (x : Str) : Prop where
  len : x.length ≤ n
  ok : PyData.strOk x = true
theorem Tx.le {n k : Nat} {x : Str} (h : Tx n x) (l : n ≤ k) : Tx k x := ⟨Nat.le_trans h.len l, h.ok⟩
theorem Tx.split {n : Nat} {x y : Str} (h : Tx n x) (hy : TL.tl y ≠ []) (hk : y.cps.all (· < 256) = true) : ∀ p ∈ Txt.split x y, Tx n p := fun p hp => by
  obtain ⟨a, b⟩ := split_mem hy hk hp
  exact ⟨Nat.le_trans a h.len, b h.ok⟩
theorem splitF_ok {n : Nat} {x y : Str} (h : Tx n x) (hn : n ≤ 1000000) (hy : (y.length == 0) = false) : splitF (.str x) (.str y) = some ((Txt.split x y).map PyData.str) := by
  have big := sizeLine_eq
  have := h.len
  unfold splitF
  dsimp only
  rw [if_pos ⟨hy, by omega⟩]
theorem split_few {n : Nat} {x y : Str} (h : Tx n x) : (Txt.split x y).length ≤ n + 2 := Nat.le_trans (split_le x y) (Nat.add_le_add_right h.len 2)
theorem Tx.app {n k : Nat} {x y : Str} (h : Tx n x) (h2 : Tx k y) : Tx (n + k) (x ++ y) := by
  have e := TL.tl_append x y
  refine ⟨?_, ?_⟩
  · rw [← tlLen, e, List.length_append, tlLen, tlLen]
    exact Nat.add_le_add h.len h2.len
  · have a := h.ok
    have b := h2.ok
    rw [sokIff] at a b ⊢
    rw [e, List.all_append, a, b]
    rfl
theorem addS_ok {n k : Nat} {x y : Str} (h : Tx n x) (h2 : Tx k y) (hn : n + k ≤ 1000000) : addF (.str x) (.str y) = some (.str (x ++ y)) := by
  have big := sizeLine_eq
  have a := h.len
  have b := h2.len
  show (if x.length + y.length ≤ sizeLine then some (PyData.str (x ++ y)) else none) = _
  rw [if_pos (by omega)]
theorem Tx.cut {n : Nat} {x : Str} (h : Tx n x) (lo hi : Option Int) : Tx n (cutS x lo hi) := by
  refine ⟨?_, ?_⟩
  · refine Nat.le_trans ?_ h.len
    rw [← tlLen, ← tlLen x]
    show ((TL.tl x).drop _ |>.take _).length ≤ _
    rw [List.length_take, List.length_drop]
    omega
  · have a := h.ok
    rw [sokIff, List.all_eq_true] at a ⊢
    exact fun c hc => a c (List.mem_of_mem_drop (List.mem_of_mem_take hc))
theorem slS_ok {n : Nat} {x : Str} (h : Tx n x) (hn : n ≤ 1000000) (lo hi : Option Int) : slF (.str x) lo hi = some (.str (cutS x lo hi)) := by
  have big := sizeLine_eq
  have := h.len
  show (if x.length ≤ sizeLine then some (PyData.str (cutS x lo hi)) else none) = _
  rw [if_pos (by omega)]
theorem lenS_ok {n : Nat} {x : Str} (h : Tx n x) (hn : n ≤ 1000000) : lenF [.str x] = some ((x.length : Nat) : Int) := by
  have big := sizeLine_eq
  have := h.len
  show (if x.length ≤ sizeLine then some ((x.length : Nat) : Int) else none) = _
  rw [if_pos (by omega)]
/-! ### lists of texts -/
theorem lay_strs : ∀ {ws : List Str}, (∀ w ∈ ws, PyData.strOk w = true) → PyData.canLayAll0 (ws.map PyData.str) = true
  | [], _ => rfl
  | w :: ws, h => by
    rw [List.map_cons, PyData.canLayAll0, PyData.canLay0, h w List.mem_cons_self, lay_strs fun z hz => h z (List.mem_cons_of_mem _ hz)]
    rfl
theorem depth_strs : ∀ (ws : List Str), PyData.depthAll (ws.map PyData.str) ≤ 1
  | [] => Nat.zero_le _
  | w :: ws => by
    have := depth_strs ws
    rw [List.map_cons, PyData.depthAll, PyData.depth]
    omega
theorem shaped_strs {ws : List Str} (h : ∀ w ∈ ws, PyData.strOk w = true) : SeqAt.shaped (.list (ws.map PyData.str)) = true := by
  unfold SeqAt.shaped
  rw [Bool.and_eq_true]
  refine ⟨by rw [PyData.canLay0]; exact lay_strs h, decide_eq_true ?_⟩
  have := depth_strs ws
  simp only [PyData.depth]
  omega
theorem eqNil_strs {ws : List Str} (h : ∀ w ∈ ws, PyData.strOk w = true) : eqF (.list (ws.map PyData.str)) (.list []) = some ws.isEmpty := by
  show (if SeqAt.shaped (.list (ws.map PyData.str)) = true ∧ SeqAt.shaped (.list []) = true then some (PyData.eqv (.list (ws.map PyData.str)) (.list [])) else none) = _
  rw [if_pos ⟨shaped_strs h, by decide⟩]
  cases ws <;> rfl
theorem neqNil_strs {ws : List Str} (h : ∀ w ∈ ws, PyData.strOk w = true) : neF (.list (ws.map PyData.str)) (.list []) = some (!ws.isEmpty) := by
  show (eqF _ _).map (!·) = _
  rw [eqNil_strs h]
  rfl
theorem neqNil_ints (ns : List Int) : neF (.list (ns.map PyData.int)) (.list []) = some (!ns.isEmpty) := by
  have e : eqF (.list (ns.map PyData.int)) (.list []) = some ns.isEmpty := by
    show (if SeqAt.shaped (.list (ns.map PyData.int)) = true ∧ SeqAt.shaped (.list []) = true then some (PyData.eqv (.list (ns.map PyData.int)) (.list [])) else none) = _
    rw [if_pos ⟨shaped_ints ns, by decide⟩]
    cases ns <;> rfl
  show (eqF _ _).map (!·) = _
  rw [e]
  rfl
theorem scStrs (ys : List Str) : (ys.map PyData.str).all Cl.sc = true := List.all_eq_true.mpr fun d hd => by
  obtain ⟨y, _, rfl⟩ := List.mem_map.mp hd
  rfl
theorem anyStrs (ys : List Str) (w : Str) : ((ys.map PyData.str).any fun y => eqS y (.str w)) = ys.any fun y => y == w := by
  rw [List.any_map]
  rfl
theorem inT_strs (ys : List Str) (w : Str) : inF (.str w) (.tuple (ys.map PyData.str)) = some (ys.any fun y => y == w) := by
  show (if (Cl.sc (.str w) && (ys.map PyData.str).all Cl.sc) = true then some ((ys.map PyData.str).any fun y => eqS y (.str w)) else none) = _
  rw [scStrs, if_pos (show (Cl.sc (.str w) && true) = true from rfl), anyStrs]
theorem inL_strs (ys : List Str) (w : Str) : inF (.str w) (.list (ys.map PyData.str)) = some (ys.any fun y => y == w) := by
  show (if (Cl.sc (.str w) && (ys.map PyData.str).all Cl.sc) = true then some ((ys.map PyData.str).any fun y => eqS y (.str w)) else _) = _
  rw [scStrs, if_pos (show (Cl.sc (.str w) && true) = true from rfl), anyStrs]
theorem ninT_strs (ys : List Str) (w : Str) : ninF (.str w) (.tuple (ys.map PyData.str)) = some (!(ys.any fun y => y == w)) := by
  show (inF _ _).map (!·) = _
  rw [inT_strs]
  rfl
theorem ninL_strs (ys : List Str) (w : Str) : ninF (.str w) (.list (ys.map PyData.str)) = some (!(ys.any fun y => y == w)) := by
  show (inF _ _).map (!·) = _
  rw [inL_strs]
  rfl
theorem idxS_any : ∀ (ys : List Str) (w : Str), (ys.any fun y => y == w) = (idxS ys w).isSome
  | [], _ => rfl
  | y :: ys, w => by
    rw [List.any_cons, idxS, idxS_any ys w]
    by_cases h : y = w
    · rw [if_pos h, h, beq_self_eq_true]
      rfl
    · rw [if_neg h, beq_eq_false_iff_ne.mpr h]
      cases idxS ys w <;> rfl
/-! ### places of a list -/
theorem atI_nat {xs : List D} {i : Nat} : atI xs ((i : Nat) : Int) = if i < xs.length then xs[i]? else none := by
  unfold atI ixN
  rw [if_pos (Int.natCast_nonneg i)]
  by_cases h : i < xs.length
  · rw [if_pos (Int.ofNat_lt.mpr h), if_pos h]
    rfl
  · rw [if_neg (fun z => h (Int.ofNat_lt.mp z)), if_neg h]
    rfl
theorem ixL0 {x : D} {xs : List D} : ixF (.list (x :: xs)) (.int 0) = some x := by
  show atI (x :: xs) ((0 : Nat) : Int) = _
  rw [atI_nat, if_pos (by rw [List.length_cons]; omega)]
  rfl
theorem ixL1 {x y : D} {xs : List D} : ixF (.list (x :: y :: xs)) (.int 1) = some y := by
  show atI (x :: y :: xs) ((1 : Nat) : Int) = _
  rw [atI_nat, if_pos (by rw [List.length_cons, List.length_cons]; omega)]
  rfl
theorem cutD_hi {xs : List D} {k : Nat} : cutD xs (some ((k : Nat) : Int)) none = xs.drop k := by
  unfold cutD
  rw [HT.sIx_none, HT.sIx_nat]
  rcases Nat.le_total k xs.length with z | z
  · rw [Nat.min_eq_left z, List.take_of_length_le (by rw [List.length_drop]; omega)]
  · rw [Nat.min_eq_right z, List.drop_length, List.take_nil, List.drop_of_length_le z]
theorem cutD_lo {xs : List D} {k : Nat} : cutD xs none (some ((k : Nat) : Int)) = xs.take k := by
  unfold cutD
  rw [HT.sIx_none, HT.sIx_nat, List.drop_zero, Nat.sub_zero]
  rcases Nat.le_total k xs.length with z | z
  · rw [Nat.min_eq_left z]
  · rw [Nat.min_eq_right z, List.take_length, List.take_of_length_le z]
theorem slL_hi {xs : List D} {k : Nat} : slF (.list xs) (some ((k : Nat) : Int)) none = some (.list (xs.drop k)) := by
  show some (PyData.list (cutD xs (some ((k : Nat) : Int)) none)) = _
  rw [cutD_hi]
theorem slL_lo {xs : List D} {k : Nat} : slF (.list xs) none (some ((k : Nat) : Int)) = some (.list (xs.take k)) := by
  show some (PyData.list (cutD xs none (some ((k : Nat) : Int)))) = _
  rw [cutD_lo]
theorem enumD_nil : enumD [] = [] := rfl
theorem appF_ok {xs : List D} {d : D} (h : xs.length ≤ 1000000) : appF xs d = some (xs ++ [d]) := by
  have big := sizeLine_eq
  unfold appF
  rw [if_pos (by omega)]
/-- a list with its places, from n on -/
def enumN : Nat → List D → List D
  | _, [] => []
  | n, d :: ds => .tuple [.int (n : Nat), d] :: enumN (n + 1) ds
theorem enumN_zip : ∀ (ds : List D) (n : Nat), (ds.zipIdx n).map (fun p => PyData.tuple [.int (p.2 : Nat), p.1]) = enumN n ds
  | [], _ => rfl
  | d :: ds, n => by rw [List.zipIdx_cons, List.map_cons, enumN_zip ds (n + 1)]; rfl
theorem enumD_eq (ds : List D) : enumD ds = enumN 0 ds := enumN_zip ds 0
theorem enumF_list (ds : List D) : enumF [.list ds] = some (enumN 0 ds) := by
  show some (enumD ds) = _
  rw [enumD_eq]
theorem enumF_tuple (ds : List D) : enumF [.tuple ds] = some (enumN 0 ds) := by
  show some (enumD ds) = _
  rw [enumD_eq]
/-! ### joined, repeated -/
theorem asStrsMap : ∀ ys : List Str, asStrs (ys.map PyData.str) = some ys
  | [] => rfl
  | y :: ys => by rw [List.map_cons, asStrs, asStrsMap ys]; rfl
theorem sumLe : ∀ {ys : List Str} {n : Nat}, (∀ y ∈ ys, y.length ≤ n) → (ys.map (·.length)).sum ≤ ys.length * n
  | [], _, _ => Nat.zero_le _
  | y :: ys, n, h => by
    have h1 := h y List.mem_cons_self
    have h2 := sumLe fun z hz => h z (List.mem_cons_of_mem _ hz)
    rw [List.map_cons, List.sum_cons, List.length_cons, Nat.succ_mul]
    omega
theorem joinLlen {S : List Nat} : ∀ {ps : List (List Nat)} {n : Nat}, (∀ p ∈ ps, p.length ≤ n) → (TL.joinL S ps).length ≤ ps.length * (n + S.length)
  | [], _, _ => Nat.zero_le _
  | [p], n, h => by
    have := h p List.mem_cons_self
    show p.length ≤ _
    rw [List.length_singleton]
    omega
  | p :: q :: r, n, h => by
    have h1 := h p List.mem_cons_self
    have h2 := joinLlen (S := S) fun z hz => h z (List.mem_cons_of_mem p hz)
    show (p ++ (S ++ TL.joinL S (q :: r))).length ≤ _
    rw [List.length_append, List.length_append, List.length_cons, Nat.succ_mul]
    omega
theorem joinLall {S : List Nat} {f : Nat → Bool} (hS : S.all f = true) : ∀ {ps : List (List Nat)}, (∀ p ∈ ps, p.all f = true) → (TL.joinL S ps).all f = true
  | [], _ => rfl
  | [p], h => h p List.mem_cons_self
  | p :: q :: r, h => by
    have h1 := h p List.mem_cons_self
    have h2 := joinLall hS fun z hz => h z (List.mem_cons_of_mem p hz)
    show (p ++ (S ++ TL.joinL S (q :: r))).all f = true
    rw [List.all_append, List.all_append, h1, hS, h2]
    rfl
theorem join_tx {k n : Nat} {a : Str} {ys : List Str} (ha : Tx k a) (hb : ∀ y ∈ ys, Tx n y) (hn : ys.length ≤ 1000) (hn2 : n + k ≤ 10000) : joinF (.str a) (.list (ys.map PyData.str)) = some (.str (Txt.join a ys)) ∧ Tx (ys.length * (n + k)) (Txt.join a ys) := by
  have h1 := sumLe (n := n) fun y hy => (hb y hy).len
  have h3 : ys.length * (n + k) ≤ 1000 * 10000 := Nat.mul_le_mul hn hn2
  have h4 := Nat.mul_le_mul_left ys.length ha.len
  rw [Nat.mul_add] at h3
  refine ⟨?_, ?_, ?_⟩
  · unfold joinF
    dsimp only
    rw [asStrsMap]
    dsimp only
    rw [if_pos (by omega)]
  · rw [TL.join_eq, ← tlLen, TL.tl_join]
    have := joinLlen (S := TL.tl a) (ps := ys.map TL.tl) (n := n) fun p hp => by
      obtain ⟨y, hy, rfl⟩ := List.mem_map.mp hp
      rw [tlLen]
      exact (hb y hy).len
    rw [List.length_map, tlLen] at this
    exact Nat.le_trans this (Nat.mul_le_mul_left _ (Nat.add_le_add_left ha.len n))
  · have ha2 := ha.ok
    rw [sokIff] at ha2
    rw [TL.join_eq, sokIff, TL.tl_join]
    refine joinLall ha2 fun p hp => ?_
    obtain ⟨y, hy, rfl⟩ := List.mem_map.mp hp
    rw [← sokIff]
    exact (hb y hy).ok
theorem Tx.rep {n : Nat} {a : Str} (h : Tx n a) (k : Nat) : Tx (k * n) (repS a k) := by
  refine ⟨by rw [repS_len]; exact Nat.mul_le_mul_left _ h.len, ?_⟩
  have ha := h.ok
  rw [sokIff, List.all_eq_true] at ha ⊢
  intro c hc
  have e : TL.tl (repS a k) = (List.replicate k (TL.tl a)).flatten := repS_tl a k
  rw [e] at hc
  obtain ⟨l, hl, hcl⟩ := List.mem_flatten.mp hc
  rw [List.eq_of_mem_replicate hl] at hcl
  exact ha c hcl
theorem mulS_ok {a : Str} {k : Int} (h1 : 1 ≤ a.length) (h2 : a.length ≤ 1000) (h3 : 2 ≤ k) (h4 : k ≤ 10000) : mulF (.str a) (.int k) = some (.str (repS a k.toNat)) := by
  show (if 1 ≤ a.length ∧ a.length ≤ 1000 ∧ 2 ≤ k ∧ k ≤ 10000 then some (PyData.str (repS a k.toNat)) else none) = _
  rw [if_pos ⟨h1, h2, h3, h4⟩]
theorem addL_ok {a b : List D} (h : a.length + b.length ≤ 1000000) : addL (.list a) (.list b) = some (a ++ b) := by
  have big := sizeLine_eq
  show (if a.length + b.length ≤ sizeLine then some (a ++ b) else none) = _
  rw [if_pos (by omega)]
/-- reckoned: a text of at most n signs -/
def txB (n : Nat) : D → Bool
  | .str s => decide (s.length ≤ n) && PyData.strOk s
  | _ => false
theorem txB_ok {n : Nat} {d : D} (h : txB n d = true) : ∃ s, d = .str s ∧ Tx n s := by
  cases d with
  | str s =>
    unfold txB at h
    rw [Bool.and_eq_true, decide_eq_true_eq] at h
    exact ⟨s, rfl, h.1, h.2⟩
  | _ => cases h
theorem txB_all {n : Nat} {l : List D} (h : l.all (txB n) = true) {d : D} (hd : d ∈ l) : ∃ s, d = .str s ∧ Tx n s := txB_ok (List.all_eq_true.mp h d hd)
end Cl

set_option Elab.async false
set_option linter.all false
set_option autoImplicit false
set_option maxRecDepth 100000
set_option maxHeartbeats 400000
/-! the clean layer, part ZB: sorted, dict displays as data, an item taken out of one's own list and stored -/
namespace Cl
open PySem PySem.Spec PyProof.Rows L2
open MO
/-! ### sorted(xs), xs a list or a tuple of data of one kind -/
section
variable {prog : Program} {w : World} {A : Around} {E : Value → Shared → Prop} {s : Shared}
theorem collect_tup {l : Addr} {vs : List Value} {Q : List Value → Shared → Prop} (hl : IsTup s.heap l vs.toArray)
    (h : Q vs { s with heap := (s.heap.push (seqObj "list" #[] 0)).update s.heap.objs.size (Obj.mapSeq (· ++ vs.toArray)) }) (hsz : vs.length ≤ sizeLine) :
    wpAny (model prog w) A (collect (.ref l)) Q E s := by
  obtain ⟨o, ho, hc, n, hd⟩ := id hl
  unfold collect
  refine wpAny_bind (wpAny_runValue (codeAny_builtin entry_proto_collect' ?_))
  show wpAny _ _ (do again (.builtin "list.__iadd__" ⟨[← newList [], .ref l], []⟩)) _ _ s
  refine wpAny_bind (wpAny_newList (wpAny_pure ⟨Code.quiet_builtin _ (by decide +kernel), codeAny_builtin entry_list_iadd' ?_⟩))
  show wpAny _ _ (Builtin.List.listExtendWith (.ref s.heap.objs.size) (.ref l) (.ref s.heap.objs.size)) _ _ { s with heap := s.heap.push (seqObj "list" #[] 0) }
  unfold Builtin.List.listExtendWith
  have ho' : (s.heap.push (seqObj "list" #[] 0)).get? l = some o := Heap.get?_push_of_some _ ho
  refine wpAny_bind (wpAny_typeOf (T := "tuple") ⟨o, ho', hc⟩ ?_)
  have ht : (Value.type "tuple" == Value.type "tuple") = true := by rfl
  rw [if_pos (by rw [ht]; simp)]
  refine wpAny_bind (listItems_at ho' hd ?_)
  refine wpAny_bind (listItems_at (xs := #[]) (n := 0) (Heap.get?_push_size _ rfl) rfl ?_)
  rw [if_neg (by simp)]
  refine wpAny_bind (listUpdate_at (xs := #[]) (n := 0) (Heap.get?_push_size _ rfl) rfl ?_ (Nat.zero_le _) (by show (#[] ++ vs.toArray).size ≤ sizeLine + 1; simp only [Array.size_append, List.size_toArray, List.length_nil]; omega))
  refine wpAny_pure ?_
  show wpAny (model prog w) A (do
      let o ← load s.heap.objs.size
      match o.data with
      | .seq xs _ => pure xs.toList
      | _ => unsupported "internal:collect") Q E { s with heap := (s.heap.push (seqObj "list" #[] 0)).update s.heap.objs.size (Obj.mapSeq (· ++ vs.toArray)) }
  refine wpAny_bind (wpAny_load (get?_update_seq (Heap.get?_push_size _ rfl) _) ?_)
  show wpAny _ _ (pure ((#[] : Array Value) ++ vs.toArray).toList) Q E _
  refine wpAny_pure ?_
  rw [show ((#[] : Array Value) ++ vs.toArray).toList = vs by simp]
  exact h
/-- a list or a tuple -/
def IsLT (h : Heap) (l : Addr) (vs : List Value) : Prop := h.IsList l vs.toArray ∨ IsTup h l vs.toArray
theorem collect_lt {l : Addr} {vs : List Value} {Q : List Value → Shared → Prop} (hl : IsLT s.heap l vs)
    (h : Q vs { s with heap := (s.heap.push (seqObj "list" #[] 0)).update s.heap.objs.size (Obj.mapSeq (· ++ vs.toArray)) }) (hsz : vs.length ≤ sizeLine) :
    wpAny (model prog w) A (collect (.ref l)) Q E s := by
  rcases hl with hl | hl
  · exact collect_list hl h hsz
  · exact collect_tup hl h hsz
theorem sorted_of_lt {l : Addr} {vs : List Value} {Q : Value → Shared → Prop} (hl : IsLT s.heap l vs) (hL : vs.length ≤ sizeLine)
    (body : ∀ E' : Value → Shared → Prop, wpAny (model prog w) A.in1.in1 (Builtin.«list.sort» ⟨[.ref (s.heap.objs.size + 1)], []⟩) (fun f s' => f = .done (.ret .none) ∧ Q (.ref (s.heap.objs.size + 1)) s') E' { s with heap := PySem.W.copyHeap s.heap vs }) :
    wpAny (model prog w) A (call (.builtin "sorted") [.ref l]) Q E s := by
  refine PySem.Calls.call_function_entry kind_sorted plain_sorted entry_sorted (args_sorted1 _) ?_
  unfold Builtin.«sorted»
  refine wpAny_bind (m := checkCount "sorted" 1 1 _) (wpAny_pure ?_)
  refine wpAny_bind (collect_lt hl ?_ hL)
  refine wpAny_bind (wpAny_newList ?_ hL)
  have hsz : ((s.heap.push (seqObj "list" #[] 0)).update s.heap.objs.size (Obj.mapSeq (· ++ vs.toArray))).objs.size = s.heap.objs.size + 1 := by
    rw [Heap.size_update, size_push']
  show wpAny _ _ _ _ _ { s with heap := PySem.W.copyHeap s.heap vs }
  rw [hsz]
  refine wpAny_bind (wpAny_holding (wpAny_call_entry slot_list_sort ⟨_, PySem.W.copyHeap_at s.heap vs, rfl⟩ entry_list_sort ?body (args_list_sort _)))
  case body =>
    show wpAny (model prog w) A.in1.in1 (Builtin.«list.sort» ⟨[.ref (s.heap.objs.size + 1)], []⟩) _ _ _
    refine wpAny_mono (body _) (fun f s' hf => ?_) fun _ _ e => e
    obtain ⟨rfl, hq⟩ := hf
    exact ⟨_, rfl, wpAny_pure ⟨_, rfl, hq⟩⟩
/-- many of one kind -/
theorem sorted_many {R : Value → D → Prop} {l : Addr} {vs : List Value} {ds : List D} {Q : Value → Shared → Prop} (hl : IsLT s.heap l vs) (e : PySem.W.EachIs R vs ds) (er : PySem.W.EachIs (fun v d => ∃ as, Reads s.heap v d as) vs ds) (hal : PySem.W.AllAlike ds) (hk : PySem.W.Sortable ds) (hL : ds.length ≤ sizeLine)
    (hu : ∀ b, b ∈ ds → A.units + 2 + b.depth < cLine) (h : ∀ out, out.length = ds.length → PySem.W.EachIs R out (ds.mergeSort (PySem.W.dataLe false id)) → Q (.ref (s.heap.objs.size + 1)) { s with heap := sortedAll s.heap vs (List.toArray out) }) :
    wpAny (model prog w) A (call (.builtin "sorted") [.ref l]) Q E s := by
  have er' : PySem.W.EachIs (fun v d => ∃ as, Reads (PySem.W.sortingHeap (PySem.W.copyHeap s.heap vs) (s.heap.objs.size + 1) vs) v d as) vs ds := er.mono fun _ _ ⟨as, r⟩ => ⟨as, PyProof.Rows.Reads.keeps (fun _ _ => PySem.W.sorting_copy_old) r⟩
  have hvl : vs.length ≤ sizeLine := by rw [e.length]; exact hL
  refine sorted_of_lt hl hvl fun _ => PySem.W.list_sort_vals (s := { s with heap := PySem.W.copyHeap s.heap vs }) (PySem.W.copyHeap_at s.heap vs) (PySem.W.SortsAt.data (s := { s with heap := PySem.W.sortingHeap (PySem.W.copyHeap s.heap vs) (s.heap.objs.size + 1) vs }) er' hal hk hu) hvl ⟨rfl, ?_⟩
  have z := PySem.W.sortVals_data (h' := PySem.W.sortingHeap (PySem.W.copyHeap s.heap vs) (s.heap.objs.size + 1) vs) (enc := id) false e er' (by rw [List.map_id]; exact hal)
  rw [List.map_id] at z
  exact h _ (by rw [PySem.W.sortVals_length false rfl]; exact e.length) z
theorem short_perm {α : Type} : ∀ {vs out : List α}, vs.length < 2 → out.Perm vs → out = vs
  | [], _, _, p => List.Perm.eq_nil p
  | [v], _, _, p => List.perm_singleton.mp p
  | _ :: _ :: _, _, h, _ => absurd h (by simp)
/-- one at most -/
theorem sorted_few {l : Addr} {vs : List Value} {Q : Value → Shared → Prop} (hl : IsLT s.heap l vs) (h2 : vs.length < 2) (h : Q (.ref (s.heap.objs.size + 1)) { s with heap := sortedAll s.heap vs (List.toArray vs) }) :
    wpAny (model prog w) A (call (.builtin "sorted") [.ref l]) Q E s := by
  have hL : vs.length ≤ sizeLine := by have := sizeLine_eq; omega
  refine sorted_of_lt hl hL fun E' => ?_
  refine SrtO.list_sort_ord (s := { s with heap := PySem.W.copyHeap s.heap vs }) (ltv := fun _ _ => false) ⟨fun _ _ h => (by cases h), fun _ _ _ _ _ => rfl⟩ (PySem.W.copyHeap_at s.heap vs) hL (fun h => by omega) fun out _ hb => ⟨rfl, ?_⟩
  rw [short_perm h2 hb.perm]
  exact h
end
def tup1 : D → Bool
  | .tuple (_ :: _) => true
  | _ => false
def noTp : D → Bool
  | .none => false
  | .tuple _ => false
  | _ => true
def sortOk (ds : List D) : Bool := PyData.canLayAll0 ds && (decide (ds.length < 2) || (ds.all (fun d => ds.all fun e => PySem.W.alike d e) && (ds.all tup1 || ds.all noTp) && ds.all fun d => decide (d.depth ≤ 60)))
def sortD (ds : List D) : List D := if ds.length < 2 then ds else ds.mergeSort (PySem.W.dataLe false id)
def sortF : List D → Option (List D)
  | [.list ds] => if sortOk ds = true then some (sortD ds) else none
  | [.tuple ds] => if sortOk ds = true then some (sortD ds) else none
  | _ => none
def rSortD (K : PySem.W.Frag) : List V → Hp → VK → Prop := fun xs H Q => ∃ (Pp : V → D → Prop) (a : Addr) (vs : List V) (ds : List D), xs = [.ref a] ∧ (SqL K H a vs ∨ SqT K H a vs) ∧ All2 Pp vs ds ∧ DpAll K H vs ds ∧ sortOk ds = true ∧
  ∀ out p, All2 Pp out (sortD ds) → H p = none → Q (.ref p) (upd H p (.lst out))
theorem each_of {Pp : V → D → Prop} : ∀ {vs : List V} {its : List Value} {ds : List D}, Vals vs its → All2 Pp vs ds → PySem.W.EachIs (fun u d => ∃ v, RelV v u ∧ Pp v d) its ds
  | _, _, _, .nil, .nil => .nil
  | _, _, _, .cons r t, .cons q u => .cons ⟨_, r, q⟩ (each_of t u)
theorem each_back {Pp : V → D → Prop} : ∀ {its : List Value} {ds : List D}, PySem.W.EachIs (fun u d => ∃ v, RelV v u ∧ Pp v d) its ds → ∃ vs, Vals vs its ∧ All2 Pp vs ds
  | _, _, .nil => ⟨[], .nil, .nil⟩
  | _, _, .cons ⟨v, r, q⟩ t => by
    obtain ⟨vs, h1, h2⟩ := each_back t
    exact ⟨v :: vs, .cons r h1, .cons q h2⟩
theorem each_reads {h : Heap} : ∀ {vs : List Value} {ds : List D} {as : List Addr}, ReadsAll h vs ds as → PySem.W.EachIs (fun v d => ∃ as, Reads h v d as) vs ds
  | _, [], _, r => by cases r; exact .nil
  | _, d :: ds, _, r => by
    cases r with
    | cons h1 h2 => exact .cons ⟨_, h1⟩ (each_reads h2)
theorem All2.len {α β : Type} {S : α → β → Prop} : ∀ {as : List α} {bs : List β}, All2 S as bs → as.length = bs.length
  | _, _, .nil => rfl
  | _, _, .cons _ t => by rw [List.length_cons, List.length_cons, All2.len t]
theorem tup1_some {d : D} (h : tup1 d = true) : ∃ x r, d = .tuple (x :: r) := by
  cases d with
  | tuple xs =>
    cases xs with
    | nil => cases h
    | cons x r => exact ⟨x, r, rfl⟩
  | _ => cases h
theorem noTp_some {d : D} (h : noTp d = true) : d ≠ .none ∧ ∀ xs, d ≠ .tuple xs := by
  cases d <;> first | (cases h; done) | exact ⟨(fun z => by cases z), fun _ z => by cases z⟩
section
variable {X : Cx}
theorem cr_sortedD (hu : X.A.units + 65 < cLine) : CallR X (.builtin "sorted") (rSortD X.K) := by
  intro pins s σ H vs us Q I r h
  obtain ⟨Pp, a, xs, ds, rfl, hs, hp, hd, hk, q⟩ := h
  obtain ⟨its, rv, hl, hz⟩ : ∃ its : List Value, Vals xs its ∧ IsLT s.heap a its ∧ xs.length ≤ sizeLine := by
    rcases hs with hs | hs
    · obtain ⟨its, rv, hl, hz⟩ := I.list hs
      exact ⟨its, rv, .inl hl.isList, hz⟩
    · obtain ⟨its, rv, hl, hz⟩ := I.tuple hs
      exact ⟨its, rv, .inr hl, hz⟩
  rw [Vals.ref1 r]
  unfold sortOk at hk
  rw [Bool.and_eq_true] at hk
  have fin : ∀ out : List Value, out.length = its.length → PySem.W.EachIs (fun u d => ∃ v, RelV v u ∧ Pp v d) out (sortD ds) →
      (∃ v H', Inv X pins σ H' { s with heap := sortedAll s.heap its (List.toArray out) } ∧ RelV v (.ref (s.heap.objs.size + 1)) ∧ Q v H') := fun out ho he => by
    obtain ⟨ws, k1, k2⟩ := each_back he
    obtain ⟨ep, he'⟩ := PyProof.Rows.sortedAll_at s.heap its out.toArray
    have hlen : ws.length ≤ sizeLine := by rw [k1.length, ho, ← rv.length]; exact hz
    exact ⟨.ref _, upd H (s.heap.objs.size + 1) (.lst ws), I.laid (t' := s.toks) (fun _ _ => PyProof.Rows.sortedAll_old) (Nat.le_succ _) ⟨hlen, out, ep, k1, he'⟩, rfl, q _ _ k2 (I.hok.fresh (Nat.le_succ _))⟩
  have hlen := rv.length
  have hlen2 := hp.len
  by_cases h2 : ds.length < 2
  · refine sorted_few hl (by omega) ?_
    exact fin its rfl (by unfold sortD; rw [if_pos h2]; exact each_of rv hp)
  · have hk2 := hk.2
    rw [decide_eq_false h2, Bool.false_or, Bool.and_eq_true, Bool.and_eq_true] at hk2
    obtain ⟨⟨k1, k2⟩, k3⟩ := hk2
    obtain ⟨as, ra⟩ := Dp.readsAll I ds _ its hd rv
    refine sorted_many hl (each_of rv hp) (each_reads ra) (fun d hd d' hd' => ?_) ?_ (by omega) (fun b hb => ?_) fun out ho he => ?_
    · have := List.all_eq_true.mp k1 d hd
      exact List.all_eq_true.mp this d' hd'
    · rw [Bool.or_eq_true] at k2
      rcases k2 with k2 | k2
      · exact .inl fun d hd => tup1_some (List.all_eq_true.mp k2 d hd)
      · exact .inr fun d hd => noTp_some (List.all_eq_true.mp k2 d hd)
    · have := of_decide_eq_true (List.all_eq_true.mp k3 b hb)
      omega
    · exact fin out (by omega) (by unfold sortD; rw [if_neg h2]; exact he)
end
theorem all2_rp {K : PySem.W.Frag} {G : Hp} : ∀ {vs : List V} {ds : List D}, RpL K G vs ds → All2 (fun v d => Rp K G v d) vs ds
  | _, _, .nil => .nil
  | _, _, .cons r t => .cons r (all2_rp t)
theorem rp_all2 {K : PySem.W.Frag} {G : Hp} : ∀ {vs : List V} {ds : List D}, All2 (fun v d => Rp K G v d) vs ds → RpL K G vs ds
  | _, _, .nil => .nil
  | _, _, .cons r t => .cons r (rp_all2 t)
theorem pcl_sorted {K : PySem.W.Frag} : PCL K (rSortD K) sortF := fun H G vs ds xs Q s rl e q => by
  cases rl with
  | nil => cases e
  | @cons v vs d1 ds r1 r2 =>
    cases r2 with
    | cons _ _ => cases d1 <;> cases e
    | nil =>
      cases r1 with
      | @lst a us ys h1 h2 =>
        have e' : (if sortOk ys = true then some (sortD ys) else none) = some xs := e
        split at e'
        · rename_i hk
          cases e'
          have hk' := hk
          unfold sortOk at hk'
          rw [Bool.and_eq_true] at hk'
          exact ⟨_, a, us, ys, rfl, .inl (SqL.of (s _ _ h1)), all2_rp h2, h2.dp s hk'.1, hk, fun out p ho hp => q p out hp (rp_all2 ho)⟩
        · cases e'
      | @tup a us ys h1 h2 =>
        have e' : (if sortOk ys = true then some (sortD ys) else none) = some xs := e
        split at e'
        · rename_i hk
          cases e'
          have hk' := hk
          unfold sortOk at hk'
          rw [Bool.and_eq_true] at hk'
          exact ⟨_, a, us, ys, rfl, .inr (s.seq h1), all2_rp h2, h2.dp s hk'.1, hk, fun out p ho hp => q p out hp (rp_all2 ho)⟩
        · cases e'
      | _ => cases e
/-! ### a dict display as data -/
section
variable {γ : Type} {m : Type → Type} [PM γ m] {α β : Type} {C : Cc γ} {X : Cx} {ρ : En}
def CDd {β : Type} (C : Cc γ) (X : Cx) (ρ : En) (pos : Pos) (keys : List Key) (ks : List (Option Expr)) (vs : List Expr) (x : m β) (k : List (D × D) → m β) : Prop :=
  ∀ Qf : β → γ → Prop, PPx X pos ks vs (fun σ H Q => ∃ G J g, C.St X.K ρ σ H G J g ∧ PM.wp x g Qf C.EX ∧
    ∀ ps us es H' G' J' g', Aft G J H G' J' H' → C.S.si g' G' J' H' → ps = us.map (fun kv : Key × V => (kV kv.1, kv.2)) → us.map (·.1) = keys → RpK X.K G' us es → PM.wp (k es) g' Qf C.EX → Q ps H')
theorem cdd_nil {pos : Pos} {k : List (D × D) → m β} : CDd C X ρ pos [] [] [] (k []) k := fun Qf => PPx.imp ppx_nil fun σ H Q ⟨G, J, g, st, w, h⟩ => h [] [] [] H G J g (Aft.refl st.vis) st.si rfl rfl .nil w
theorem cdd_cons {pos : Pos} {kx : Str} {j p1} {e : Expr} {keys : List Key} {ks : List (Option Expr)} {es : List Expr} {x : m β} {y : D → m β} {k : List (D × D) → m β} (hr : ∀ a, CDd C X ρ pos keys ks es (y a) (fun rs => k ((.str kx, a) :: rs))) (he : CE C X ρ e dv x y) :
    CDd C X ρ pos (.inr kx :: keys) (some (.Constant (.str kx) j p1) :: ks) (e :: es) x k := fun Qf =>
  PPx.imp (ppx_cons pe_str (he Qf) (PPx.ex fun a => hr a Qf)) fun σ H Q ⟨G, J, g, st, w, h⟩ => ⟨G, J, g, st, w, fun v a H1 G1 J1 g1 af1 si1 rr w1 => ⟨a, G1, J1, g1, st.go af1 si1, w1, fun ps us rs H' G' J' g' af si ep ek rks w' =>
    h ((.str kx, v) :: ps) ((.inr kx, v) :: us) ((.str kx, a) :: rs) H' G' J' g' (af1.trans af) si (by rw [List.map_cons, ep]; rfl) (by rw [List.map_cons, ek]) (.cons (k := .inr kx) (Rp.sub af.gg rr) rks) w'⟩⟩
theorem ce_dctD {pos : Pos} {keys : List Key} {ks : List (Option Expr)} {vs : List Expr} {x : m β} {k : D → m β} (h : CDd C X ρ pos keys ks vs x (fun es => k (.dict es))) (hn : keys.Nodup := by decide) (h15k : keys.length ≤ 15 := by decide) (hall : ks.all (·.isSome) = true := by rfl) (hl : ks.length = vs.length := by rfl) (h0 : ks ≠ [] := by intro z; cases z) (h15 : ks.length ≤ 15 := by decide) :
    CE C X ρ (.Dict ks vs pos) dv x k := fun Qf =>
  PE.imp (pe_dispX (h Qf) hall hl h0 h15) fun σ H Q ⟨G, J, g, st, w, hQ⟩ => fun p hp => by
    have n : New G H G (upd H p (.dK [])) := New.own st.vis.sub hp
    have af0 := n.aft st.vis
    have gp : G p = none := none_of_sub st.vis.sub hp
    have jp : ¬ J p := fun j => st.vis.dom p j hp
    refine ⟨G, J, g, st.go af0 (SIx.nw st.si n), w, fun ps us es H2 G2 J2 g2 af si ep ek rk w2 => ?_⟩
    obtain ⟨hD2, g2D, j2D⟩ := af.keepD upd_same gp jp
    have em : mergeK [] us = us := by
      rw [merge_new (by rw [ek]; exact hn) (fun _ _ q hq => by simp at hq)]
      rfl
    have hlu : us.length ≤ 15 := by
      have := congrArg List.length ek
      rw [List.length_map] at this
      rw [this]; exact h15k
    refine ⟨hD2, us, ep, hlu, ?_⟩
    rw [em]
    have a1 := af0.trans af
    have vis2 : Vis (upd G2 p (.dK us)) J2 (upd H2 p (.dK us)) := ⟨sub_upd2 af.vis.sub, fun a j => by
      rw [upd_ne (fun z => j2D (by rw [← z]; exact j))]; exact af.vis.dis a j, fun a j => by
      rw [upd_ne (fun z => j2D (by rw [← z]; exact j))]; exact af.vis.dom a j⟩
    have sg : Sub G2 (upd G2 p (.dK us)) := sub_upd g2D
    have afA : Aft G J H (upd G2 p (.dK us)) J2 (upd H2 p (.dK us)) := by
      refine ⟨a1.gg.trans sg, fun a o hj ha => ?_, fun a ha => ?_, fun a ha => ?_, a1.jn, vis2⟩
      · rw [upd_ne (fun z => by rw [z, hp] at ha; cases ha)]; exact a1.hh a o hj ha
      · by_cases z : a = p
        · subst z; rw [upd_same]; exact Option.some_ne_none _
        · rw [upd_ne z]; exact a1.dm a ha
      · by_cases z : a = p
        · subst z; exact .inr hp
        · rw [upd_ne z] at ha; exact a1.gn a ha
    have si2 : C.S.si g2 (upd G2 p (.dK us)) J2 (upd H2 p (.dK us)) := C.S.new si sg fun a o j ha => by
      rw [upd_ne (fun z => j2D (by rw [← z]; exact j))]; exact ha
    exact hQ _ _ _ _ J2 g2 afA si2 (.dct upd_same (RpK.sub sg rk)) w2
end
/-! ### what is done to one's own list, with its answer -/
section
variable {γ : Type} {m : Type → Type} [PM γ m] {α α2 β δ τ ω : Type} {C : Cc γ} {X : Cx} {ρ : En} {rest : List Stmt} {out : ω → En} {outL : τ → En} {rk : δ → R} {x : m β} {kn : ω → m β} {kr : δ → m β} {kb kc : τ → m β}
def CEo (C : Cc γ) (X : Cx) (ρ : En) (i : Nat) (e : Expr) (x : m β) (k : D → List D → m β) : Prop :=
  ∀ Qf : β → γ → Prop, PE X e (fun σ H Q => ∃ G J g, C.St X.K ρ σ H G J g ∧ PM.wp x g Qf C.EX ∧
    ∀ v d ys H' G' J' g', C.St X.K (ρ.set i (some (.own (.lst ys)))) σ H' G' J' g' → Sub G G' → Rp X.K G' v d → PM.wp (k d ys) g' Qf C.EX → Q v H')
theorem ceo_pop {y : Str} {p1 apos pos : Pos} {k : D → List D → m β} (i : Nat) {xs : List D} (hi : ρ[i]? = some (some (.own (.lst xs))))
    (hpe : PE X (.Call (.Attribute (.Name y p1) "pop" apos) [] [] pos) (tBM X.K "list" rPop (tVar i) tNil) := by exact pe_bm0 PySem.F.plainAttrs_list PySem.F.slot_list_pop PySem.F.type_list_pop mt_pop (pv _)) :
    CEo C X ρ i (.Call (.Attribute (.Name y p1) "pop" apos) [] [] pos) (bnd (need (popF xs)) fun r => k r.1 r.2) k := fun Qf =>
  PE.imp hpe fun σ H Q ⟨G, J, g, st, w, q⟩ => by
    obtain ⟨p, h1, h2, h3, h4, vs, hv, rl⟩ := st.env.own i _ hi
    obtain ⟨r, e1, w2⟩ := of_need w
    have e1' : (xs[xs.length - 1]?).map (fun y => (y, xs.dropLast)) = some r := e1
    cases e3 : xs[xs.length - 1]? with
    | none => rw [e3] at e1'; cases e1'
    | some d =>
      rw [e3] at e1'
      cases e1'
      obtain ⟨v, f1, f2⟩ := rl.get e3
      have rl2 : RpL X.K G vs.dropLast xs.dropLast := by
        rw [List.dropLast_eq_take, List.dropLast_eq_take, rl.length]
        exact rl.take _
      have st2 := St.ownG st hi h1 (c' := .lst xs.dropLast) (o := .lst vs.dropLast) ⟨_, upd_same, rl2⟩
      exact ⟨_, h1, ty_lst hv, p, vs, v, rfl, rfl, hv, by rw [rl.length]; exact f1, q v d xs.dropLast _ G J g st2 (Sub.refl _) f2 w2⟩
theorem ceo_popAt {y : Str} {p1 apos pos : Pos} {e : Expr} {x : m β} {k : D → List D → m β} (i : Nat) {xs : List D} (hi : ρ[i]? = some (some (.own (.lst xs))))
    (he : CE C X ρ e dv x (fun d => bnd (need (popAtF xs d)) fun r => k r.1 r.2))
    (hpe : ∀ te, PE X e te → PE X (.Call (.Attribute (.Name y p1) "pop" apos) [e] [] pos) (tBM X.K "list" rPopAt (tVar i) (tCons te tNil)) := by intro te he; exact pe_bm PySem.F.plainAttrs_list PySem.F.slot_list_pop PySem.F.type_list_pop mt_popAt (pv _) (pa_cons he pa_nil)) :
    CEo C X ρ i (.Call (.Attribute (.Name y p1) "pop" apos) [e] [] pos) x k := fun Qf =>
  PE.imp (hpe _ (he Qf)) fun σ H Q ⟨G, J, g, st, w, q⟩ => by
    obtain ⟨p, h1, h2, h3, h4, vs, hv, rl⟩ := st.env.own i _ hi
    refine ⟨_, h1, ty_lst hv, G, J, g, st, w, fun v d H' G' J' g' af si rr w' => ?_⟩
    obtain ⟨r, e1, w2⟩ := of_need w'
    have st' := st.go af si
    obtain ⟨p', k1, k2, k3, k4, ws, kv, kl⟩ := st'.env.own i _ hi
    rw [h1] at k1; cases k1
    cases rr with
    | int k =>
      have e1' : (if 0 ≤ k ∧ k < (xs.length : Nat) ∧ k < 2 ^ 62 then (xs[k.toNat]?).map fun y => (y, xs.eraseIdx k.toNat) else none) = some r := e1
      split at e1'
      · rename_i hk
        cases e3 : xs[k.toNat]? with
        | none => rw [e3] at e1'; cases e1'
        | some d =>
          rw [e3] at e1'
          cases e1'
          obtain ⟨v, f1, f2⟩ := kl.get e3
          have st2 := St.ownG st' hi h1 (c' := .lst (xs.eraseIdx k.toNat)) (o := .lst (ws.eraseIdx k.toNat)) ⟨_, upd_same, kl.erase _⟩
          exact ⟨p, ws, k, k.toNat, v, rfl, rfl, kv, by omega, by omega, seq_at hk.1 (by rw [kl.length]; exact hk.2.1), f1, q v d (xs.eraseIdx k.toNat) _ G' J' g' st2 af.gg f2 w2⟩
      · cases e1'
    | _ => cases e1
theorem cs_asgO {tg e : Expr} {pos : Pos} {i : Nat} {un : D → Option α} {outT : List D → α → En} {sl : List Nat} {xr : List D → α → m β} (hr : ∀ ys a, CS C X (outT ys a) rest out outL rk (xr ys a) kn kr kb kc) (hg : ∀ ys, CG C X (ρ.set i (some (.own (.lst ys)))) tg un (outT ys) sl)
    (he : CEo C X ρ i e x (fun d ys => bnd (need (un d)) fun a => xr ys a))
    (hs : swapsWithSole [tg] e pos.line X.env = pure false := by rfl) (hps : ∀ te g, PE X e te → PG X tg g → PS X (.Assign [tg] e pos) (tAsg te g) := by intro te g he hg; exact ps_asg he hg) : CS C X ρ (.Assign [tg] e pos :: rest) out outL rk x kn kr kb kc := fun Qf =>
  PSs.imp (pss_cons (hps _ _ (he Qf) (PG.ex fun ys => hg ys)) (PSs.ex fun q : List D × α => hr q.1 q.2 Qf)) fun E σ H ⟨G, J, g, st, w, f⟩ => ⟨G, J, g, st, w, fun v d ys H1 G1 J1 g1 st1 sb rr w1 => by
    obtain ⟨a, ea, w2⟩ := of_need w1
    exact ⟨ys, G1, J1, d, a, st1.env, st1.vis.sub, rr, ea, fun σ' e' _ => ⟨(ys, a), G1, J1, g1, ⟨e', st1.aft, st1.si⟩, w2, f.sub sb⟩⟩⟩
theorem cs_exprO {e : Expr} {pos : Pos} {i : Nat} {xr : List D → m β} (hr : ∀ ys, CS C X (ρ.set i (some (.own (.lst ys)))) rest out outL rk (xr ys) kn kr kb kc) (he : CEo C X ρ i e x (fun _ ys => xr ys))
    (hs : swapsWith e none pos.line X.env = pure false := by rfl) : CS C X ρ (.Expr e pos :: rest) out outL rk x kn kr kb kc := fun Qf =>
  PSs.imp (pss_cons (ps_expr (he Qf) hs) (PSs.ex fun ys : List D => hr ys Qf)) fun E σ H ⟨G, J, g, st, w, f⟩ => ⟨G, J, g, st, w, fun v d ys H1 G1 J1 g1 st1 sb rr w1 => ⟨ys, G1, J1, g1, st1, w1, f.sub sb⟩⟩
end
end Cl

set_option Elab.async false
set_option linter.all false
set_option autoImplicit false
set_option maxRecDepth 100000
set_option maxHeartbeats 400000
/-! the clean layer, part ZK: defs that call themselves -/
namespace Cl
open PySem PySem.Spec PyProof.Rows L2
open MO
section
variable {γ : Type} {m : Type → Type} [PM γ m] {δ : Type}
/-- out of fuel: nothing is said -/
theorem cal_no {P : Program} {w : World} {K : PySem.W.Frag} {mg : Str → Option Value} {base : Heap} {x qual : Str} {st : Stmt} {N ps : List Str} {k : Nat} {S : SIx γ} {sig : Sig} {rk : δ → R} (F : Dfd K mg x qual st ps) (sc : FnScope N ps (defScope st)) :
    Cal P w K mg base x (k + 1) ps (spC (m := m) K S sig (fun _ => lift .no) rk) := by
  obtain ⟨fA, fd, hm, FF, hb⟩ := F.ex
  have bad : ∀ {vs H Q E}, spC (m := m) K S sig (fun _ => (lift .no : m δ)) rk vs H Q E → False := by
    rintro vs H Q E ⟨G, J, g, rs, _, _, _, _, w1⟩
    unfold callM at w1
    split at w1
    · exact PM.of_lift w1
    · exact PM.of_lift w1
  exact ⟨fA, fd, hm, fnG_of FF sc (fun vs H Q E h => (bad h).elim) (fun cdv A outer s H vs Q E hr hgd h => (bad h).elim), FF.kp, fun s args us _ e => .of_eq e, hb, by obtain ⟨oc, od, kV, doc, pm, an, cdv, ct, osl, rfl, lk, hcd⟩ := FF.ex; exact ⟨oc, od, osl, lk⟩⟩
end
/-! ### a, b, c, d = four things -/
section
variable {γ : Type} {m : Type → Type} [PM γ m] {α α2 α3 α4 β δ τ ω : Type} {C : Cc γ} {X : Cx} {ρ : En} {rest : List Stmt} {out : ω → En} {outL : τ → En} {rk : δ → R} {x : m β} {kn : ω → m β} {kr : δ → m β} {kb kc : τ → m β}
theorem cs_asg4 {i j l o : Nat} {n1 n2 n3 n4 : Str} {e1 e2 e3 e4 : Expr} {p1 p2 p3 p4 pt pt2 pos : Pos} {kt k2} {r1 : α → R} {r2 : α2 → R} {r3 : α3 → R} {r4 : α4 → R} {x2 : α → m β} {x3 : α → α2 → m β} {x4 : α → α2 → α3 → m β} {xr : α → α2 → α3 → α4 → m β}
    (hr : ∀ a b c d, CS C X ((((ρ.set i ((entO (r1 a)))).set j ((entO (r2 b)))).set l ((entO (r3 c)))).set o ((entO (r4 d)))) rest out outL rk (xr a b c d) kn kr kb kc)
    (he : ∀ a b c, CE C X ρ e4 r4 (x4 a b c) (xr a b c)) (hd : ∀ a b, CE C X ρ e3 r3 (x3 a b) (x4 a b)) (hb : ∀ a, CE C X ρ e2 r2 (x2 a) (x3 a)) (ha : CE C X ρ e1 r1 x x2)
    (hp1 : PG X (.Name n1 p1) (gName i)) (hp2 : PG X (.Name n2 p2) (gName j)) (hp3 : PG X (.Name n3 p3) (gName l)) (hp4 : PG X (.Name n4 p4) (gName o)) (hc : X.calm = true := by rfl)
    (hs1 : starEach [e1, e2, e3, e4] X.env = (false, eval e1 X.env) :: starEach [e2, e3, e4] X.env := by rfl) (hs2 : starEach [e2, e3, e4] X.env = (false, eval e2 X.env) :: starEach [e3, e4] X.env := by rfl) (hs3 : starEach [e3, e4] X.env = (false, eval e3 X.env) :: starEach [e4] X.env := by rfl) (hs4 : starEach [e4] X.env = (false, eval e4 X.env) :: starEach [] X.env := by rfl)
    (hg1 : (assignEach [.Name n1 p1, .Name n2 p2, .Name n3 p3, .Name n4 p4] X.env).map (·.2) = assign (.Name n1 p1) X.env :: (assignEach [.Name n2 p2, .Name n3 p3, .Name n4 p4] X.env).map (·.2) := by rfl) (hg2 : (assignEach [.Name n2 p2, .Name n3 p3, .Name n4 p4] X.env).map (·.2) = assign (.Name n2 p2) X.env :: (assignEach [.Name n3 p3, .Name n4 p4] X.env).map (·.2) := by rfl)
    (hg3 : (assignEach [.Name n3 p3, .Name n4 p4] X.env).map (·.2) = assign (.Name n3 p3) X.env :: (assignEach [.Name n4 p4] X.env).map (·.2) := by rfl) (hg4 : (assignEach [.Name n4 p4] X.env).map (·.2) = assign (.Name n4 p4) X.env :: (assignEach [] X.env).map (·.2) := by rfl)
    (hn : (assignEach [.Name n1 p1, .Name n2 p2, .Name n3 p3, .Name n4 p4] X.env).length = 4 := by rfl) (hst : (assignEach [.Name n1 p1, .Name n2 p2, .Name n3 p3, .Name n4 p4] X.env).findIdx? (·.1) = none := by rfl)
    (hps : ∀ te g, PE X (.Tuple [e1, e2, e3, e4] k2 pt2) te → PG X (.Tuple [.Name n1 p1, .Name n2 p2, .Name n3 p3, .Name n4 p4] kt pt) g → PS X (.Assign [.Tuple [.Name n1 p1, .Name n2 p2, .Name n3 p3, .Name n4 p4] kt pt] (.Tuple [e1, e2, e3, e4] k2 pt2) pos) (tAsg te g) := by intro te g he hg; exact ps_asg he hg) :
    CS C X ρ (.Assign [.Tuple [.Name n1 p1, .Name n2 p2, .Name n3 p3, .Name n4 p4] kt pt] (.Tuple [e1, e2, e3, e4] k2 pt2) pos :: rest) out outL rk x kn kr kb kc := fun Qf =>
  PSs.imp (pss_cons (hps _ _ (pe_tup (pa_cons (ha Qf) (pa_cons (PE.ex fun a => hb a Qf) (pa_cons (PE.ex fun p : α × α2 => hd p.1 p.2 Qf) (pa_cons (PE.ex fun p : α × α2 × α3 => he p.1 p.2.1 p.2.2 Qf) pa_nil hs4) hs3) hs2) hs1)) (pg_tup hc (pgs_cons hp1 (pgs_cons hp2 (pgs_cons hp3 (pgs_cons hp4 pgs_nil hg4) hg3) hg2) hg1) hn hst)) (PSs.ex fun q : α × α2 × α3 × α4 => hr q.1 q.2.1 q.2.2.1 q.2.2.2 Qf)) fun E σ H ⟨G, J, g, st, w, f⟩ =>
    ⟨G, J, g, st, w, fun v1 a H1 G1 J1 g1 af1 si1 rr1 w1 => ⟨a, G1, J1, g1, st.go af1 si1, w1, fun v2 b H2 G2 J2 g2 af2 si2 rr2 w2 =>
      ⟨(a, b), G2, J2, g2, (st.go af1 si1).go af2 si2, w2, fun v3 c H3 G3 J3 g3 af3 si3 rr3 w3 =>
      ⟨(a, b, c), G3, J3, g3, ((st.go af1 si1).go af2 si2).go af3 si3, w3, fun v4 d H4 G4 J4 g4 af4 si4 rr4 w4 => by
      refine ⟨by have := sizeLine_eq; show 4 ≤ sizeLine; omega, fun p np => ?_⟩
      have n := New.own (o := .tup [v1, v2, v3, v4]) af4.vis.sub np
      have st3 := ((((st.setR (i := i) af1 si1 rr1).setR (i := j) af2 si2 rr2).setR (i := l) af3 si3 rr3).setR (i := o) af4 si4 rr4).go (n.aft af4.vis) (SIx.nw si4 n)
      exact ⟨p, [v1, v2, v3, v4], rfl, .inl (.inl upd_same), rfl, v1, [v2, v3, v4], rfl, v2, [v3, v4], rfl, v3, [v4], rfl, v4, [], rfl, rfl, (a, b, c, d), G4, J4, g4, st3, w4, f.sub ((((af1.trans af2).trans af3).trans af4).trans (n.aft af4.vis)).gg⟩⟩⟩⟩⟩
end
/-! ### a, b = two things, by the tuple -/
section
variable {γ : Type} {m : Type → Type} [PM γ m] {α α2 β δ τ ω : Type} {C : Cc γ} {X : Cx} {ρ : En} {rest : List Stmt} {out : ω → En} {outL : τ → En} {rk : δ → R} {x : m β} {kn : ω → m β} {kr : δ → m β} {kb kc : τ → m β}
theorem cs_asg2 {i j : Nat} {n1 n2 : Str} {e1 e2 : Expr} {p1 p2 pt pt2 pos : Pos} {kt k2} {r1 : α → R} {r2 : α2 → R} {x2 : α → m β} {xr : α → α2 → m β}
    (hr : ∀ a b, CS C X ((ρ.set i ((entO (r1 a)))).set j ((entO (r2 b)))) rest out outL rk (xr a b) kn kr kb kc)
    (hb : ∀ a, CE C X ρ e2 r2 (x2 a) (xr a)) (ha : CE C X ρ e1 r1 x x2)
    (hp1 : PG X (.Name n1 p1) (gName i)) (hp2 : PG X (.Name n2 p2) (gName j)) (hc : X.calm = true := by rfl)
    (hs1 : starEach [e1, e2] X.env = (false, eval e1 X.env) :: starEach [e2] X.env := by rfl) (hs2 : starEach [e2] X.env = (false, eval e2 X.env) :: starEach [] X.env := by rfl)
    (hg1 : (assignEach [.Name n1 p1, .Name n2 p2] X.env).map (·.2) = assign (.Name n1 p1) X.env :: (assignEach [.Name n2 p2] X.env).map (·.2) := by rfl) (hg2 : (assignEach [.Name n2 p2] X.env).map (·.2) = assign (.Name n2 p2) X.env :: (assignEach [] X.env).map (·.2) := by rfl)
    (hn : (assignEach [.Name n1 p1, .Name n2 p2] X.env).length = 2 := by rfl) (hst : (assignEach [.Name n1 p1, .Name n2 p2] X.env).findIdx? (·.1) = none := by rfl)
    (hps : ∀ te g, PE X (.Tuple [e1, e2] k2 pt2) te → PG X (.Tuple [.Name n1 p1, .Name n2 p2] kt pt) g → PS X (.Assign [.Tuple [.Name n1 p1, .Name n2 p2] kt pt] (.Tuple [e1, e2] k2 pt2) pos) (tAsg te g) := by intro te g he hg; exact ps_asg he hg) :
    CS C X ρ (.Assign [.Tuple [.Name n1 p1, .Name n2 p2] kt pt] (.Tuple [e1, e2] k2 pt2) pos :: rest) out outL rk x kn kr kb kc := fun Qf =>
  PSs.imp (pss_cons (hps _ _ (pe_tup (pa_cons (ha Qf) (pa_cons (PE.ex fun a => hb a Qf) pa_nil hs2) hs1)) (pg_tup hc (pgs_cons hp1 (pgs_cons hp2 pgs_nil hg2) hg1) hn hst)) (PSs.ex fun q : α × α2 => hr q.1 q.2 Qf)) fun E σ H ⟨G, J, g, st, w, f⟩ =>
    ⟨G, J, g, st, w, fun v1 a H1 G1 J1 g1 af1 si1 rr1 w1 => ⟨a, G1, J1, g1, st.go af1 si1, w1, fun v2 b H2 G2 J2 g2 af2 si2 rr2 w2 => by
      refine ⟨by have := sizeLine_eq; show 2 ≤ sizeLine; omega, fun p np => ?_⟩
      have n := New.own (o := .tup [v1, v2]) af2.vis.sub np
      have st3 := ((st.setR (i := i) af1 si1 rr1).setR (i := j) af2 si2 rr2).go (n.aft af2.vis) (SIx.nw si2 n)
      exact ⟨p, [v1, v2], rfl, .inl (.inl upd_same), rfl, v1, [v2], rfl, v2, [], rfl, rfl, (a, b), G2, J2, g2, st3, w2, f.sub ((af1.trans af2).trans (n.aft af2.vis)).gg⟩⟩⟩
end
end Cl

set_option Elab.async false
set_option linter.all false
set_option autoImplicit false
set_option maxRecDepth 100000
set_option maxHeartbeats 400000
/-! the clean layer, part ZL: repr of data with dicts in it -/
namespace Cl
open PySem PySem.Spec PyProof.Rows L2
open MO
/-! ### what reads as data, its dicts apart from the table of modules -/
mutual
inductive RdN (h : Heap) : Value → D → Prop
  | none : RdN h .none .none
  | bool (b) : RdN h (.bool b) (.bool b)
  | int (i t) : RdN h (.int i t) (.int i)
  | str (x t) : RdN h (.str x t) (.str x)
  | list {a o vs n xs} : h.get? a = some o → o.cls = .type "list" → o.data = .seq vs n → RdNA h vs.toList xs → RdN h (.ref a) (.list xs)
  | tuple {a o vs n xs} : h.get? a = some o → o.cls = .type "tuple" → o.data = .seq vs n → RdNA h vs.toList xs → RdN h (.ref a) (.tuple xs)
  | dict {a o es n kvs} : h.get? a = some o → o.cls = .type "dict" → o.data = .dict es n → (a == sysModules) = false → RdNA h (es.toList.map (·.key)) (kvs.map (·.1)) → RdNA h (es.toList.map (·.val)) (kvs.map (·.2)) → RdN h (.ref a) (.dict kvs)
inductive RdNA (h : Heap) : List Value → List D → Prop
  | nil : RdNA h [] []
  | cons {v vs d ds} : RdN h v d → RdNA h vs ds → RdNA h (v :: vs) (d :: ds)
end
section
variable {h₀ : Heap} {prog : Program} {w : World}
mutual
theorem RdN.reads : ∀ {v : Value} {d : D}, RdN h₀ v d → ∃ as, Reads h₀ v d as
  | _, _, .none => ⟨_, .none⟩
  | _, _, .bool b => ⟨_, .bool b⟩
  | _, _, .int i t => ⟨_, .int i t⟩
  | _, _, .str x t => ⟨_, .str x t⟩
  | _, _, .list h1 h2 h3 h4 => let ⟨_, r⟩ := RdNA.reads h4; ⟨_, .list h1 h2 h3 r⟩
  | _, _, .tuple h1 h2 h3 h4 => let ⟨_, r⟩ := RdNA.reads h4; ⟨_, .tuple h1 h2 h3 r⟩
  | _, _, .dict h1 h2 h3 _ h4 h5 => let ⟨_, r⟩ := RdNA.reads h4; let ⟨_, r2⟩ := RdNA.reads h5; ⟨_, .dict h1 h2 h3 r r2⟩
theorem RdNA.reads : ∀ {vs : List Value} {ds : List D}, RdNA h₀ vs ds → ∃ as, ReadsAll h₀ vs ds as
  | _, _, .nil => ⟨_, .nil⟩
  | _, _, .cons h1 h2 => let ⟨_, r⟩ := RdN.reads h1; let ⟨_, r2⟩ := RdNA.reads h2; ⟨_, .cons r r2⟩
end
theorem deeper {a : Addr} {d : D} {n : Nat} {bs : List Addr} (r : RdN h₀ (.ref a) d) (hd : n < d.depth) (hb : ReadAtMost h₀ n bs) : a ∉ bs := by
  obtain ⟨as, r'⟩ := r.reads
  exact not_mem_of_deeper r' hd hb
theorem atMost_cons {a : Addr} {d : D} {n : Nat} {bs : List Addr} (r : RdN h₀ (.ref a) d) {m : Nat} (hn : d.depth ≤ n) (hm : m ≤ n) (hb : ReadAtMost h₀ m bs) : ReadAtMost h₀ n (a :: bs) := by
  obtain ⟨as, r'⟩ := r.reads
  intro b hb'
  rcases List.mem_cons.mp hb' with e | hb'
  · rw [e]; exact ⟨d, as, r', hn⟩
  · obtain ⟨d', as', r2, h2⟩ := hb b hb'
    exact ⟨d', as', r2, Nat.le_trans h2 hm⟩
mutual
theorem ofN : ∀ {v : Value} {d : D}, RdN h₀ v d → d.showable = true → d.shown.length ≤ sizeLine → ∃ bs, ReadAtMost h₀ d.depth bs ∧ ReprK prog w bs h₀ d.depth v d.shown
  | _, _, .none, _, _ => ⟨[], (fun _ h => nomatch h), by simp only [PyData.shown]; exact .of_is ReprIs.none _ _ _⟩
  | _, _, .bool b, _, _ => ⟨[], (fun _ h => nomatch h), by simp only [PyData.shown]; exact .of_is (ReprIs.bool b) _ _ _⟩
  | _, _, .int i t, hs, _ => ⟨[], (fun _ h => nomatch h), by simp only [PyData.shown]; exact .of_is (ReprIs.int t (by simpa [PyData.showable] using hs)) _ _ _⟩
  | _, _, .str x t, _, hz => ⟨[], (fun _ h => nomatch h), by simp only [PyData.shown]; exact .of_is (ReprIs.str x t (by simpa only [PyData.shown] using hz)) _ _ _⟩
  | _, _, .list (a := a) (vs := vs) (xs := xs) h1 h2 h3 h4, hs, hz => by
    have hz' : (listText (PyData.shownAll xs)).length ≤ sizeLine := by simpa only [PyData.shown] using hz
    obtain ⟨bs, hb, hk⟩ := ofNA h4 (by simpa [PyData.showable] using hs) (fun t ht => Nat.le_trans (listText_mem_le ht) hz')
    have r : RdN h₀ (.ref a) (.list xs) := .list h1 h2 h3 h4
    have hna : a ∉ bs := deeper r (by simp only [PyData.depth]; omega) hb
    refine ⟨a :: bs, atMost_cons r (Nat.le_refl _) (by simp only [PyData.depth]; omega) hb, ?_⟩
    simp only [PyData.depth, PyData.shown]
    obtain ⟨l⟩ := vs
    cases l with
    | nil =>
      have h4' : RdNA h₀ [] xs := h4
      cases h4'
      simp only [PyData.shownAll, listText_nil]
      exact ReprK.listEmpty h1 h2 h3
    | cons x l => exact ReprK.list h1 h2 h3 hna (by simpa using hk.length_eq) (fun i y e => hk.item i y (by simpa using e))
  | _, _, .tuple (a := a) (xs := xs) h1 h2 h3 h4, hs, hz => by
    have hz' : (tupleText (PyData.shownAll xs)).length ≤ sizeLine := by simpa only [PyData.shown] using hz
    obtain ⟨bs, hb, hk⟩ := ofNA h4 (by simpa [PyData.showable] using hs) (fun t ht => Nat.le_trans (tupleText_mem_le ht) hz')
    have r : RdN h₀ (.ref a) (.tuple xs) := .tuple h1 h2 h3 h4
    have hna : a ∉ bs := deeper r (by simp only [PyData.depth]; omega) hb
    refine ⟨a :: bs, atMost_cons r (Nat.le_refl _) (by simp only [PyData.depth]; omega) hb, ?_⟩
    simp only [PyData.depth, PyData.shown]
    exact ReprK.tuple h1 h2 h3 hna hk
  | _, _, .dict (a := a) (es := es) (kvs := kvs) h1 h2 h3 hsys h4 h5, hs, hz => by
    have hz' : (dictText (PyData.shownKv kvs)).length ≤ sizeLine := by simpa only [PyData.shown] using hz
    obtain ⟨hs1, hs2⟩ := PyData.showableKv_split kvs (by simpa [PyData.showable] using hs)
    obtain ⟨b1, hb1, k1⟩ := ofNA h4 hs1 (fun t ht => let ⟨p, hp, hl⟩ := PyData.shownKv_key_le kvs t ht; Nat.le_trans hl (Nat.le_trans (dictText_mem_le hp) hz'))
    obtain ⟨b2, hb2, k2⟩ := ofNA h5 hs2 (fun t ht => let ⟨p, hp, hl⟩ := PyData.shownKv_val_le kvs t ht; Nat.le_trans hl (Nat.le_trans (dictText_mem_le hp) hz'))
    have r : RdN h₀ (.ref a) (.dict kvs) := .dict h1 h2 h3 hsys h4 h5
    have hb : ReadAtMost h₀ (PyData.depthKv kvs) (b1 ++ b2) := (hb1.mono (PyData.depthAll_keys_le kvs)).append (hb2.mono (PyData.depthAll_vals_le kvs))
    have hna : a ∉ b1 ++ b2 := deeper r (by simp only [PyData.depth]; omega) hb
    refine ⟨a :: (b1 ++ b2), atMost_cons r (Nat.le_refl _) (by simp only [PyData.depth]; omega) hb, ?_⟩
    simp only [PyData.depth, PyData.shown, PyData.shownKv_eq]
    exact ReprK.dict h1 h2 h3 hsys hna (ReprEntriesK.of_two es.toList _ _
      (k1.more_le (fun b hb => List.mem_append_left _ hb) (PyData.depthAll_keys_le kvs)) (k2.more_le (fun b hb => List.mem_append_right _ hb) (PyData.depthAll_vals_le kvs)))
theorem ofNA : ∀ {vs : List Value} {ds : List D}, RdNA h₀ vs ds → PyData.showableAll ds = true → (∀ t ∈ PyData.shownAll ds, t.length ≤ sizeLine) →
    ∃ bs, ReadAtMost h₀ (PyData.depthAll ds) bs ∧ ReprAllK prog w bs h₀ (PyData.depthAll ds) vs (PyData.shownAll ds)
  | _, _, .nil, _, _ => ⟨[], (fun _ h => nomatch h), by simp only [PyData.shownAll]; exact .nil⟩
  | _, _, .cons (d := d) (ds := ds) r rs, hs, hz => by
    have hs' : d.showable = true ∧ PyData.showableAll ds = true := by simpa [PyData.showableAll] using hs
    obtain ⟨b1, hb1, k1⟩ := ofN r hs'.1 (hz _ (by simp only [PyData.shownAll]; exact List.mem_cons_self ..))
    obtain ⟨b2, hb2, k2⟩ := ofNA rs hs'.2 (fun t ht => hz t (by simp only [PyData.shownAll]; exact List.mem_cons_of_mem _ ht))
    refine ⟨b1 ++ b2, ?_, ?_⟩
    · intro b hm
      simp only [PyData.depthAll]
      rcases List.mem_append.mp hm with hm | hm
      · obtain ⟨d', as', r', hd'⟩ := hb1 b hm
        exact ⟨d', as', r', Nat.le_trans hd' (Nat.le_max_left _ _)⟩
      · obtain ⟨d', as', r', hd'⟩ := hb2 b hm
        exact ⟨d', as', r', Nat.le_trans hd' (Nat.le_max_right _ _)⟩
    · simp only [PyData.depthAll, PyData.shownAll]
      exact .cons ((k1.more fun b hb => List.mem_append_left _ hb).level_le (Nat.le_max_left _ _)) (k2.more_le (fun b hb => List.mem_append_right _ hb) (Nat.le_max_right _ _))
end
theorem showsN {a : Addr} {d : D} (r : RdN h₀ (.ref a) d) (hs : d.showable = true) (hsz : d.shown.length ≤ sizeLine) : ∃ T idr, ShowsBy prog w h₀ a d T idr := by
  cases r with
  | list h1 h2 h3 h4 =>
    rename_i o vs n xs
    have hz' : (listText (PyData.shownAll xs)).length ≤ sizeLine := by simpa only [PyData.shown] using hsz
    obtain ⟨bs, hb, hk⟩ := ofNA (prog := prog) (w := w) h4 (by simpa [PyData.showable] using hs) (fun t ht => Nat.le_trans (listText_mem_le ht) hz')
    have hna : a ∉ bs := deeper (.list h1 h2 h3 h4) (by simp only [PyData.depth]; omega) hb
    refine ⟨"list", "list.__repr__", F.slot_list_repr.toG, F.slot_list_str, F.slot_list_format, fun s hk0 => ⟨o, hk0 _ _ h1, h2⟩, fun A E s Q hg hu hk0 hQ => ?_⟩
    simp only [PyData.depth] at hu
    simp only [PyData.shown] at hQ
    obtain ⟨l⟩ := vs
    cases l with
    | nil =>
      have h4' : RdNA h₀ [] xs := h4
      cases h4'
      simp only [PyData.shownAll, listText_nil] at hQ
      exact call_list_repr_empty ⟨o, hk0 _ _ h1, h2⟩ (hk0 _ _ h1) h3 (hQ s.heap _ _ fun _ _ e => e)
    | cons x l =>
      exact call_list_reprK h1 h2 h3 hna (by simpa using hk.length_eq) (fun i y e => hk.item i y (by simpa using e)) hg (fun b _ => Clear.nil b) hu hk0 hQ hz'
  | tuple h1 h2 h3 h4 =>
    rename_i o vs n xs
    have hz' : (tupleText (PyData.shownAll xs)).length ≤ sizeLine := by simpa only [PyData.shown] using hsz
    obtain ⟨bs, hb, hk⟩ := ofNA (prog := prog) (w := w) h4 (by simpa [PyData.showable] using hs) (fun t ht => Nat.le_trans (tupleText_mem_le ht) hz')
    have hna : a ∉ bs := deeper (.tuple h1 h2 h3 h4) (by simp only [PyData.depth]; omega) hb
    refine ⟨"tuple", "tuple.__repr__", F.slot_tuple_repr, F.slot_tuple_str, F.slot_tuple_format, fun s hk0 => ⟨o, hk0 _ _ h1, h2⟩, fun A E s Q hg hu hk0 hQ => ?_⟩
    simp only [PyData.depth] at hu
    simp only [PyData.shown] at hQ
    exact call_tuple_reprK h1 h2 h3 hna hk hg (fun b _ => Clear.nil b) hu hk0 hQ hz'
  | dict h1 h2 h3 hsys h4 h5 =>
    rename_i o es n kvs
    have hz' : (dictText (PyData.shownKv kvs)).length ≤ sizeLine := by simpa only [PyData.shown] using hsz
    obtain ⟨hs1, hs2⟩ := PyData.showableKv_split kvs (by simpa [PyData.showable] using hs)
    obtain ⟨b1, hb1, k1⟩ := ofNA (prog := prog) (w := w) h4 hs1 (fun t ht => let ⟨p, hp, hl⟩ := PyData.shownKv_key_le kvs t ht; Nat.le_trans hl (Nat.le_trans (dictText_mem_le hp) hz'))
    obtain ⟨b2, hb2, k2⟩ := ofNA (prog := prog) (w := w) h5 hs2 (fun t ht => let ⟨p, hp, hl⟩ := PyData.shownKv_val_le kvs t ht; Nat.le_trans hl (Nat.le_trans (dictText_mem_le hp) hz'))
    have hb : ReadAtMost h₀ (PyData.depthKv kvs) (b1 ++ b2) := (hb1.mono (PyData.depthAll_keys_le kvs)).append (hb2.mono (PyData.depthAll_vals_le kvs))
    have hna : a ∉ b1 ++ b2 := deeper (.dict h1 h2 h3 hsys h4 h5) (by simp only [PyData.depth]; omega) hb
    refine ⟨"dict", "dict.__repr__", F.slot_dict_repr, F.slot_dict_str, F.slot_dict_format, fun s hk0 => ⟨o, hk0 _ _ h1, h2⟩, fun A E s Q hg hu hk0 hQ => ?_⟩
    simp only [PyData.depth] at hu
    simp only [PyData.shown, PyData.shownKv_eq] at hQ
    exact call_dict_reprK h1 h2 h3 hsys hna (ReprEntriesK.of_two es.toList _ _
      (k1.more_le (fun b hb => List.mem_append_left _ hb) (PyData.depthAll_keys_le kvs)) (k2.more_le (fun b hb => List.mem_append_right _ hb) (PyData.depthAll_vals_le kvs))) hg (fun b _ => Clear.nil b) hu hk0 hQ (by rw [← PyData.shownKv_eq]; exact hz')
end
/-! ### repr -/
section
variable {X : Cx} {pins : List (Addr × Obj)} {σ : L2.St} {G H : Hp} {s : Shared}
theorem key_rdn {h : Heap} {k : Key} {v : Value} (e : keyIs k v = true) : RdN h v (kD k) := by
  rcases keyIs_shape e with ⟨i, t, rfl, rfl⟩ | ⟨x, t, rfl, rfl⟩
  · exact .int i t
  · exact .str x t
mutual
theorem rp_rdn (I : Inv X pins σ H s) (e : Sub G H) : ∀ {d : D} {v : V} {u : Value}, Rp X.K G v d → RelV v u → RdN s.heap u d
  | .none, _, _, h, r => by cases h; cases r; exact .none
  | .bool _, _, _, h, r => by cases h; cases r; exact .bool _
  | .int _, _, _, h, r => by cases h; obtain ⟨t, rfl⟩ := r; exact .int _ _
  | .str _, _, _, h, r => by cases h; obtain ⟨t, rfl⟩ := r; exact .str _ _
  | .list ds, _, _, h, r => by
    cases h with
    | lst h1 h2 =>
      cases r
      obtain ⟨its, rv, ⟨o, n, ho, hc, _, hd⟩, _⟩ := I.list (SqL.of (e _ _ h1))
      exact .list ho hc hd (rpL_rdn I e h2 rv)
  | .tuple ds, _, _, h, r => by
    cases h with
    | tup h1 h2 =>
      cases r
      obtain ⟨its, rv, ⟨o, ho, hc, n, hd⟩, _⟩ := I.tuple (e.seq h1)
      exact .tuple ho hc hd (rpL_rdn I e h2 rv)
  | .dict ds, _, _, h, r => by
    cases h with
    | dct h1 h2 =>
      cases r
      obtain ⟨_, hsys, vs, rel, o, es, ep, hg, hx, hd, _, hp, _⟩ := I.hok _ _ (e _ _ h1)
      have q := rpK_rdn I e h2 rel hp
      exact .dict hg hx.1 hd hsys q.1 q.2
theorem rpL_rdn (I : Inv X pins σ H s) (e : Sub G H) : ∀ {ds : List D} {vs : List V} {us : List Value}, RpL X.K G vs ds → Vals vs us → RdNA s.heap us ds
  | [], _, _, h, r => by cases h; cases r; exact .nil
  | d :: ds, _, _, h, r => by
    cases h with
    | cons h1 h2 =>
      cases r with
      | cons r1 r2 => exact .cons (rp_rdn I e h1 r1) (rpL_rdn I e h2 r2)
theorem rpK_rdn (I : Inv X pins σ H s) (e : Sub G H) : ∀ {ds : List (D × D)} {kvs : List (Key × V)} {vs : List (Key × Value)} {es : List DictEntry}, RpK X.K G kvs ds → KV kvs vs → Pairs (mixKind X.prog X.w) es vs →
    RdNA s.heap (es.map (·.key)) (ds.map (·.1)) ∧ RdNA s.heap (es.map (·.val)) (ds.map (·.2))
  | [], _, _, _, h, r, p => by cases h; cases r; cases p; exact ⟨.nil, .nil⟩
  | (kd, d) :: ds, _, _, _, h, r, p => by
    cases h with
    | cons h1 h2 =>
      cases r with
      | cons r1 r2 =>
        cases p with
        | cons p1 p2 p3 =>
          have q := rpK_rdn I e h2 r2 p3
          exact ⟨.cons (by have z := key_rdn (h := s.heap) p1; rw [← r1.1] at z; exact z) q.1, .cons (by have z := rp_rdn I e h1 r1.2; rw [← p2] at z; exact z) q.2⟩
end
end
def reprOkD (d : D) : Bool := d.showable && decide (d.depth ≤ 64) && decide (d.shown.length ≤ sizeLine)
def reprD : List D → Option Str
  | [d] => if reprOkD d = true then some d.shown else none
  | _ => none
def rReprD (K : PySem.W.Frag) : List V → Hp → VK → Prop := fun xs H Q => ∃ G v d, xs = [v] ∧ Sub G H ∧ Rp K G v d ∧ reprOkD d = true ∧ Q (.str d.shown) H
theorem call_reprD {X : Cx} (hgd : X.A.guards = some []) (hu : X.A.units + 65 < cLine) : CallR X (.builtin "repr") (rReprD X.K) := by
  intro pins s σ H xs us Q I r h
  obtain ⟨G, v, d, rfl, e, dp, ok, q⟩ := h
  cases r with
  | cons r1 r2 =>
    cases r2
    unfold reprOkD at ok
    rw [Bool.and_eq_true, Bool.and_eq_true] at ok
    obtain ⟨⟨h1, h3⟩, h4⟩ := ok
    have h3 := of_decide_eq_true h3
    have h4 := of_decide_eq_true h4
    have fin : ∀ (h' : Heap) u tk, (∀ b o, s.heap.get? b = some o → h'.get? b = some o) → EP X pins σ Q (.str d.shown u) { s with heap := h', toks := tk } := fun h' u tk hk => ⟨.str d.shown, H, I.kept (t' := tk) hk, ⟨u, rfl⟩, q⟩
    have rd := rp_rdn I e dp r1
    cases dp with
    | non => cases r1; exact PySem.P.repr_of_none (fin s.heap _ _ fun _ _ e => e)
    | bl b => cases r1; exact PySem.P.repr_of_bool (fin s.heap _ _ fun _ _ e => e)
    | int i => obtain ⟨t, rfl⟩ := r1; exact PySem.P.repr_of_int (by simpa [PyData.showable] using h1) (fin s.heap _ _ fun _ _ e => e)
    | str x => obtain ⟨t, rfl⟩ := r1; exact PySem.P.repr_of_str (fin s.heap _ _ fun _ _ e => e) h4
    | lst a b =>
                  cases r1
                  obtain ⟨T, idr, S⟩ := showsN (prog := X.prog) (w := X.w) rd h1 h4
                  exact call_repr_slot (by omega) (S.typeIs s fun _ _ e => e) S.slotRepr (S.call X.A.in1 _ s _ hgd (by show X.A.units + 1 + PyData.depth _ < cLine; omega) (fun _ _ e => e) fun h' u tk hk => ⟨_, _, rfl, fin h' u tk hk⟩)
    | tup a b =>
                  cases r1
                  obtain ⟨T, idr, S⟩ := showsN (prog := X.prog) (w := X.w) rd h1 h4
                  exact call_repr_slot (by omega) (S.typeIs s fun _ _ e => e) S.slotRepr (S.call X.A.in1 _ s _ hgd (by show X.A.units + 1 + PyData.depth _ < cLine; omega) (fun _ _ e => e) fun h' u tk hk => ⟨_, _, rfl, fin h' u tk hk⟩)
    | dct a b =>
                  cases r1
                  obtain ⟨T, idr, S⟩ := showsN (prog := X.prog) (w := X.w) rd h1 h4
                  exact call_repr_slot (by omega) (S.typeIs s fun _ _ e => e) S.slotRepr (S.call X.A.in1 _ s _ hgd (by show X.A.units + 1 + PyData.depth _ < cLine; omega) (fun _ _ e => e) fun h' u tk hk => ⟨_, _, rfl, fin h' u tk hk⟩)
theorem pc_reprD {K : PySem.W.Frag} : PC K (rReprD K) reprD PyData.str := fun H G vs ds d Q s rl e q => by
  cases rl with
  | nil => cases e
  | @cons v vs d1 ds r1 r2 =>
    cases r2 with
    | cons _ _ => cases e
    | nil =>
      unfold reprD at e
      dsimp only at e
      split at e
      · rename_i hk
        cases e
        exact ⟨G, v, d1, rfl, s, r1, hk, q _ H G (New.refl s) (.str _)⟩
      · cases e
/-! ### an item of one's own list -/
section
variable {γ : Type} {m : Type → Type} [PM γ m] {β : Type} {C : Cc γ} {X : Cx} {ρ : En}
theorem ce_ixW {y : Str} {b : Expr} {p1 pos : Pos} {x : m β} {k : D → m β} (i : Nat) {xs : List D} (hi : ρ[i]? = some (some (.own (.lst xs)))) (hu : X.A.units + 1 < cLine) (hb : CE C X ρ b dv x (fun d2 => bnd (need (ixF (.list xs) d2)) k)) (hp : PE X (.Name y p1) (tVar i) := by exact pv _) (hs : PlainIx b := by intro _ _; rfl) :
    CE C X ρ (.Subscript (.Name y p1) b pos) dv x k := fun Qf =>
  PE.imp (pe_ix (ix_all hu) hp (hb Qf) hs) fun σ H Q ⟨G, J, g, st, w, h⟩ => by
    obtain ⟨p, h1, h2, h3, h4, vs0, hv0, rl0⟩ := st.env.own i _ hi
    refine ⟨_, h1, G, J, g, st, w, fun v2 d2 H2 G2 J2 g2 af2 si2 r2 w2 => ?_⟩
    obtain ⟨d, e, w3⟩ := of_need w2
    have st2 := st.go af2 si2
    obtain ⟨p', k1, k2, k3, k4, vs, hv, rl⟩ := st2.env.own i _ hi
    rw [h1] at k1; cases k1
    cases r2 with
    | int j =>
      obtain ⟨v, e1, e2⟩ := atI_rp rl (show atI xs j = some d from e)
      exact .inl (.inl ⟨p, vs, j, v, rfl, rfl, SqL.of hv, e1, h v d H2 G2 J2 g2 af2 si2 e2 w3⟩)
    | _ => cases e
end
end Cl

set_option Elab.async false
set_option linter.all false
set_option autoImplicit false
set_option maxRecDepth 100000
set_option maxHeartbeats 400000
/-! the clean layer, part ZC: books and standings, typed; how they are written as data; plain steps as equations -/
namespace Cl
open PySem PySem.Spec PyProof.Rows L2
open MO
/-! ### plain steps as equations -/
theorem nrfl {α : Sort _} {a b : α} (h : a = b) : a = b := by rw [h]
section
variable {α β : Type}
theorem sP_need (a : α) (k : α → P β) : bnd (need (some a) : P α) k = k a := nrfl rfl
theorem sP_nd (a : α) : (need (some a) : P α) = P.ok a := nrfl rfl
theorem sP_pur (a : α) (k : α → P β) : bnd (pur a : P α) k = k a := nrfl rfl
theorem sP_ok (a : α) (k : α → P β) : bnd (P.ok a) k = k a := nrfl rfl
theorem sP_lift (x : P α) : (lift x : P α) = x := rfl
theorem sP_nox (a : α) : nox (P.ok a) = P.ok a := rfl
theorem sP_pu (a : α) : (pur a : P α) = P.ok a := rfl
theorem sP_jn (f : (α → P β) → P β) (k : α → P β) : jn f k = f k := nrfl rfl
theorem sP_bp (x : P α) : (bnd x fun d => pur d) = x := by cases x <;> rfl
theorem sP_bo (x : P α) : (bnd x fun d => P.ok d) = x := by cases x <;> rfl
theorem sP_ite (c : Prop) [Decidable c] (a b : α) (k : α → P β) : bnd (if c then P.ok a else P.ok b) k = k (if c then a else b) := by split <;> rfl
theorem sP_ok2 (c : Prop) [Decidable c] (a b : α) : (if c then P.ok a else P.ok b) = P.ok (if c then a else b) := by split <;> rfl
theorem sP_c1 (f : Ar [true] → P α) (a : D) : callM [true] f [.v a] = f (a, ()) := rfl
theorem sP_c2 (f : Ar [true, true] → P α) (a b : D) : callM [true, true] f [.v a, .v b] = f (a, b, ()) := rfl
theorem sP_c3 (f : Ar [true, true, true] → P α) (a b c : D) : callM [true, true, true] f [.v a, .v b, .v c] = f (a, b, c, ()) := rfl
theorem sP_c4 (f : Ar [true, true, true, true] → P α) (a b c d : D) : callM [true, true, true, true] f [.v a, .v b, .v c, .v d] = f (a, b, c, d, ()) := rfl
theorem sP_c5 (f : Ar [true, true, true, true, true] → P α) (a b c d e : D) : callM [true, true, true, true, true] f [.v a, .v b, .v c, .v d, .v e] = f (a, b, c, d, e, ()) := rfl
theorem sP_u2 (a b : D) : (unT (unC some (un1 some))) (.tuple [a, b]) = some (a, b) := rfl
theorem sP_u3 (a b c : D) : (unT (unC some (unC some (un1 some)))) (.tuple [a, b, c]) = some (a, b, c) := rfl
theorem sP_u23 (a b c d : D) : (unT (unC some (un1 (unT (unC some (unC some (un1 some))))))) (.tuple [a, .tuple [b, c, d]]) = some (a, b, c, d) := rfl
theorem sP_asB (b : Bool) : asB (.bool b) = some b := rfl
theorem sP_asI (i : Int) : asI (.int i) = some i := rfl
theorem sP_itT (xs : List D) : items (.tuple xs) = some xs := rfl
theorem sP_itL (xs : List D) : items (.list xs) = some xs := rfl
theorem sP_tsL (xs : List D) : itemsF [.list xs] = some xs := rfl
theorem sP_tsT (xs : List D) : itemsF [.tuple xs] = some xs := rfl
theorem sP_lnL (xs : List D) : lenF [.list xs] = some ((xs.length : Nat) : Int) := rfl
theorem sP_lnT (xs : List D) : lenF [.tuple xs] = some ((xs.length : Nat) : Int) := rfl
theorem sP_ge (a b : Int) : geF (.int a) (.int b) = some (decide (b ≤ a)) := rfl
theorem sP_gt (a b : Int) : gtF (.int a) (.int b) = some (decide (b < a)) := rfl
theorem sP_le (a b : Int) : leF (.int a) (.int b) = some (decide (a ≤ b)) := rfl
theorem sP_lt (a b : Int) : ltF (.int a) (.int b) = some (decide (a < b)) := rfl
theorem sP_addI (a b : Int) : addF (.int a) (.int b) = some (.int (a + b)) := rfl
theorem sP_subI (a b : Int) : subF (.int a) (.int b) = some (.int (a - b)) := rfl
theorem sP_addT {a b : List D} (h : a.length + b.length ≤ sizeLine) : addF (.tuple a) (.tuple b) = some (.tuple (a ++ b)) := if_pos h
theorem sP_eqS (x y : Str) : eqF (.str x) (.str y) = some (decide (x = y)) := rfl
theorem sP_neS (x y : Str) : neF (.str x) (.str y) = some (!decide (x = y)) := rfl
theorem ixT {xs : List D} {i : Int} {j : Nat} {d : D} (h : i = (j : Nat)) (e : xs[j]? = some d) : ixF (.tuple xs) (.int i) = some d := by
  subst h
  show (ixN xs.length ((j : Nat) : Int)).bind (fun k => xs[k]?) = _
  have hj : j < xs.length := by
    rw [List.getElem?_eq_some_iff] at e
    exact e.1
  unfold ixN
  rw [if_pos (by omega), if_pos (by omega)]
  exact e
theorem sP_ix0 (a : D) (r : List D) : ixF (.tuple (a :: r)) (.int 0) = some a := ixT (j := 0) rfl rfl
theorem sP_ix1 (a b : D) (r : List D) : ixF (.tuple (a :: b :: r)) (.int 1) = some b := ixT (j := 1) rfl rfl
theorem sP_ix2 (a b c : D) (r : List D) : ixF (.tuple (a :: b :: c :: r)) (.int 2) = some c := ixT (j := 2) rfl rfl
theorem sP_ixm {α : Type} {f : α → D} {xs : List α} {j : Nat} {x : α} (h : xs[j]? = some x) : ixF (.tuple (xs.map f)) (.int (j : Nat)) = some (f x) := ixT rfl (by rw [List.getElem?_map, h]; rfl)
theorem eqv_int (a b : Int) : eqF (.int a) (.int b) = some (a == b) := rfl
theorem sP_eqI (a b : Int) : eqF (.int a) (.int b) = some (decide (a = b)) := by
  rw [eqv_int]
  by_cases h : a = b
  · subst h; simp
  · rw [decide_eq_false h]; simp [h]
theorem sP_neI (a b : Int) : neF (.int a) (.int b) = some (!decide (a = b)) := by
  show (eqF _ _).map (!·) = _
  rw [sP_eqI]
  rfl
end
section
variable {γ α β : Type}
theorem sM_need (a : α) (k : α → M γ β) : bnd (need (some a) : M γ α) k = k a := nrfl rfl
theorem sM_pur (a : α) (k : α → M γ β) : bnd (pur a : M γ α) k = k a := nrfl rfl
theorem sM_ok (a : α) (k : α → M γ β) : bnd (lift (P.ok a) : M γ α) k = k a := nrfl rfl
theorem sM_jn (f : (α → M γ β) → M γ β) (k : α → M γ β) : jn f k = f k := nrfl rfl
theorem sM_bp (x : M γ α) : (bnd x fun d => pur d) = x := nrfl rfl
/-- what a pure part gives -/
theorem w_get {x : M γ α} {k : α → M γ β} {g : γ} {Q : β → γ → Prop} {E : Xc → γ → Prop} (Pp : α → Prop) (hx : x.wp g (fun a g' => g' = g ∧ Pp a) E) (hk : ∀ a, Pp a → (k a).wp g Q E) : (bnd x k).wp g Q E := x.mono hx fun a g' h => by
  obtain ⟨rfl, h⟩ := h
  exact hk a h
theorem w_jnX {f : (α → M γ β) → M γ β} {k : α → M γ β} {g : γ} {Q : β → γ → Prop} {E : Xc → γ → Prop} (Pp : α → γ → Prop) (hf : ∀ k' : α → M γ β, (∀ a g', Pp a g' → (k' a).wp g' Q E) → (f k').wp g Q E) (hk : ∀ a g', Pp a g' → (k a).wp g' Q E) : (jn f k).wp g Q E := hf k hk
theorem sM_ite (c : Prop) [Decidable c] (a b : α) (k : α → M γ β) : bnd (if c then (pur a : M γ α) else pur b) k = k (if c then a else b) := by split <;> rfl
end
/-! ### sequences of whole numbers -/
theorem shaped_ofInts (ns : List Int) : SeqAt.shaped (.tuple (ns.map PyData.int)) = true := by
  have a : PyData.canLayAll0 (ns.map PyData.int) = true := by
    induction ns with
    | nil => rfl
    | cons n ns ih => rw [List.map_cons, PyData.canLayAll0, ih]; rfl
  have b : PyData.depthAll (ns.map PyData.int) = 0 := by
    clear a
    induction ns with
    | nil => rfl
    | cons n ns ih => rw [List.map_cons, PyData.depthAll, ih]; rfl
  unfold SeqAt.shaped
  rw [PyData.canLay0, a, PyData.depth, b]
  rfl
/-! ### the types -/
inductive Dw where
  | put | take | wish
deriving DecidableEq
inductive Ph where
  | free | late | noted | lying | asleep | woken | calling | passing | yielding | storing
deriving DecidableEq
inductive Mk where
  | no | called | given
deriving DecidableEq
inductive Many where
  | one | each | all
deriving DecidableEq
inductive Wok where
  | tries | takes | given
deriving DecidableEq
inductive Pas where
  | never | left | always
deriving DecidableEq
/-- a book: of two words true is the first one -/
structure Bk where
  note : Bool
  call : Bool
  put : Bool
  many : Many
  woken : Wok
  fails : Bool
  pas : Pas
  quits : Bool
  comers : Bool
  order : Bool
deriving DecidableEq
structure Deed where
  w : Dw
  n : Nat
deriving DecidableEq
structure Sta where
  left : List Deed
  ph : Ph
  mrk : Mk
deriving DecidableEq
structure Sd where
  tok : Int
  row : List Nat
  sts : List Sta
deriving DecidableEq
/-! ### as data -/
def Dw.s : Dw → Str
  | .put => "put" | .take => "take" | .wish => "wish"
def Ph.s : Ph → Str
  | .free => "free" | .late => "late" | .noted => "noted" | .lying => "lying" | .asleep => "asleep" | .woken => "woken" | .calling => "calling" | .passing => "passing" | .yielding => "yielding" | .storing => "storing"
def Mk.s : Mk → Str
  | .no => "no" | .called => "called" | .given => "given"
def Many.s : Many → Str
  | .one => "one" | .each => "each" | .all => "all"
def Wok.s : Wok → Str
  | .tries => "tries" | .takes => "takes" | .given => "given"
def Pas.s : Pas → Str
  | .never => "never" | .left => "left" | .always => "always"
def noteS : Bool → Str
  | true => "ahead" | false => "behind"
def callS : Bool → Str
  | true => "kept" | false => "lost"
def putS : Bool → Str
  | true => "first" | false => "last"
def failS : Bool → Str
  | true => "back" | false => "front"
def quitS : Bool → Str
  | true => "passes" | false => "drops"
def comS : Bool → Str
  | true => "free" | false => "behind"
def ordS : Bool → Str
  | true => "first" | false => "any"
def eBk (b : Bk) : D := .tuple [.str (noteS b.note), .str (callS b.call), .str (putS b.put), .str b.many.s, .str b.woken.s, .str (failS b.fails), .str b.pas.s, .str (quitS b.quits), .str (comS b.comers), .str (ordS b.order)]
def eDd (d : Deed) : D := .tuple [.str d.w.s, .int (d.n : Nat)]
def eLf (l : List Deed) : D := .tuple (l.map eDd)
def eSta (x : Sta) : D := .tuple [eLf x.left, .str x.ph.s, .str x.mrk.s]
def eH (h : Nat) : D := .int ((h : Nat) : Int)
def eRow (r : List Nat) : D := .tuple (r.map eH)
def eSts (l : List Sta) : D := .tuple (l.map eSta)
def eSd (s : Sd) : D := .tuple [.int s.tok, eRow s.row, eSts s.sts]
section
variable (p : Ph) (m : Mk) (w : Dw) (b : Bool)
theorem ph_free : eqF (.str p.s) (.str "free") = some (decide (p = .free)) := by cases p <;> decide
theorem ph_late : eqF (.str p.s) (.str "late") = some (decide (p = .late)) := by cases p <;> decide
theorem ph_noted : eqF (.str p.s) (.str "noted") = some (decide (p = .noted)) := by cases p <;> decide
theorem ph_lying : eqF (.str p.s) (.str "lying") = some (decide (p = .lying)) := by cases p <;> decide
theorem ph_asleep : eqF (.str p.s) (.str "asleep") = some (decide (p = .asleep)) := by cases p <;> decide
theorem ph_woken : eqF (.str p.s) (.str "woken") = some (decide (p = .woken)) := by cases p <;> decide
theorem ph_calling : eqF (.str p.s) (.str "calling") = some (decide (p = .calling)) := by cases p <;> decide
theorem ph_passing : eqF (.str p.s) (.str "passing") = some (decide (p = .passing)) := by cases p <;> decide
theorem ph_yielding : eqF (.str p.s) (.str "yielding") = some (decide (p = .yielding)) := by cases p <;> decide
theorem ph_storing : eqF (.str p.s) (.str "storing") = some (decide (p = .storing)) := by cases p <;> decide
theorem mk_no : eqF (.str m.s) (.str "no") = some (decide (m = .no)) := by cases m <;> decide
theorem mk_called : eqF (.str m.s) (.str "called") = some (decide (m = .called)) := by cases m <;> decide
theorem mk_given : eqF (.str m.s) (.str "given") = some (decide (m = .given)) := by cases m <;> decide
theorem dw_put : eqF (.str w.s) (.str "put") = some (decide (w = .put)) := by cases w <;> decide
theorem dw_take : eqF (.str w.s) (.str "take") = some (decide (w = .take)) := by cases w <;> decide
theorem dw_wish : eqF (.str w.s) (.str "wish") = some (decide (w = .wish)) := by cases w <;> decide
theorem bk_ahead : eqF (.str (noteS b)) (.str "ahead") = some b := by cases b <;> decide
theorem bk_behind : eqF (.str (noteS b)) (.str "behind") = some (!b) := by cases b <;> decide
theorem bk_kept : eqF (.str (callS b)) (.str "kept") = some b := by cases b <;> decide
theorem bk_lost : eqF (.str (callS b)) (.str "lost") = some (!b) := by cases b <;> decide
theorem bk_first : eqF (.str (putS b)) (.str "first") = some b := by cases b <;> decide
theorem bk_last : eqF (.str (putS b)) (.str "last") = some (!b) := by cases b <;> decide
theorem bk_back : eqF (.str (failS b)) (.str "back") = some b := by cases b <;> decide
theorem bk_passes : eqF (.str (quitS b)) (.str "passes") = some b := by cases b <;> decide
theorem bk_drops : eqF (.str (quitS b)) (.str "drops") = some (!b) := by cases b <;> decide
theorem bk_free : eqF (.str (comS b)) (.str "free") = some b := by cases b <;> decide
theorem bk_behind2 : eqF (.str (comS b)) (.str "behind") = some (!b) := by cases b <;> decide
theorem bk_any : eqF (.str (ordS b)) (.str "any") = some (!b) := by cases b <;> decide
theorem bk_ofirst : eqF (.str (ordS b)) (.str "first") = some b := by cases b <;> decide
theorem wk_tries (w : Wok) : eqF (.str w.s) (.str "tries") = some (decide (w = .tries)) := by cases w <;> decide
theorem wk_takes (w : Wok) : eqF (.str w.s) (.str "takes") = some (decide (w = .takes)) := by cases w <;> decide
theorem wk_given (w : Wok) : eqF (.str w.s) (.str "given") = some (decide (w = .given)) := by cases w <;> decide
theorem mn_one (w : Many) : eqF (.str w.s) (.str "one") = some (decide (w = .one)) := by cases w <;> decide
theorem mn_each (w : Many) : eqF (.str w.s) (.str "each") = some (decide (w = .each)) := by cases w <;> decide
theorem mn_all (w : Many) : eqF (.str w.s) (.str "all") = some (decide (w = .all)) := by cases w <;> decide
theorem ps_never' (w : Pas) : eqF (.str w.s) (.str "never") = some (decide (w = .never)) := by cases w <;> decide
theorem ps_left (w : Pas) : eqF (.str w.s) (.str "left") = some (decide (w = .left)) := by cases w <;> decide
theorem ps_always (w : Pas) : eqF (.str w.s) (.str "always") = some (decide (w = .always)) := by cases w <;> decide
end
theorem cv1 : eqF (.str "on") (.str "on") = some true := by decide
theorem cv2 : eqF (.str "away") (.str "on") = some false := by decide
theorem cv3 : eqF (.str "call") (.str "on") = some false := by decide
theorem cv4 : eqF (.str "on") (.str "away") = some false := by decide
theorem cv5 : eqF (.str "away") (.str "away") = some true := by decide
theorem cv6 : eqF (.str "call") (.str "away") = some false := by decide
theorem cv7 : eqF (.str "on") (.str "call") = some false := by decide
theorem cv8 : eqF (.str "away") (.str "call") = some false := by decide
theorem cv9 : eqF (.str "call") (.str "call") = some true := by decide
theorem neF_eq (a b : D) : neF a b = (eqF a b).map (!·) := rfl
theorem neF_of {a b : D} {t : Bool} (h : eqF a b = some t) : neF a b = some (!t) := by unfold neF; rw [h]; rfl
section
variable (b : Bk) (s : Sd) (x : Sta) (d : Deed)
theorem ib0 : ixF (eBk b) (.int 0) = some (.str (noteS b.note)) := ixT (j := 0) rfl rfl
theorem ib1 : ixF (eBk b) (.int 1) = some (.str (callS b.call)) := ixT (j := 1) rfl rfl
theorem ib2 : ixF (eBk b) (.int 2) = some (.str (putS b.put)) := ixT (j := 2) rfl rfl
theorem ib3 : ixF (eBk b) (.int 3) = some (.str b.many.s) := ixT (j := 3) rfl rfl
theorem ib4 : ixF (eBk b) (.int 4) = some (.str b.woken.s) := ixT (j := 4) rfl rfl
theorem ib5 : ixF (eBk b) (.int 5) = some (.str (failS b.fails)) := ixT (j := 5) rfl rfl
theorem ib6 : ixF (eBk b) (.int 6) = some (.str b.pas.s) := ixT (j := 6) rfl rfl
theorem ib7 : ixF (eBk b) (.int 7) = some (.str (quitS b.quits)) := ixT (j := 7) rfl rfl
theorem ib8 : ixF (eBk b) (.int 8) = some (.str (comS b.comers)) := ixT (j := 8) rfl rfl
theorem ib9 : ixF (eBk b) (.int 9) = some (.str (ordS b.order)) := ixT (j := 9) rfl rfl
theorem is0 : ixF (eSd s) (.int 0) = some (.int s.tok) := ixT (j := 0) rfl rfl
theorem is1 : ixF (eSd s) (.int 1) = some (eRow s.row) := ixT (j := 1) rfl rfl
theorem is2 : ixF (eSd s) (.int 2) = some (eSts s.sts) := ixT (j := 2) rfl rfl
theorem ia0 : ixF (eSta x) (.int 0) = some (eLf x.left) := ixT (j := 0) rfl rfl
theorem ia1 : ixF (eSta x) (.int 1) = some (.str x.ph.s) := ixT (j := 1) rfl rfl
theorem ia2 : ixF (eSta x) (.int 2) = some (.str x.mrk.s) := ixT (j := 2) rfl rfl
theorem id0 : ixF (eDd d) (.int 0) = some (.str d.w.s) := ixT (j := 0) rfl rfl
theorem id1 : ixF (eDd d) (.int 1) = some (.int (d.n : Nat)) := ixT (j := 1) rfl rfl
theorem il0 {l : List Deed} {d : Deed} {r : List Deed} (h : l = d :: r) : ixF (eLf l) (.int 0) = some (eDd d) := by subst h; exact ixT (j := 0) rfl rfl
theorem ist {l : List Sta} {h : Nat} {x : Sta} (e : l[h]? = some x) : ixF (eSts l) (.int ((h : Nat) : Int)) = some (eSta x) := sP_ixm e
theorem ixS (l : List Sta) (h : Nat) : ixF (eSts l) (.int ((h : Nat) : Int)) = (l[h]?).map eSta := by
  cases e : l[h]? with
  | some x => exact ist e
  | none =>
    show (ixN (l.map eSta).length ((h : Nat) : Int)).bind (fun k => (l.map eSta)[k]?) = none
    have : l.length ≤ h := List.getElem?_eq_none_iff.mp e
    unfold ixN
    rw [List.length_map, if_pos (by omega), if_neg (by omega)]
    rfl
theorem ixL (l : List Deed) : ixF (eLf l) (.int 0) = (l.head?).map eDd := by
  cases l with
  | nil => rfl
  | cons d r => exact il0 rfl
theorem ur3 : (unT (unC some (unC some (un1 some)))) (eSd s) = some (.int s.tok, eRow s.row, eSts s.sts) := rfl
theorem ua3 : (unT (unC some (unC some (un1 some)))) (eSta x) = some (eLf x.left, .str x.ph.s, .str x.mrk.s) := rfl
theorem ud2 : (unT (unC some (un1 some))) (eDd d) = some (.str d.w.s, .int (d.n : Nat)) := rfl
theorem row_ne (r : List Nat) : eqF (eRow r) (.tuple []) = some (decide (r = [])) := by
  have e : eRow r = .tuple ((r.map fun h => ((h : Nat) : Int)).map PyData.int) := by rw [List.map_map]; rfl
  show (if SeqAt.shaped (eRow r) = true ∧ SeqAt.shaped (.tuple []) = true then some (PyData.eqv (eRow r) (.tuple [])) else none) = _
  rw [if_pos ⟨by rw [e]; exact shaped_ofInts _, by decide⟩]
  cases r with
  | nil => rfl
  | cons a r => rfl
theorem row_in (h : Nat) (r : List Nat) : inF (.int ((h : Nat) : Int)) (eRow r) = some (decide (h ∈ r)) := by
  have e1 : ((r.map eH).all sc) = true := by
    rw [List.all_eq_true]
    intro x hx
    obtain ⟨y, _, rfl⟩ := List.mem_map.mp hx
    rfl
  show (if (sc (.int ((h : Nat) : Int)) && (r.map eH).all sc) = true then some ((r.map eH).any fun y => eqS y (.int ((h : Nat) : Int))) else none) = _
  rw [e1, if_pos (by rfl)]
  congr 1
  rw [List.any_map]
  induction r with
  | nil => rfl
  | cons a r ih =>
    rw [List.any_cons, ih (by rw [List.map_cons, List.all_cons, Bool.and_eq_true] at e1; exact e1.2)]
    by_cases z : h = a
    · subst z
      have : (((fun y => eqS y (.int ((h : Nat) : Int))) ∘ eH) h) = true := by
        show (((h : Nat) : Int) == ((h : Nat) : Int)) = true
        simp
      rw [this]
      simp
    · have : (((fun y => eqS y (.int ((h : Nat) : Int))) ∘ eH) a) = false := by
        show (((a : Nat) : Int) == ((h : Nat) : Int)) = false
        simp
        omega
      rw [this]
      simp [z]
theorem ninF_eq (a b : D) : ninF a b = (inF a b).map (!·) := rfl
theorem row_hd (r : List Nat) : ixF (eRow r) (.int 0) = (r.head?).map eH := by
  cases r with
  | nil => rfl
  | cons d r => exact ixT (j := 0) rfl rfl
theorem row_add {r : List Nat} {h : Nat} (hl : r.length ≤ 1000) : addF (eRow r) (.tuple [.int ((h : Nat) : Int)]) = some (eRow (r ++ [h])) := by
  have big := sizeLine_eq
  unfold eRow
  rw [sP_addT (by rw [List.length_map, List.length_singleton]; omega), List.map_append]
  rfl
theorem row_pre {r : List Nat} {h : Nat} (hl : r.length ≤ 1000) : addF (.tuple [.int ((h : Nat) : Int)]) (eRow r) = some (eRow (h :: r)) := by
  have big := sizeLine_eq
  unfold eRow
  rw [sP_addT (by rw [List.length_map, List.length_singleton]; omega)]
  rfl
theorem eH_eq (a h : Nat) : eqF (eH a) (.int ((h : Nat) : Int)) = some (decide (a = h)) := by
  unfold eH
  rw [sP_eqI]
  congr 1
  by_cases z : a = h
  · subst z; simp
  · rw [decide_eq_false z, decide_eq_false (by omega)]
/-- a row without a hand -/
theorem comp_keep {α : Type} {f : D → P (Option D)} {g : α → D} {p : α → Bool} : ∀ {l : List α} {acc : List D}, (∀ a ∈ l, f (g a) = .ok (if p a = true then some (g a) else none)) → acc.length + l.length ≤ sizeLine → (compL (l.map g) acc f : P (List D)) = .ok (acc ++ (l.filter p).map g)
  | [], acc, _, _ => by show P.ok acc = .ok (acc ++ []); rw [List.append_nil]
  | a :: l, acc, hf, h => by
    rw [List.length_cons] at h
    have hf2 := fun b hb => hf b (List.mem_cons_of_mem _ hb)
    refine p_bnd (hf a List.mem_cons_self) ?_
    by_cases z : p a = true
    · rw [if_pos z, List.filter_cons_of_pos z]
      refine p_need (a := acc ++ [g a]) (by unfold appF; rw [if_pos (by omega)]) ?_
      rw [comp_keep (l := l) (acc := acc ++ [g a]) hf2 (by rw [List.length_append, List.length_singleton]; omega), List.append_assoc]
      rfl
    · rw [if_neg z, List.filter_cons_of_neg z]
      exact (comp_keep (l := l) (acc := acc) hf2 (by omega) : _ = P.ok (acc ++ _))
theorem comp_map {α : Type} {f : D → P (Option D)} {g g2 : α → D} : ∀ {l : List α} {acc : List D}, (∀ a ∈ l, f (g a) = .ok (some (g2 a))) → acc.length + l.length ≤ sizeLine → (compL (l.map g) acc f : P (List D)) = .ok (acc ++ l.map g2)
  | [], acc, _, _ => by show P.ok acc = .ok (acc ++ []); rw [List.append_nil]
  | a :: l, acc, hf, h => by
    rw [List.length_cons] at h
    have hf2 := fun b hb => hf b (List.mem_cons_of_mem _ hb)
    refine p_bnd (hf a List.mem_cons_self) ?_
    refine p_need (o := appF acc (g2 a)) (a := acc ++ [g2 a]) (by unfold appF; rw [if_pos (by omega)]) ?_
    rw [comp_map (l := l) (acc := acc ++ [g2 a]) hf2 (by rw [List.length_append, List.length_singleton]; omega), List.append_assoc]
    rfl
theorem its_row (r : List Nat) : items (eRow r) = some (r.map eH) := rfl
theorem its_sts (l : List Sta) : items (eSts l) = some (l.map eSta) := rfl
theorem len_row (r : List Nat) : lenF [eRow r] = some ((r.length : Nat) : Int) := by
  show some (((r.map eH).length : Nat) : Int) = _
  rw [List.length_map]
theorem extL_ok {xs ys : List D} (h : xs.length + ys.length ≤ sizeLine) : extF xs (.list ys) = some (xs ++ ys) := if_pos h
theorem appL_ok {xs : List D} {y : D} (h : xs.length < sizeLine) : appF xs y = some (xs ++ [y]) := if_pos h
theorem comp_row {f : D → P (Option D)} {p : Nat → Bool} {l : List Nat} (hf : ∀ a ∈ l, f (.int ((a : Nat) : Int)) = .ok (if p a = true then some (.int ((a : Nat) : Int)) else none)) (h : l.length ≤ 1000) : (compL (l.map eH) [] f : P (List D)) = .ok ((l.filter p).map eH) := by
  have big := sizeLine_eq
  rw [comp_keep (g := eH) (p := p) hf (by rw [List.length_nil]; omega), List.nil_append]
/-! ### loops -/
/-- a plain loop by what holds between its turns -/
theorem p_forI {τ : Type} {f : D → τ → P τ} (I : Nat → τ → Prop) : ∀ {ds : List D} {t : τ} {n : Nat}, (∀ i d t, ds[i]? = some d → I (n + i) t → ∃ t', f d t = .ok t' ∧ I (n + i + 1) t') → I n t → ∃ t', (forP ds t f : P τ) = .ok t' ∧ I (n + ds.length) t'
  | [], t, n, _, h => ⟨t, rfl, h⟩
  | d :: ds, t, n, hs, h => by
    obtain ⟨t1, e1, h1⟩ := hs 0 d t rfl h
    obtain ⟨t2, e2, h2⟩ := p_forI I (ds := ds) (t := t1) (n := n + 1) (fun i d t e hi => by
      obtain ⟨t', a, b⟩ := hs (i + 1) d t (by rw [List.getElem?_cons_succ]; exact e) (by rw [show n + (i + 1) = n + 1 + i by omega]; exact hi)
      exact ⟨t', a, by rw [show n + 1 + i + 1 = n + (i + 1) + 1 by omega]; exact b⟩) h1
    refine ⟨t2, p_bnd e1 e2, ?_⟩
    rw [List.length_cons, show n + (ds.length + 1) = n + 1 + ds.length by omega]
    exact h2
theorem p_forE {τ : Type} {f : D → τ → P τ} {ds : List D} {t r : τ} (I : Nat → τ → Prop) (hs : ∀ i d t, ds[i]? = some d → I i t → ∃ t', f d t = .ok t' ∧ I (i + 1) t') (h0 : I 0 t) (he : ∀ t', I ds.length t' → t' = r) : (forP ds t f : P τ) = .ok r := by
  obtain ⟨t', e, h⟩ := p_forI I (n := 0) (ds := ds) (t := t) (f := f) (fun i d t e hi => by rw [Nat.zero_add] at hi ⊢; exact hs i d t e hi) h0
  rw [Nat.zero_add] at h
  rw [e, he t' h]
/-- one that may leave -/
theorem p_forLI {δ τ : Type} {f : D → τ → P (Lp δ τ)} (I : Nat → τ → Prop) (Rr : δ → Prop) : ∀ {ds : List D} {t : τ} {n : Nat}, (∀ i d t, ds[i]? = some d → I (n + i) t → (∃ t', f d t = .ok (.nx t') ∧ I (n + i + 1) t') ∨ ∃ q, f d t = .ok (.rt q) ∧ Rr q) → I n t →
    (∃ t', (forL ds t f : P (Lp δ τ)) = .ok (.nx t') ∧ I (n + ds.length) t') ∨ ∃ q, (forL ds t f : P (Lp δ τ)) = .ok (.rt q) ∧ Rr q
  | [], t, n, _, h => .inl ⟨t, rfl, h⟩
  | d :: ds, t, n, hs, h => by
    rcases hs 0 d t rfl h with ⟨t1, e1, h1⟩ | ⟨q, e1, h1⟩
    · rcases p_forLI I Rr (ds := ds) (t := t1) (n := n + 1) (fun i d t e hi => by
        rcases hs (i + 1) d t (by rw [List.getElem?_cons_succ]; exact e) (by rw [show n + (i + 1) = n + 1 + i by omega]; exact hi) with ⟨t', a, b⟩ | ⟨q, a, b⟩
        · exact .inl ⟨t', a, by rw [show n + 1 + i + 1 = n + (i + 1) + 1 by omega]; exact b⟩
        · exact .inr ⟨q, a, b⟩) h1 with ⟨t2, e2, h2⟩ | ⟨q, e2, h2⟩
      · refine .inl ⟨t2, p_bnd e1 e2, ?_⟩
        rw [List.length_cons, show n + (ds.length + 1) = n + 1 + ds.length by omega]
        exact h2
      · exact .inr ⟨q, p_bnd e1 e2, h2⟩
    · exact .inr ⟨q, p_bnd e1 rfl, h1⟩
/-- a while by what grows less -/
theorem p_whileI {δ τ : Type} (I : Nat → τ → Prop) (Z : τ → Prop) {step : τ → P (Wh δ τ)} (hs : ∀ n t, I n t → (∃ t' k, step t = .ok (.go t') ∧ k < n ∧ I k t') ∨ ∃ t', step t = .ok (.out t') ∧ Z t') :
    ∀ (fuel n : Nat) (t : τ), n < fuel → I n t → ∃ t', (whileL fuel t step : P (Lp δ τ)) = .ok (.nx t') ∧ Z t'
  | 0, n, t, h, _ => by omega
  | fuel + 1, n, t, h, hi => by
    rcases hs n t hi with ⟨t', k, e, hk, hi'⟩ | ⟨t', e, hz⟩
    · obtain ⟨t2, e2, h2⟩ := p_whileI I Z hs fuel k t' (by omega) hi'
      exact ⟨t2, p_bnd e e2, h2⟩
    · exact ⟨t', p_bnd e rfl, hz⟩
theorem p_whileX {δ τ β ι : Type} {F : ι → β} {Pp : ι → Prop} {step : τ → P (Wh δ τ)} {k : τ → P β} {kr : δ → P β} {t : τ} {fuel : Nat} (I : Nat → τ → Prop) (Z : τ → Prop) (n : Nat) (hn : n < fuel) (h0 : I n t)
    (hs : ∀ n t, I n t → (∃ t' k, step t = .ok (.go t') ∧ k < n ∧ I k t') ∨ ∃ t', step t = .ok (.out t') ∧ Z t') (hk : ∀ t', Z t' → ∃ i, k t' = .ok (F i) ∧ Pp i) : ∃ i, bnd (whileL fuel t step : P (Lp δ τ)) (lpK k kr) = .ok (F i) ∧ Pp i := by
  obtain ⟨t', e, hz⟩ := p_whileI I Z hs fuel n t hn h0
  obtain ⟨i, e2, hp⟩ := hk t' hz
  exact ⟨i, p_bnd e e2, hp⟩
theorem p_forX {τ β ι : Type} {F : ι → β} {Pp : ι → Prop} {f : D → τ → P τ} {k : τ → P β} {ds : List D} {t : τ} (I : Nat → τ → Prop) (h0 : I 0 t) (hs : ∀ i d t, ds[i]? = some d → I i t → ∃ t', f d t = .ok t' ∧ I (i + 1) t') (hk : ∀ t', I ds.length t' → ∃ i, k t' = .ok (F i) ∧ Pp i) :
    ∃ i, bnd (forP ds t f : P τ) k = .ok (F i) ∧ Pp i := by
  obtain ⟨t', e, h⟩ := p_forI I (n := 0) (ds := ds) (t := t) (f := f) (fun i d t e hi => by rw [Nat.zero_add] at hi ⊢; exact hs i d t e hi) h0
  rw [Nat.zero_add] at h
  obtain ⟨i, e2, hp⟩ := hk t' h
  exact ⟨i, p_bnd e e2, hp⟩
theorem p_forX0 {τ ι : Type} {F : ι → τ} {Pp : ι → Prop} {f : D → τ → P τ} {ds : List D} {t : τ} (I : Nat → τ → Prop) (h0 : I 0 t) (hs : ∀ i d t, ds[i]? = some d → I i t → ∃ t', f d t = .ok t' ∧ I (i + 1) t') (hk : ∀ t', I ds.length t' → ∃ i, t' = F i ∧ Pp i) :
    ∃ i, (forP ds t f : P τ) = .ok (F i) ∧ Pp i := by
  obtain ⟨t', e, h⟩ := p_forI I (n := 0) (ds := ds) (t := t) (f := f) (fun i d t e hi => by rw [Nat.zero_add] at hi ⊢; exact hs i d t e hi) h0
  rw [Nat.zero_add] at h
  obtain ⟨i, e2, hp⟩ := hk t' h
  exact ⟨i, by rw [e, e2], hp⟩
theorem p_forLX {δ τ β ι : Type} {F : ι → β} {Pp : ι → Prop} {f : D → τ → P (Lp δ τ)} {k : τ → P β} {kr : δ → P β} {ds : List D} {t : τ} (I : Nat → τ → Prop) (Rr : δ → Prop) (h0 : I 0 t) (hs : ∀ i d t, ds[i]? = some d → I i t → (∃ t', f d t = .ok (.nx t') ∧ I (i + 1) t') ∨ ∃ q, f d t = .ok (.rt q) ∧ Rr q)
    (hk : ∀ t', I ds.length t' → ∃ i, k t' = .ok (F i) ∧ Pp i) (hr : ∀ q, Rr q → ∃ i, kr q = .ok (F i) ∧ Pp i) : ∃ i, bnd (forL ds t f : P (Lp δ τ)) (lpK k kr) = .ok (F i) ∧ Pp i := by
  rcases p_forLI I Rr (n := 0) (ds := ds) (t := t) (f := f) (fun i d t e hi => by rw [Nat.zero_add] at hi ⊢; exact hs i d t e hi) h0 with ⟨t', e, h⟩ | ⟨q, e, h⟩
  · rw [Nat.zero_add] at h
    obtain ⟨i, e2, hp⟩ := hk t' h
    exact ⟨i, p_bnd e e2, hp⟩
  · obtain ⟨i, e2, hp⟩ := hr q h
    exact ⟨i, p_bnd e e2, hp⟩
/-- what each item is written from -/
theorem all_enc {α : Type} {g : α → D} {Pp : α → Prop} : ∀ {ds : List D}, (∀ d ∈ ds, ∃ a, d = g a ∧ Pp a) → ∃ l : List α, ds = l.map g ∧ ∀ a ∈ l, Pp a
  | [], _ => ⟨[], rfl, fun a h => by simp at h⟩
  | d :: ds, h => by
    obtain ⟨a, rfl, pa⟩ := h d List.mem_cons_self
    obtain ⟨l, rfl, hl⟩ := all_enc (ds := ds) fun e he => h e (List.mem_cons_of_mem _ he)
    exact ⟨a :: l, rfl, fun b hb => by
      rcases List.mem_cons.mp hb with rfl | hb
      · exact pa
      · exact hl b hb⟩
theorem sortD_perm (ds : List D) : (sortD ds).Perm ds := by
  unfold sortD
  split
  · exact List.Perm.refl _
  · exact List.mergeSort_perm _ _
theorem sort_map {α : Type} {g : α → D} {l : List α} : ∃ l' : List α, sortD (l.map g) = l'.map g ∧ (l'.map g).Perm (l.map g) ∧ ∀ a ∈ l', ∃ a' ∈ l, g a' = g a := by
  obtain ⟨l', e, h⟩ := all_enc (g := g) (Pp := fun a => ∃ a' ∈ l, g a' = g a) (ds := sortD (l.map g)) fun d hd => by
    obtain ⟨a, ha, rfl⟩ := List.mem_map.mp ((sortD_perm _).mem_iff.mp hd)
    exact ⟨a, rfl, a, ha, rfl⟩
  exact ⟨l', e, by rw [← e]; exact sortD_perm _, h⟩
/-- a state put in -/
theorem cut_with (l : List D) (h : Nat) (x : D) (hh : h < l.length) : Cl.cutD l none (some ((h : Nat) : Int)) ++ [x] ++ Cl.cutD l (some (((h : Nat) : Int) + 1)) none = l.set h x := by
  have e1 : Cl.cutD l none (some ((h : Nat) : Int)) = l.take h := by
    unfold Cl.cutD
    rw [HT.sIx_none, HT.sIx_nat, List.drop_zero, Nat.sub_zero, Nat.min_eq_left (Nat.le_of_lt hh)]
  have e2 : Cl.cutD l (some (((h : Nat) : Int) + 1)) none = l.drop (h + 1) := by
    unfold Cl.cutD
    rw [HT.sIx_none, show (((h : Nat) : Int) + 1) = ((h + 1 : Nat) : Int) by omega, HT.sIx_nat, Nat.min_eq_left (by omega)]
    rw [List.take_of_length_le (by rw [List.length_drop]; omega)]
  rw [e1, e2, List.set_eq_take_append_cons_drop, if_pos hh, List.append_assoc]
  rfl
end
end Cl

set_option Elab.async false
set_option linter.all false
set_option autoImplicit false
set_option maxRecDepth 100000
set_option maxHeartbeats 400000
/-! the clean layer, part ZD: what a hand's moves do, typed -/
namespace Cl
/-- a hand that is done with its deed -/
def Sta.fin (x : Sta) : Sta := ⟨x.left.tail, .free, .no⟩
def Sta.as (x : Sta) (p : Ph) (m : Mk) : Sta := ⟨x.left, p, m⟩
def Sta.want (x : Sta) : Nat := match x.left with
  | [] => 0
  | d :: _ => d.n
/-- the state of one that has its tokens -/
def gotSt (b : Bk) (t : Int) (r : List Nat) (x : Sta) : Sta := if b.pas ≠ .never ∧ 0 < t ∧ r ≠ [] then x.as .passing .no else x.fin
def offR (r : List Nat) (h : Nat) : List Nat := r.filter fun o => decide (o ≠ h)
def backR (b : Bk) (r : List Nat) (h : Nat) : List Nat := if b.fails = true then r ++ [h] else h :: r
def notedP (b : Bk) : Ph := if b.note = true then .noted else .asleep
def putBack (b : Bk) (t : Int) (r : List Nat) (l : List Sta) (h : Nat) (x : Sta) : Sd := ⟨t, backR b r h, l.set h (x.as (notedP b) .no)⟩
/-- may the one that is noted take? -/
def mayTake (b : Bk) (r : List Nat) (h : Nat) : Bool := b.comers || !decide (h ∈ r) || decide (r.head? = some h)
def onFree (b : Bk) (s : Sd) (h : Nat) (x : Sta) (d : Deed) : Sd :=
  if d.w = .put then ⟨s.tok + (if b.put = true then ((d.n : Nat) : Int) else 0), s.row, s.sts.set h (x.as .calling .no)⟩
  else if (d.n : Int) ≤ s.tok ∧ (b.comers = true ∨ s.row = []) then ⟨s.tok - d.n, s.row, s.sts.set h x.fin⟩
  else ⟨s.tok, s.row, s.sts.set h (x.as .late .no)⟩
def onNoted (b : Bk) (s : Sd) (h : Nat) (x : Sta) (d : Deed) : Sd :=
  if x.mrk = .given then ⟨s.tok, s.row, s.sts.set h (gotSt b s.tok s.row x)⟩
  else if (d.n : Int) ≤ s.tok ∧ mayTake b s.row h = true then
    ⟨s.tok - d.n, offR s.row h, s.sts.set h (if x.mrk = .called then gotSt b (s.tok - d.n) (offR s.row h) x else x.fin)⟩
  else ⟨s.tok, s.row, s.sts.set h (x.as .lying x.mrk)⟩
def onWoken (b : Bk) (s : Sd) (h : Nat) (x : Sta) (d : Deed) : Sd :=
  if x.mrk = .given then ⟨s.tok, s.row, s.sts.set h (gotSt b s.tok s.row x)⟩
  else if b.woken = .takes ∨ (d.n : Int) ≤ s.tok then ⟨s.tok - d.n, s.row, s.sts.set h (gotSt b (s.tok - d.n) s.row x)⟩
  else if b.pas = .always ∧ 0 < s.tok ∧ s.row ≠ [] then ⟨s.tok, s.row, s.sts.set h (x.as .yielding .no)⟩
  else putBack b s.tok s.row s.sts h x
/-- a hand goes on -/
def goOn (b : Bk) (s : Sd) (h : Nat) (x : Sta) (d : Deed) : Sd := match x.ph with
  | .free => onFree b s h x d
  | .late => ⟨s.tok, s.row ++ [h], s.sts.set h (x.as (notedP b) .no)⟩
  | .noted => onNoted b s h x d
  | .lying => ⟨s.tok, s.row, s.sts.set h (x.as (if x.mrk ≠ .no ∧ b.call = true then .woken else .asleep) x.mrk)⟩
  | .woken => onWoken b s h x d
  | .storing => ⟨s.tok + d.n, s.row, s.sts.set h x.fin⟩
  | _ => s
/-- a hand goes away -/
def goAway (b : Bk) (s : Sd) (h : Nat) (x : Sta) (d : Deed) : Sd :=
  ⟨s.tok + (if x.mrk = .given then ((d.n : Nat) : Int) else 0), offR s.row h, s.sts.set h (if x.mrk ≠ .no ∧ b.quits = true ∧ offR s.row h ≠ [] then x.as .passing .no else x.fin)⟩
/-- one is called -/
def callOne (b : Bk) (s : Sd) (o : Nat) : Sd := match s.sts[o]? with
  | none => s
  | some y => ⟨s.tok - (if b.woken = .given then ((y.want : Nat) : Int) else 0), offR s.row o, s.sts.set o (y.as (if y.ph = .asleep then .woken else y.ph) (if b.woken = .given then .given else .called))⟩
def callAll (b : Bk) (s : Sd) (lot : List Nat) : Sd := lot.foldl (callOne b) s
/-- behind a round of calls -/
def goCall (b : Bk) (s : Sd) (h : Nat) (x : Sta) (lot : List Nat) : Sd :=
  let t := callAll b s lot
  if x.ph = .yielding then putBack b t.tok t.row t.sts h x
  else if x.ph = .calling ∧ b.put = false then ⟨t.tok, t.row, t.sts.set h (x.as .storing .no)⟩
  else ⟨t.tok, t.row, t.sts.set h x.fin⟩
inductive Mv where
  | on | away | call (lot : List Nat)
deriving DecidableEq
def eMv (m : Nat × Mv) : D := match m.2 with
  | .on => .tuple [eH m.1, .str "on"]
  | .away => .tuple [eH m.1, .str "away"]
  | .call lot => .tuple (eH m.1 :: .str "call" :: lot.map eH)
def caller (p : Ph) : Bool := p = .calling ∨ p = .passing ∨ p = .yielding
def leaver (p : Ph) : Bool := p = .noted ∨ p = .lying ∨ p = .asleep ∨ p = .woken
/-- what a hand wantsOf -/
def wantOf (s : Sd) (h : Nat) : Nat := match s.sts[h]? with
  | some x => x.want
  | none => 0
def wantsOf (s : Sd) (lot : List Nat) : Nat := (lot.map (wantOf s)).sum
/-- how many a hand calls at most -/
def mostOf (b : Bk) (s : Sd) (x : Sta) : Nat := if x.ph = .calling then (match b.many with
  | .one => 1
  | .each => x.want
  | .all => s.row.length) else 1
/-- a round of calls -/
structure Round (b : Bk) (s : Sd) (x : Sta) (lot : List Nat) : Prop where
  nd : lot.Nodup
  sub : ∀ o ∈ lot, o ∈ s.row
  most : lot.length ≤ mostOf b s x
  giv : b.woken = .given → lot = [] ∨ (wantsOf s lot : Int) ≤ s.tok
  full : b.woken ≠ .given → lot.length = min (mostOf b s x) s.row.length
  fst : b.order = true → ∃ k, lot = s.row.take k
  anyG : b.woken = .given → b.order = false → lot.length = mostOf b s x ∨ ∀ o ∈ s.row, o ∉ lot → s.tok - wantsOf s lot < wantOf s o
  fstG : b.woken = .given → b.order = true → lot.length = mostOf b s x ∨ ∀ o, s.row[lot.length]? = some o → s.tok - wantsOf s lot < wantOf s o
/-- a move that can be made -/
def Legal (b : Bk) (s : Sd) (m : Nat × Mv) : Prop := ∃ x, s.sts[m.1]? = some x ∧ (match m.2 with
  | .on => caller x.ph = false ∧ x.left ≠ [] ∧ x.ph ≠ .asleep
  | .away => caller x.ph = false ∧ leaver x.ph = true ∧ ∃ d r, x.left = d :: r ∧ d.w = .wish
  | .call lot => caller x.ph = true ∧ Round b s x lot)
/-- what a move does -/
def doMv (b : Bk) (s : Sd) (m : Nat × Mv) : Sd := match s.sts[m.1]? with
  | none => s
  | some x => match m.2 with
    | .call lot => goCall b s m.1 x lot
    | .on => (match x.left with
      | [] => s
      | d :: _ => goOn b s m.1 x d)
    | .away => (match x.left with
      | [] => s
      | d :: _ => goAway b s m.1 x d)
/-- a standing that is well made -/
structure StOk (x : Sta) : Prop where
  dd : ∀ d ∈ x.left, 1 ≤ d.n ∧ d.n ≤ 4
  l8 : x.left.length ≤ 8
  ne : x.ph ≠ .free → x.left ≠ []
  mq : x.mrk ≠ .no → leaver x.ph = true ∧ x.ph ≠ .free
  wk : x.ph = .woken → x.mrk ≠ .no
  pt : x.ph = .calling ∨ x.ph = .storing → ∃ d r, x.left = d :: r ∧ d.w = .put
  tk : x.ph ≠ .free → x.ph ≠ .calling → x.ph ≠ .storing → ∃ d r, x.left = d :: r ∧ d.w ≠ .put
structure WF (s : Sd) : Prop where
  n5 : s.sts.length ≤ 5
  nd : s.row.Nodup
  row : ∀ h : Nat, h ∈ s.row ↔ ∃ x, s.sts[h]? = some x ∧ (x.ph = .noted ∨ x.ph = .lying ∨ x.ph = .asleep) ∧ x.mrk = .no
  st : ∀ (h : Nat) (x : Sta), s.sts[h]? = some x → StOk x
theorem WF.r5 {s : Sd} (w : WF s) : s.row.length ≤ 5 := by
  have h : ∀ o ∈ s.row, o ∈ List.range s.sts.length := fun o ho => by
    obtain ⟨x, e, _⟩ := (w.row o).mp ho
    rw [List.mem_range]
    exact (List.getElem?_eq_some_iff.mp e).1
  have := List.Nodup.length_le_of_subset w.nd (fun o ho => h o ho)
  rw [List.length_range] at this
  have := w.n5
  omega
end Cl

set_option Elab.async false
set_option linter.all false
set_option autoImplicit false
set_option maxRecDepth 100000
set_option maxHeartbeats 400000
/-! the clean layer, part ZE: rows of rows as data, sorted ones; choices -/
namespace Cl
open PySem PySem.Spec PyProof.Rows L2
open MO
/-- what can be compared -/
structure Ly (k : Nat) (d : D) : Prop where
  ly : d.canLay0 = true
  dp : d.depth ≤ k
theorem Ly.mono {k k2 : Nat} {d : D} (h : Ly k d) (h2 : k ≤ k2) : Ly k2 d := ⟨h.ly, Nat.le_trans h.dp h2⟩
theorem Ly.all {k : Nat} : ∀ {ds : List D}, (∀ d ∈ ds, Ly k d) → PyData.canLayAll0 ds = true ∧ PyData.depthAll ds ≤ k
  | [], _ => ⟨rfl, Nat.zero_le _⟩
  | d :: ds, h => by
    obtain ⟨a, b⟩ := Ly.all fun x hx => h x (List.mem_cons_of_mem _ hx)
    have h1 := h d List.mem_cons_self
    refine ⟨by rw [PyData.canLayAll0, h1.ly, a]; rfl, ?_⟩
    rw [PyData.depthAll]; have := h1.dp; omega
theorem Ly.tup {k : Nat} {ds : List D} (h : ∀ d ∈ ds, Ly k d) : Ly (k + 1) (.tuple ds) := by
  obtain ⟨a, b⟩ := Ly.all h
  exact ⟨by rw [PyData.canLay0]; exact a, by rw [PyData.depth]; omega⟩
theorem Ly.lst {k : Nat} {ds : List D} (h : ∀ d ∈ ds, Ly k d) : Ly (k + 1) (.list ds) := by
  obtain ⟨a, b⟩ := Ly.all h
  exact ⟨by rw [PyData.canLay0]; exact a, by rw [PyData.depth]; omega⟩
theorem Ly.int {i : Int} : Ly 0 (.int i) := ⟨rfl, Nat.le_refl _⟩
theorem Ly.str {x : Str} (h : PyData.strOk x = true) : Ly 0 (.str x) := ⟨by rw [PyData.canLay0]; exact h, Nat.le_refl _⟩
theorem Ly.shaped {k : Nat} {d : D} (h : Ly k d) (h1 : k ≤ 64) : SeqAt.shaped d = true := by
  unfold SeqAt.shaped
  have a := h.dp
  rw [h.ly, decide_eq_true (show d.depth ≤ 64 by omega)]
  rfl
theorem ly_row (r : List Nat) : Ly 1 (eRow r) := Ly.tup fun d hd => by
  obtain ⟨a, _, rfl⟩ := List.mem_map.mp hd
  exact Ly.int
theorem nil_eqL {k : Nat} {ds : List D} (h : ∀ d ∈ ds, Ly k d) (hk : k ≤ 60) : eqF (.list ds) (.list []) = some (decide (ds = [])) := by
  show (if SeqAt.shaped (.list ds) = true ∧ SeqAt.shaped (.list []) = true then some (PyData.eqv (.list ds) (.list [])) else none) = _
  rw [if_pos ⟨(Ly.lst h).shaped (by omega), by decide⟩]
  cases ds with
  | nil => rfl
  | cons a r => rfl
theorem nil_eqT {k : Nat} {ds : List D} (h : ∀ d ∈ ds, Ly k d) (hk : k ≤ 60) : eqF (.tuple ds) (.tuple []) = some (decide (ds = [])) := by
  show (if SeqAt.shaped (.tuple ds) = true ∧ SeqAt.shaped (.tuple []) = true then some (PyData.eqv (.tuple ds) (.tuple [])) else none) = _
  rw [if_pos ⟨(Ly.tup h).shaped (by omega), by decide⟩]
  cases ds with
  | nil => rfl
  | cons a r => rfl
/-! ### sorted rows -/
def decH : D → Nat
  | .int i => i.toNat
  | _ => 0
def decR : D → List Nat
  | .tuple ds => ds.map decH
  | _ => []
theorem decH_e (h : Nat) : decH (eH h) = h := by unfold eH decH; simp
theorem decH_map (r : List Nat) : (r.map eH).map decH = r := by
  rw [List.map_map]
  have : decH ∘ eH = id := funext decH_e
  rw [this, List.map_id]
theorem decR_e (r : List Nat) : decR (eRow r) = r := decH_map r
theorem decR_map (r : List (List Nat)) : (r.map eRow).map decR = r := by
  rw [List.map_map]
  have : decR ∘ eRow = id := funext decR_e
  rw [this, List.map_id]
theorem row_ints (r : List Nat) : r.map eH = (r.map fun h => ((h : Nat) : Int)).map PyData.int := by rw [List.map_map]; rfl
theorem sortF_row (r : List Nat) : ∃ r' : List Nat, sortF [eRow r] = some (r'.map eH) ∧ r'.Perm r := by
  obtain ⟨r', e, hp, _⟩ := sort_map (g := eH) (l := r)
  have hok : sortOk (r.map eH) = true := by
    unfold sortOk
    rw [(Ly.all (k := 0) (fun d hd => by
      obtain ⟨a, _, rfl⟩ := List.mem_map.mp hd
      exact Ly.int)).1, Bool.true_and, Bool.or_eq_true]
    right
    rw [Bool.and_eq_true, Bool.and_eq_true, Bool.or_eq_true]
    refine ⟨⟨?_, .inr ?_⟩, ?_⟩
    · rw [List.all_eq_true]
      intro d hd
      rw [List.all_eq_true]
      intro d' hd'
      obtain ⟨a, _, rfl⟩ := List.mem_map.mp hd
      obtain ⟨a', _, rfl⟩ := List.mem_map.mp hd'
      show PySem.W.alike (.int _) (.int _) = true
      rw [PySem.W.alike]
    · rw [List.all_eq_true]
      intro d hd
      obtain ⟨a, _, rfl⟩ := List.mem_map.mp hd
      rfl
    · rw [List.all_eq_true]
      intro d hd
      obtain ⟨a, _, rfl⟩ := List.mem_map.mp hd
      rfl
  refine ⟨r', ?_, ?_⟩
  · show (if sortOk (r.map eH) = true then some (sortD (r.map eH)) else none) = _
    rw [if_pos hok, e]
  · have := hp.map decH
    rw [decH_map, decH_map] at this
    exact this
theorem sortF_rows {ls : List (List Nat)} (h : ls.length < 2 ∨ ∀ r ∈ ls, r ≠ []) : ∃ ls' : List (List Nat), sortF [.list (ls.map eRow)] = some (ls'.map eRow) ∧ ls'.Perm ls := by
  obtain ⟨r', e, hp, _⟩ := sort_map (g := eRow) (l := ls)
  have hok : sortOk (ls.map eRow) = true := by
    unfold sortOk
    rw [(Ly.all (k := 1) (fun d hd => by
      obtain ⟨a, _, rfl⟩ := List.mem_map.mp hd
      exact ly_row a)).1, Bool.true_and, Bool.or_eq_true]
    rcases h with h | h
    · left
      rw [List.length_map]
      exact decide_eq_true h
    · right
      rw [Bool.and_eq_true, Bool.and_eq_true, Bool.or_eq_true]
      refine ⟨⟨?_, .inl ?_⟩, ?_⟩
      · rw [List.all_eq_true]
        intro d hd
        rw [List.all_eq_true]
        intro d' hd'
        obtain ⟨a, _, rfl⟩ := List.mem_map.mp hd
        obtain ⟨a', _, rfl⟩ := List.mem_map.mp hd'
        show PySem.W.alike (.tuple (a.map eH)) (.tuple (a'.map eH)) = true
        rw [PySem.W.alike, row_ints, row_ints]
        exact PySem.W.alike_ints _ _
      · rw [List.all_eq_true]
        intro d hd
        obtain ⟨a, ha, rfl⟩ := List.mem_map.mp hd
        have := h a ha
        cases a with
        | nil => exact absurd rfl this
        | cons x r => rfl
      · rw [List.all_eq_true]
        intro d hd
        obtain ⟨a, _, rfl⟩ := List.mem_map.mp hd
        exact decide_eq_true (Nat.le_trans (ly_row a).dp (by omega))
  refine ⟨r', ?_, ?_⟩
  · show (if sortOk (ls.map eRow) = true then some (sortD (ls.map eRow)) else none) = _
    rw [if_pos hok, e]
  · have := hp.map decR
    rw [decR_map, decR_map] at this
    exact this
/-! ### all choices -/
def lotsFrom (acc : List (List Nat)) (l : List Nat) : List (List Nat) := l.foldl (fun a o => a ++ a.map fun x => x ++ [o]) acc
theorem mem_lots : ∀ {l : List Nat} {acc : List (List Nat)} {x : List Nat}, x ∈ lotsFrom acc l ↔ ∃ a ∈ acc, ∃ y, y.Sublist l ∧ x = a ++ y
  | [], acc, x => by
    show x ∈ acc ↔ _
    constructor
    · intro h
      exact ⟨x, h, [], List.Sublist.refl _, by rw [List.append_nil]⟩
    · rintro ⟨a, ha, y, hy, rfl⟩
      rw [List.sublist_nil.mp hy, List.append_nil]
      exact ha
  | o :: l, acc, x => by
    show x ∈ lotsFrom (acc ++ acc.map fun x => x ++ [o]) l ↔ _
    rw [mem_lots]
    constructor
    · rintro ⟨a, ha, y, hy, rfl⟩
      rcases List.mem_append.mp ha with ha | ha
      · exact ⟨a, ha, y, hy.cons o, rfl⟩
      · obtain ⟨b, hb, rfl⟩ := List.mem_map.mp ha
        exact ⟨b, hb, o :: y, hy.cons_cons o, by rw [List.append_assoc]; rfl⟩
    · rintro ⟨a, ha, y, hy, rfl⟩
      rcases List.sublist_cons_iff.mp hy with hy2 | ⟨r, rfl, hy2⟩
      · exact ⟨a, List.mem_append_left _ ha, y, hy2, rfl⟩
      · exact ⟨a ++ [o], List.mem_append_right _ (List.mem_map.mpr ⟨a, ha, rfl⟩), r, hy2, by rw [List.append_assoc]; rfl⟩
theorem lots_len : ∀ {l : List Nat} {acc : List (List Nat)}, (lotsFrom acc l).length = acc.length * 2 ^ l.length
  | [], acc => by show acc.length = _; rw [List.length_nil, Nat.pow_zero, Nat.mul_one]
  | o :: l, acc => by
    show (lotsFrom (acc ++ acc.map fun x => x ++ [o]) l).length = _
    rw [lots_len, List.length_append, List.length_map, List.length_cons, Nat.pow_succ, ← Nat.two_mul, Nat.mul_comm 2 acc.length, Nat.mul_assoc, Nat.mul_comm 2]
/-! ### all givings -/
/-- as far as tokens let -/
structure GPath (s : Sd) (m : Nat) (r : List Nat) : Prop where
  nd : r.Nodup
  sub : ∀ o ∈ r, o ∈ s.row
  le : r.length ≤ m
  ok : r = [] ∨ (wantsOf s r : Int) ≤ s.tok
structure GRound (s : Sd) (m : Nat) (r : List Nat) : Prop extends GPath s m r where
  fin : r.length = m ∨ ∀ o ∈ s.row, o ∉ r → s.tok - wantsOf s r < wantOf s o
theorem wantsOf_app (s : Sd) (a b : List Nat) : wantsOf s (a ++ b) = wantsOf s a + wantsOf s b := by unfold wantsOf; rw [List.map_append, List.sum_append]
theorem wantsOf_one (s : Sd) (h : Nat) : wantsOf s [h] = wantOf s h := by unfold wantsOf; simp
def tree : Nat → Nat
  | 0 => 1
  | k + 1 => 1 + (k + 1) * tree k
theorem tree_pos (k : Nat) : 1 ≤ tree k := by cases k <;> simp [tree]
theorem tree5 : ∀ {k : Nat}, k ≤ 5 → tree k ≤ 326
  | 0, _ => by decide
  | 1, _ => by decide
  | 2, _ => by decide
  | 3, _ => by decide
  | 4, _ => by decide
  | 5, _ => by decide
  | _ + 6, h => by omega
def stackM (n : Nat) (rows : List (List Nat × Int)) : Nat := (rows.map fun p => tree (n - p.1.length)).sum
theorem stack_len (n : Nat) : ∀ rows : List (List Nat × Int), rows.length ≤ stackM n rows
  | [] => Nat.zero_le _
  | p :: rows => by
    have h := stack_len n rows
    have t := tree_pos (n - p.1.length)
    unfold stackM at h ⊢
    rw [List.map_cons, List.sum_cons, List.length_cons]
    omega
theorem stackM_app (n : Nat) (a b : List (List Nat × Int)) : stackM n (a ++ b) = stackM n a + stackM n b := by unfold stackM; rw [List.map_append, List.sum_append]
/-- the hands that may come next -/
def moreOf (s : Sd) (p : List Nat × Int) : List Nat := s.row.filter fun h => decide (h ∉ p.1 ∧ (wantOf s h : Int) ≤ p.2)
theorem moreOf_len {s : Sd} {p : List Nat × Int} (hn : s.row.Nodup) (h1 : p.1.Nodup) (h2 : ∀ o ∈ p.1, o ∈ s.row) : p.1.length + (moreOf s p).length ≤ s.row.length := by
  have hm : (moreOf s p).Nodup := hn.filter _
  have hd : (p.1 ++ moreOf s p).Nodup := List.nodup_append.mpr ⟨h1, hm, fun a ha b hb e => by
    subst e
    exact (of_decide_eq_true (List.mem_filter.mp hb).2).1 ha⟩
  have := hd.length_le_of_subset (l₂ := s.row) fun o ho => by
    rcases List.mem_append.mp ho with ho | ho
    · exact h2 o ho
    · exact (List.mem_filter.mp ho).1
  rw [List.length_append] at this
  exact this
theorem stack_push {s : Sd} {n : Nat} {p : List Nat × Int} (hn : s.row.Nodup) (h1 : p.1.Nodup) (h2 : ∀ o ∈ p.1, o ∈ s.row) (e : s.row.length = n) : stackM n ((moreOf s p).map fun h => (p.1 ++ [h], p.2 - wantOf s h)) < tree (n - p.1.length) := by
  have hl := moreOf_len hn h1 h2
  rw [e] at hl
  have key : ∀ l : List Nat, stackM n (l.map fun h => (p.1 ++ [h], p.2 - (wantOf s h : Int))) = l.length * tree (n - (p.1.length + 1)) := fun l => by
    induction l with
    | nil => unfold stackM; simp
    | cons a l ih =>
      unfold stackM at ih ⊢
      rw [List.map_cons, List.map_cons, List.sum_cons, ih, List.length_append, List.length_singleton, List.length_cons, Nat.succ_mul, Nat.add_comm]
  rw [key]
  by_cases z : n - p.1.length = 0
  · have : (moreOf s p).length = 0 := by omega
    rw [this, Nat.zero_mul]
    exact tree_pos _
  · obtain ⟨k, hk⟩ : ∃ k, n - p.1.length = k + 1 := ⟨n - p.1.length - 1, by omega⟩
    rw [hk, show n - (p.1.length + 1) = k by omega, show tree (k + 1) = 1 + (k + 1) * tree k from rfl]
    have : (moreOf s p).length ≤ k + 1 := by omega
    have := Nat.mul_le_mul_right (tree k) this
    omega
end Cl

set_option Elab.async false
set_option linter.all false
set_option autoImplicit false
set_option maxRecDepth 100000
set_option maxHeartbeats 400000
/-! the clean layer, part ZF: well-made standings stay well made; how they are shown -/
namespace Cl
open PySem PySem.Spec PyProof.Rows L2
open MO
def inRow (x : Sta) : Prop := (x.ph = .noted ∨ x.ph = .lying ∨ x.ph = .asleep) ∧ x.mrk = .no
theorem set_get {α : Type} {l : List α} {h k : Nat} {x y : α} (hh : l[h]? = some x) : (l.set h y)[k]? = if k = h then some y else l[k]? := by
  by_cases z : k = h
  · subst z
    rw [if_pos rfl, List.getElem?_set_self (List.getElem?_eq_some_iff.mp hh).1]
  · rw [if_neg z, List.getElem?_set_ne (Ne.symm z)]
theorem WF.upd {s : Sd} (w : WF s) {h : Nat} {x : Sta} (hh : s.sts[h]? = some x) {x' : Sta} {r' : List Nat} {t' : Int} (so : StOk x') (nd : r'.Nodup) (h1 : ∀ k, k ≠ h → (k ∈ r' ↔ k ∈ s.row)) (h2 : h ∈ r' ↔ inRow x') : WF ⟨t', r', s.sts.set h x'⟩ where
  n5 := by rw [List.length_set]; exact w.n5
  nd := nd
  row := fun k => by
    show k ∈ r' ↔ ∃ y, (s.sts.set h x')[k]? = some y ∧ _
    rw [set_get hh]
    by_cases z : k = h
    · subst z
      rw [if_pos rfl, h2]
      constructor
      · intro q
        exact ⟨x', rfl, q.1, q.2⟩
      · rintro ⟨y, e, q1, q2⟩
        cases e
        exact ⟨q1, q2⟩
    · rw [if_neg z, h1 k z]
      exact w.row k
  st := fun k y e => by
    have e' : (s.sts.set h x')[k]? = some y := e
    rw [set_get hh] at e'
    by_cases z : k = h
    · rw [if_pos z] at e'
      cases e'
      exact so
    · rw [if_neg z] at e'
      exact w.st k y e'
/-- the row as it is: the hand is in neither before nor behind -/
theorem WF.upd0 {s : Sd} (w : WF s) {h : Nat} {x : Sta} (hh : s.sts[h]? = some x) {x' : Sta} {t' : Int} (so : StOk x') (i : inRow x' ↔ inRow x) : WF ⟨t', s.row, s.sts.set h x'⟩ :=
  w.upd hh so w.nd (fun k _ => Iff.rfl) (by
    rw [w.row, i]
    constructor
    · rintro ⟨y, e, q1, q2⟩
      rw [hh] at e
      cases e
      exact ⟨q1, q2⟩
    · intro q
      exact ⟨x, hh, q.1, q.2⟩)
theorem WF.mem {s : Sd} (w : WF s) {h : Nat} {x : Sta} (hh : s.sts[h]? = some x) : h ∈ s.row ↔ inRow x := by
  rw [w.row]
  constructor
  · rintro ⟨y, e, q1, q2⟩
    rw [hh] at e
    cases e
    exact ⟨q1, q2⟩
  · intro q
    exact ⟨x, hh, q.1, q.2⟩
theorem mem_off {r : List Nat} {h k : Nat} : k ∈ offR r h ↔ k ∈ r ∧ k ≠ h := by
  unfold offR
  rw [List.mem_filter, decide_eq_true_eq]
/-- taken off the row -/
theorem WF.updOff {s : Sd} (w : WF s) {h : Nat} {x : Sta} (hh : s.sts[h]? = some x) {x' : Sta} {t' : Int} (so : StOk x') (i : ¬ inRow x') : WF ⟨t', offR s.row h, s.sts.set h x'⟩ :=
  w.upd hh so (w.nd.filter _) (fun k hk => by rw [mem_off]; exact ⟨fun q => q.1, fun q => ⟨q, hk⟩⟩) (by
    rw [mem_off]
    exact ⟨fun q => absurd rfl q.2, fun q => absurd q i⟩)
/-- put on the row -/
theorem WF.updOn {s : Sd} (w : WF s) {h : Nat} {x : Sta} (hh : s.sts[h]? = some x) (nx : ¬ inRow x) {x' : Sta} {t' : Int} (so : StOk x') (i : inRow x') : WF ⟨t', s.row ++ [h], s.sts.set h x'⟩ ∧ WF ⟨t', h :: s.row, s.sts.set h x'⟩ := by
  have hn : h ∉ s.row := fun z => nx ((w.mem hh).mp z)
  constructor
  · refine w.upd hh so (List.nodup_append.mpr ⟨w.nd, by simp, fun a ha b hb e => hn (by rw [← List.mem_singleton.mp hb, ← e]; exact ha)⟩) (fun k hk => ?_) ?_
    · rw [List.mem_append, List.mem_singleton]
      exact ⟨fun q => q.elim id fun z => absurd z hk, .inl⟩
    · rw [List.mem_append, List.mem_singleton]
      exact ⟨fun _ => i, fun _ => .inr rfl⟩
  · refine w.upd hh so (List.nodup_cons.mpr ⟨hn, w.nd⟩) (fun k hk => ?_) ?_
    · rw [List.mem_cons]
      exact ⟨fun q => q.elim (fun z => absurd z hk) id, .inr⟩
    · rw [List.mem_cons]
      exact ⟨fun _ => i, fun _ => .inl rfl⟩
theorem StOk.fin {x : Sta} (so : StOk x) : StOk x.fin where
  dd := fun d hd => so.dd d (List.mem_of_mem_tail hd)
  l8 := by
    show x.left.tail.length ≤ 8
    rw [List.length_tail]
    have := so.l8
    omega
  ne := fun z => absurd rfl z
  mq := fun z => absurd rfl z
  wk := fun z => by cases z
  pt := fun z => by rcases z with z | z <;> cases z
  tk := fun z => absurd rfl z
theorem StOk.as' {x : Sta} (so : StOk x) {d : Deed} {r : List Deed} (el : x.left = d :: r) {p : Ph} {m : Mk} (h1 : m ≠ .no → leaver p = true ∧ p ≠ .free) (h2 : p = .woken → m ≠ .no) (h3 : p = .calling ∨ p = .storing → d.w = .put) (h4 : p ≠ .free → p ≠ .calling → p ≠ .storing → d.w ≠ .put) : StOk (x.as p m) where
  dd := so.dd
  l8 := so.l8
  ne := fun _ z => by
    have : x.left = [] := z
    rw [el] at this
    cases this
  mq := h1
  wk := h2
  pt := fun z => ⟨d, r, el, h3 z⟩
  tk := fun a b c => ⟨d, r, el, h4 a b c⟩
/-- one who waits wants something -/
theorem StOk.kind {x : Sta} (so : StOk x) {d : Deed} {r : List Deed} (el : x.left = d :: r) (h1 : x.ph ≠ .free) (h2 : x.ph ≠ .calling) (h3 : x.ph ≠ .storing) : d.w ≠ .put := by
  obtain ⟨d', r', e, h⟩ := so.tk h1 h2 h3
  rw [el] at e
  cases e
  exact h
theorem StOk.put {x : Sta} (so : StOk x) {d : Deed} {r : List Deed} (el : x.left = d :: r) (h1 : x.ph = .calling ∨ x.ph = .storing) : d.w = .put := by
  obtain ⟨d', r', e, h⟩ := so.pt h1
  rw [el] at e
  cases e
  exact h
theorem nri {x : Sta} (h1 : x.ph ≠ .noted) (h2 : x.ph ≠ .lying) (h3 : x.ph ≠ .asleep) : ¬ inRow x := fun z => z.1.elim h1 fun q => q.elim h2 h3
theorem nas {x : Sta} {p : Ph} {m : Mk} (h1 : p ≠ .noted) (h2 : p ≠ .lying) (h3 : p ≠ .asleep) : ¬ inRow (x.as p m) := nri h1 h2 h3
theorem not_fin (x : Sta) : ¬ inRow x.fin := fun z => by rcases z.1 with q | q | q <;> cases q
theorem gotSt_ok {b : Bk} {t : Int} {r : List Nat} {x : Sta} (so : StOk x) {d : Deed} {l : List Deed} (el : x.left = d :: l) (k : d.w ≠ .put) : StOk (gotSt b t r x) ∧ ¬ inRow (gotSt b t r x) := by
  unfold gotSt
  split
  · exact ⟨so.as' el (fun z => absurd rfl z) (fun z => by cases z) (fun z => by rcases z with z | z <;> cases z) (fun _ _ _ => k), nas (by decide) (by decide) (by decide)⟩
  · exact ⟨so.fin, not_fin x⟩
theorem notedP_no (b : Bk) : ¬ (notedP b = .calling ∨ notedP b = .storing) := by unfold notedP; split <;> simp
theorem putBack_wf {b : Bk} {s : Sd} (w : WF s) {h : Nat} {x : Sta} {d : Deed} {r : List Deed} (hh : s.sts[h]? = some x) (nx : ¬ inRow x) (el : x.left = d :: r) (k : d.w ≠ .put) : WF (putBack b s.tok s.row s.sts h x) := by
  have so := w.st h x hh
  have so2 : StOk (x.as (notedP b) .no) := so.as' el (fun z => absurd rfl z) (fun z => (by unfold notedP at z; split at z <;> cases z)) (fun z => absurd z (notedP_no b)) (fun _ _ _ => k)
  have i : inRow (x.as (notedP b) .no) := ⟨by show notedP b = _ ∨ notedP b = _ ∨ notedP b = _; unfold notedP; split <;> simp, rfl⟩
  obtain ⟨a1, a2⟩ := w.updOn (t' := s.tok) hh nx so2 i
  unfold putBack backR
  split
  · exact a1
  · exact a2
theorem goOn_wf {b : Bk} {s : Sd} (w : WF s) {h : Nat} {x : Sta} {d : Deed} {r : List Deed} (hh : s.sts[h]? = some x) (el : x.left = d :: r) : WF (goOn b s h x d) := by
  have so := w.st h x hh
  cases hp : x.ph with
  | free =>
    unfold goOn onFree
    rw [hp]
    have nx : ¬ inRow x := nri (by rw [hp]; decide) (by rw [hp]; decide) (by rw [hp]; decide)
    dsimp only
    split
    · rename_i hw
      exact w.upd0 hh (so.as' el (fun z => absurd rfl z) (fun z => by cases z) (fun _ => hw) (fun _ z => absurd rfl z)) ⟨fun z => absurd z (nas (by decide) (by decide) (by decide)), fun z => absurd z nx⟩
    · rename_i hw
      split
      · exact w.upd0 hh so.fin ⟨fun z => absurd z (not_fin x), fun z => absurd z nx⟩
      · exact w.upd0 hh (so.as' el (fun z => absurd rfl z) (fun z => by cases z) (fun z => by rcases z with z | z <;> cases z) (fun _ _ _ => hw)) ⟨fun z => absurd z (nas (by decide) (by decide) (by decide)), fun z => absurd z nx⟩
  | late =>
    have k := so.kind el (by rw [hp]; decide) (by rw [hp]; decide) (by rw [hp]; decide)
    have nx : ¬ inRow x := nri (by rw [hp]; decide) (by rw [hp]; decide) (by rw [hp]; decide)
    unfold goOn
    rw [hp]
    have so2 : StOk (x.as (notedP b) .no) := so.as' el (fun z => absurd rfl z) (fun z => (by unfold notedP at z; split at z <;> cases z)) (fun z => absurd z (notedP_no b)) (fun _ _ _ => k)
    have i : inRow (x.as (notedP b) .no) := ⟨by show notedP b = _ ∨ notedP b = _ ∨ notedP b = _; unfold notedP; split <;> simp, rfl⟩
    exact (w.updOn (t' := s.tok) hh nx so2 i).1
  | noted =>
    have k := so.kind el (by rw [hp]; decide) (by rw [hp]; decide) (by rw [hp]; decide)
    unfold goOn onNoted
    rw [hp]
    dsimp only
    split
    · rename_i hm
      have g := gotSt_ok (b := b) (t := s.tok) (r := s.row) so el k
      exact w.upd0 hh g.1 ⟨fun z => absurd z g.2, fun z => (by rw [z.2] at hm; cases hm)⟩
    · split
      · refine w.updOff hh ?_ ?_
        · split
          · exact (gotSt_ok so el k).1
          · exact so.fin
        · split
          · exact (gotSt_ok so el k).2
          · exact not_fin x
      · refine w.upd0 hh (so.as' el (fun _ => ⟨rfl, by decide⟩) (fun z => by cases z) (fun z => by rcases z with z | z <;> cases z) (fun _ _ _ => k)) ⟨fun z => ⟨.inl hp, z.2⟩, fun z => ⟨.inr (.inl rfl), z.2⟩⟩
  | lying =>
    have k := so.kind el (by rw [hp]; decide) (by rw [hp]; decide) (by rw [hp]; decide)
    unfold goOn
    rw [hp]
    dsimp only
    split
    · rename_i hm
      refine w.upd0 hh (so.as' el (fun _ => ⟨rfl, by decide⟩) (fun _ => hm.1) (fun z => by rcases z with z | z <;> cases z) (fun _ _ _ => k)) ⟨fun z => absurd z (nas (by decide) (by decide) (by decide)), fun z => absurd z.2 hm.1⟩
    · refine w.upd0 hh (so.as' el (fun _ => ⟨rfl, by decide⟩) (fun z => by cases z) (fun z => by rcases z with z | z <;> cases z) (fun _ _ _ => k)) ⟨fun z => ⟨.inr (.inl hp), z.2⟩, fun z => ⟨.inr (.inr rfl), z.2⟩⟩
  | woken =>
    have k := so.kind el (by rw [hp]; decide) (by rw [hp]; decide) (by rw [hp]; decide)
    have nx : ¬ inRow x := nri (by rw [hp]; decide) (by rw [hp]; decide) (by rw [hp]; decide)
    unfold goOn onWoken
    rw [hp]
    dsimp only
    split
    · have g := gotSt_ok (b := b) (t := s.tok) (r := s.row) so el k
      exact w.upd0 hh g.1 ⟨fun z => absurd z g.2, fun z => absurd z nx⟩
    · split
      · have g := gotSt_ok (b := b) (t := s.tok - d.n) (r := s.row) so el k
        exact w.upd0 hh g.1 ⟨fun z => absurd z g.2, fun z => absurd z nx⟩
      · split
        · exact w.upd0 hh (so.as' el (fun z => absurd rfl z) (fun z => by cases z) (fun z => by rcases z with z | z <;> cases z) (fun _ _ _ => k)) ⟨fun z => absurd z (nas (by decide) (by decide) (by decide)), fun z => absurd z nx⟩
        · exact putBack_wf w hh nx el k
  | storing =>
    have nx : ¬ inRow x := nri (by rw [hp]; decide) (by rw [hp]; decide) (by rw [hp]; decide)
    unfold goOn
    rw [hp]
    exact w.upd0 hh so.fin ⟨fun z => absurd z (not_fin x), fun z => absurd z nx⟩
  | asleep => unfold goOn; rw [hp]; exact w
  | calling => unfold goOn; rw [hp]; exact w
  | passing => unfold goOn; rw [hp]; exact w
  | yielding => unfold goOn; rw [hp]; exact w
theorem goAway_wf {b : Bk} {s : Sd} (w : WF s) {h : Nat} {x : Sta} {d : Deed} {r : List Deed} (hh : s.sts[h]? = some x) (el : x.left = d :: r) (k : d.w ≠ .put) : WF (goAway b s h x d) := by
  have so := w.st h x hh
  unfold goAway
  refine w.updOff hh ?_ ?_
  · split
    · exact so.as' el (fun z => absurd rfl z) (fun z => by cases z) (fun z => by rcases z with z | z <;> cases z) (fun _ _ _ => k)
    · exact so.fin
  · split
    · exact nas (by decide) (by decide) (by decide)
    · exact not_fin x
theorem callOne_wf {b : Bk} {s : Sd} (w : WF s) {o : Nat} (ho : o ∈ s.row) : WF (callOne b s o) := by
  obtain ⟨y, e, hp, hm⟩ := (w.row o).mp ho
  have so := w.st o y e
  have lv : leaver y.ph = true ∧ y.ph ≠ .free ∧ y.ph ≠ .calling ∧ y.ph ≠ .storing := by rcases hp with q | q | q <;> rw [q] <;> decide
  obtain ⟨d, r, el⟩ := List.exists_cons_of_ne_nil (so.ne lv.2.1)
  have k := so.kind el lv.2.1 lv.2.2.1 lv.2.2.2
  unfold callOne
  rw [e]
  have mn : (if b.woken = .given then Mk.given else Mk.called) ≠ .no := by split <;> decide
  refine w.updOff e (so.as' el (fun _ => ?_) (fun _ => mn) (fun z => ?_) (fun _ _ _ => k)) (fun z => mn z.2)
  · split
    · exact ⟨rfl, by decide⟩
    · exact ⟨lv.1, lv.2.1⟩
  · split at z
    · rcases z with z | z <;> cases z
    · rcases z with z | z
      · exact absurd z lv.2.2.1
      · exact absurd z lv.2.2.2
/-- those who are not called stay as they are -/
theorem callOne_ne {b : Bk} {s : Sd} {o k : Nat} (h : k ≠ o) : (callOne b s o).sts[k]? = s.sts[k]? ∧ (k ∈ (callOne b s o).row ↔ k ∈ s.row) := by
  unfold callOne
  split
  · exact ⟨rfl, Iff.rfl⟩
  · refine ⟨List.getElem?_set_ne (Ne.symm h), ?_⟩
    rw [mem_off]
    exact ⟨fun q => q.1, fun q => ⟨q, h⟩⟩
theorem callAll_wf {b : Bk} : ∀ {lot : List Nat} {s : Sd}, WF s → lot.Nodup → (∀ o ∈ lot, o ∈ s.row) → WF (callAll b s lot) ∧ ∀ k, k ∉ lot → (callAll b s lot).sts[k]? = s.sts[k]? ∧ (k ∈ (callAll b s lot).row ↔ k ∈ s.row)
  | [], s, w, _, _ => ⟨w, fun k _ => ⟨rfl, Iff.rfl⟩⟩
  | o :: lot, s, w, nd, h => by
    rw [List.nodup_cons] at nd
    obtain ⟨h1, h2⟩ := callAll_wf (b := b) (callOne_wf (b := b) w (h o List.mem_cons_self)) nd.2 fun k hk => ((callOne_ne (fun z => nd.1 (by rw [← z]; exact hk))).2).mpr (h k (List.mem_cons_of_mem _ hk))
    refine ⟨h1, fun k hk => ?_⟩
    rw [List.mem_cons, not_or] at hk
    obtain ⟨a, c⟩ := h2 k hk.2
    obtain ⟨a', c'⟩ := callOne_ne (b := b) (s := s) hk.1
    exact ⟨a.trans a', c.trans c'⟩
theorem goCall_wf {b : Bk} {s : Sd} (w : WF s) {h : Nat} {x : Sta} {lot : List Nat} (hh : s.sts[h]? = some x) (hc : caller x.ph = true) (nd : lot.Nodup) (hs : ∀ o ∈ lot, o ∈ s.row) : WF (goCall b s h x lot) := by
  have so := w.st h x hh
  have nx : ¬ inRow x := nri (fun q => by rw [q] at hc; cases hc) (fun q => by rw [q] at hc; cases hc) (fun q => by rw [q] at hc; cases hc)
  have hn : h ∉ lot := fun z => nx ((w.mem hh).mp (hs h z))
  obtain ⟨w2, k2⟩ := callAll_wf (b := b) w nd hs
  have hh2 : (callAll b s lot).sts[h]? = some x := by rw [(k2 h hn).1]; exact hh
  have nf : x.ph ≠ .free := fun z => by rw [z] at hc; cases hc
  obtain ⟨d, r, el⟩ := List.exists_cons_of_ne_nil (so.ne nf)
  unfold goCall
  dsimp only
  split
  · rename_i hy
    exact putBack_wf w2 hh2 nx el (so.kind el (by rw [hy]; decide) (by rw [hy]; decide) (by rw [hy]; decide))
  · split
    · rename_i hy
      exact w2.upd0 hh2 (so.as' el (fun z => absurd rfl z) (fun z => by cases z) (fun _ => so.put el (.inl hy.1)) (fun _ _ z => absurd rfl z)) ⟨fun z => absurd z (nas (by decide) (by decide) (by decide)), fun z => absurd z nx⟩
    · exact w2.upd0 hh2 so.fin ⟨fun z => absurd z (not_fin x), fun z => absurd z nx⟩
theorem doMv_wf {b : Bk} {s : Sd} (w : WF s) {m : Nat × Mv} (l : Legal b s m) : WF (doMv b s m) := by
  obtain ⟨x, e, l⟩ := l
  unfold doMv
  rw [e]
  obtain ⟨h, mv⟩ := m
  cases mv with
  | on =>
    obtain ⟨d, r, el⟩ := List.exists_cons_of_ne_nil l.2.1
    dsimp only
    rw [el]
    exact goOn_wf w e el
  | away =>
    obtain ⟨d, r, el, hw⟩ := l.2.2
    dsimp only
    rw [el]
    exact goAway_wf w e el (by rw [hw]; decide)
  | call lot => exact goCall_wf w e l.1 l.2.nd l.2.sub
end Cl

set_option Elab.async false
set_option linter.all false
set_option autoImplicit false
set_option maxRecDepth 100000
set_option maxHeartbeats 400000
/-! the clean layer, part ZG: rows of moves, and what they lead to; how standings are shown -/
namespace Cl
open PySem PySem.Spec PyProof.Rows L2
open MO
/-- a book that lacks nothing -/
structure Right (like leaving : Bool) (b : Bk) : Prop where
  note : b.note = true
  call : b.call = true
  put : b.put = true
  com : b.comers = true
  tk : b.woken ≠ .takes
  all : b.woken = .tries → like = false → b.many = .all ∧ b.pas ≠ .always
  one : b.pas = .never → b.many ≠ .one
  nev : b.pas = .never → b.woken = .given → leaving = true → like = true
  quits : leaving = true → ¬ (b.many = .all ∧ b.woken = .tries) → b.quits = true
  fst : b.woken = .given → like = false → b.order = false
/-- a deed of a sort -/
def DeedOk (like leaving : Bool) (d : Deed) : Prop := 1 ≤ d.n ∧ d.n ≤ 4 ∧ (d.w ≠ .put → like = true → d.n = 1) ∧ (leaving = false → d.w ≠ .wish)
def isUnc (x : Sta) : Bool := (x.ph = .lying ∨ x.ph = .asleep) ∧ x.mrk = .no
def isWay (x : Sta) : Bool := x.ph = .calling ∨ x.ph = .passing ∨ x.ph = .yielding ∨ x.ph = .woken ∨ ((x.ph = .noted ∨ x.ph = .lying) ∧ x.mrk ≠ .no)
def isFed (s : Sd) (x : Sta) : Bool := isUnc x && decide ((x.want : Int) ≤ s.tok)
/-- moves one behind another: ss are the standings along -/
inductive Path (b : Bk) (s0 : Sd) : List (Nat × Mv) → List Sd → Sd → Prop
  | start : Path b s0 [] [s0] s0
  | step {ms : List (Nat × Mv)} {ss : List Sd} {s : Sd} {m : Nat × Mv} : Path b s0 ms ss s → Legal b s m → Path b s0 (ms ++ [m]) (ss ++ [doMv b s m]) (doMv b s m)
theorem Path.inv {b : Bk} {s0 : Sd} (I : Nat → Sd → Prop) (h0 : I 0 s0) (hm : ∀ n s m, I n s → Legal b s m → I (n + 1) (doMv b s m)) (hn : ∀ n s, I n s → I (n + 1) s) : ∀ {ms : List (Nat × Mv)} {ss : List Sd} {s : Sd}, Path b s0 ms ss s → I ms.length s ∧ ∀ t ∈ ss, I ms.length t
  | _, _, _, .start => ⟨h0, fun t ht => by rw [List.mem_singleton.mp ht]; exact h0⟩
  | _, _, _, .step p l => by
    obtain ⟨a, c⟩ := Path.inv I h0 hm hn p
    rw [List.length_append, List.length_singleton]
    have z := hm _ _ _ a l
    refine ⟨z, fun t ht => ?_⟩
    rcases List.mem_append.mp ht with ht | ht
    · exact hn _ _ (c t ht)
    · rw [List.mem_singleton.mp ht]
      exact z
theorem Path.all {b : Bk} {s0 : Sd} (I : Sd → Prop) (h0 : I s0) (hm : ∀ s m, I s → Legal b s m → I (doMv b s m)) {ms : List (Nat × Mv)} {ss : List Sd} {s : Sd} (p : Path b s0 ms ss s) : I s ∧ ∀ t ∈ ss, I t :=
  Path.inv (fun _ => I) h0 (fun _ s m => hm s m) (fun _ _ h => h) p
theorem Path.ne {b : Bk} {s0 : Sd} {ms : List (Nat × Mv)} {ss : List Sd} {s : Sd} : Path b s0 ms ss s → ss ≠ [] ∧ ss.length = ms.length + 1 ∧ ss.getLast? = some s
  | .start => ⟨by simp, rfl, rfl⟩
  | .step p l => by
    obtain ⟨a, c, d⟩ := Path.ne p
    exact ⟨by simp, by rw [List.length_append, List.length_append, c]; rfl, by rw [List.getLast?_append]; rfl⟩
/-! ### tokens -/
theorem want_le {s : Sd} (w : WF s) {h : Nat} {x : Sta} (e : s.sts[h]? = some x) : x.want ≤ 4 := by
  unfold Sta.want
  cases q : x.left with
  | nil => exact Nat.zero_le _
  | cons d r => exact ((w.st h x e).dd d (by rw [q]; exact List.mem_cons_self)).2
theorem callAll_tok {b : Bk} : ∀ {lot : List Nat} {s : Sd}, WF s → lot.Nodup → (∀ o ∈ lot, o ∈ s.row) → (callAll b s lot).tok ≤ s.tok ∧ s.tok - 4 * lot.length ≤ (callAll b s lot).tok
  | [], s, w, _, _ => by show s.tok ≤ s.tok ∧ _; simp; show s.tok ≤ s.tok; omega
  | o :: lot, s, w, nd, h => by
    rw [List.nodup_cons] at nd
    obtain ⟨h1, h2⟩ := callAll_tok (b := b) (callOne_wf (b := b) w (h o List.mem_cons_self)) nd.2 fun k hk => ((callOne_ne (fun z => nd.1 (by rw [← z]; exact hk))).2).mpr (h k (List.mem_cons_of_mem _ hk))
    obtain ⟨y, e, _, _⟩ := (w.row o).mp (h o List.mem_cons_self)
    have hw := want_le w e
    have hc : (callOne b s o).tok = s.tok - (if b.woken = .given then ((y.want : Nat) : Int) else 0) := by unfold callOne; rw [e]
    show (callAll b (callOne b s o) lot).tok ≤ s.tok ∧ s.tok - 4 * (((lot.length + 1 : Nat)) : Int) ≤ (callAll b (callOne b s o) lot).tok
    rw [hc] at h1 h2
    split at h1 <;> split at h2 <;> omega
theorem doMv_tok {b : Bk} {s : Sd} (w : WF s) {m : Nat × Mv} (l : Legal b s m) : s.tok - 20 ≤ (doMv b s m).tok ∧ (doMv b s m).tok ≤ s.tok + 20 := by
  obtain ⟨x, e, l⟩ := l
  unfold doMv
  rw [e]
  obtain ⟨h, mv⟩ := m
  have dl : ∀ d r, x.left = d :: r → (d.n : Int) ≤ 4 := fun d r el => by
    have := ((w.st h x e).dd d (by rw [el]; exact List.mem_cons_self)).2
    omega
  cases mv with
  | on =>
    obtain ⟨d, r, el⟩ := List.exists_cons_of_ne_nil l.2.1
    have := dl d r el
    dsimp only
    rw [el]
    unfold goOn
    dsimp only
    split
    · unfold onFree
      split
      · dsimp only; split <;> omega
      · split <;> dsimp only <;> omega
    · dsimp only; omega
    · unfold onNoted
      split
      · dsimp only; omega
      · split <;> dsimp only <;> omega
    · dsimp only; omega
    · unfold onWoken
      split
      · dsimp only; omega
      · split
        · dsimp only; omega
        · split
          · dsimp only; omega
          · unfold putBack; dsimp only; omega
    · dsimp only; omega
    · omega
  | away =>
    obtain ⟨d, r, el, hw⟩ := l.2.2
    have := dl d r el
    dsimp only
    rw [el]
    unfold goAway
    dsimp only
    split <;> omega
  | call lot =>
    have k := callAll_tok (b := b) w l.2.nd l.2.sub
    have ll : lot.length ≤ 5 := Nat.le_trans (l.2.nd.length_le_of_subset l.2.sub) w.r5
    dsimp only
    unfold goCall
    dsimp only
    split
    · unfold putBack; dsimp only; omega
    · split <;> dsimp only <;> omega
/-- well made, and tokens within bounds -/
def Ok (T : Nat) (s : Sd) : Prop := WF s ∧ s.tok.natAbs ≤ T
theorem Path.ok {b : Bk} {s0 : Sd} {T : Nat} (h : Ok T s0) {ms : List (Nat × Mv)} {ss : List Sd} {s : Sd} (p : Path b s0 ms ss s) : Ok (T + 20 * ms.length) s ∧ ∀ t ∈ ss, Ok (T + 20 * ms.length) t :=
  Path.inv (fun n s => Ok (T + 20 * n) s) (by simpa using h) (fun n s m h l => ⟨doMv_wf h.1 l, by
    have := doMv_tok h.1 l
    have := h.2
    omega⟩) (fun n s h => ⟨h.1, by have := h.2; omega⟩) p
/-! ### how they are shown -/
theorem rep_eH {h : Nat} (hh : h < 1000000) : Rep 0 13 (eH h) := Rep.int (by omega)
theorem rep_row {r : List Nat} (hr : ∀ o ∈ r, o < 1000000) : Rep 1 (r.length * 15 + 3) (eRow r) := by
  have := Rep.tup (k := 0) (n := 13) (ds := r.map eH) fun d hd => by
    obtain ⟨a, ha, rfl⟩ := List.mem_map.mp hd
    exact rep_eH (hr a ha)
  rw [List.length_map] at this
  exact this
theorem rep_dd {d : Deed} (h : d.n ≤ 4) : Rep 1 33 (eDd d) := (Rep.tup (k := 0) (n := 13) (ds := [.str d.w.s, .int (d.n : Nat)]) fun e he => by
  rcases List.mem_cons.mp he with rfl | he
  · exact (Rep.str (n := 13) (by cases d.w <;> decide +kernel))
  · rw [List.mem_singleton.mp he]
    exact Rep.int (by omega))
theorem rep_lf {l : List Deed} (h8 : l.length ≤ 8) (h : ∀ d ∈ l, d.n ≤ 4) : Rep 2 290 (eLf l) := by
  have := Rep.tup (k := 1) (n := 33) (ds := l.map eDd) fun d hd => by
    obtain ⟨a, ha, rfl⟩ := List.mem_map.mp hd
    exact rep_dd (h a ha)
  rw [List.length_map] at this
  exact this.mono (by omega) (by omega)
theorem rep_sta {x : Sta} (so : StOk x) : Rep 3 900 (eSta x) := by
  have := Rep.tup (k := 2) (n := 290) (ds := [eLf x.left, .str x.ph.s, .str x.mrk.s]) fun e he => by
    rcases List.mem_cons.mp he with rfl | he
    · exact rep_lf so.l8 fun d hd => (so.dd d hd).2
    · rcases List.mem_cons.mp he with rfl | he
      · exact (Rep.str (n := 20) (by cases x.ph <;> decide +kernel)).mono (by omega) (by omega)
      · rw [List.mem_singleton.mp he]
        exact (Rep.str (n := 20) (by cases x.mrk <;> decide +kernel)).mono (by omega) (by omega)
  exact this.mono (by omega) (by show 3 * (290 + 2) + 3 ≤ 900; omega)
theorem rep_sts {s : Sd} (w : WF s) : Rep 4 5000 (eSts s.sts) := by
  have := Rep.tup (k := 3) (n := 900) (ds := s.sts.map eSta) fun d hd => by
    obtain ⟨a, ha, rfl⟩ := List.mem_map.mp hd
    obtain ⟨i, hi, rfl⟩ := List.mem_iff_getElem.mp ha
    exact rep_sta (w.st i _ (List.getElem?_eq_getElem hi))
  rw [List.length_map] at this
  have h5 := w.n5
  have : Rep 4 (s.sts.length * 902 + 3) (eSts s.sts) := this
  exact this.mono (by omega) (by omega)
theorem row_lt {s : Sd} (w : WF s) {o : Nat} (h : o ∈ s.row) : o < 5 := by
  obtain ⟨x, e, _⟩ := (w.row o).mp h
  have := (List.getElem?_eq_some_iff.mp e).1
  have := w.n5
  omega
theorem rep_sd {T : Nat} (hT : T < 1000000) {s : Sd} (h : Ok T s) : Rep 5 20000 (eSd s) := by
  have w := h.1
  have ht := h.2
  have r5 := w.r5
  have := Rep.tup (k := 4) (n := 5000) (ds := [.int s.tok, eRow s.row, eSts s.sts]) fun e he => by
    rcases List.mem_cons.mp he with rfl | he
    · exact (Rep.int (by omega)).mono (by omega) (by omega)
    · rcases List.mem_cons.mp he with rfl | he
      · exact (rep_row fun o ho => by have := row_lt w ho; omega).mono (by omega) (by omega)
      · rw [List.mem_singleton.mp he]
        exact rep_sts w
  exact this.mono (by omega) (by show 3 * (5000 + 2) + 3 ≤ 20000; omega)
/-- the standing at the beginning -/
def begun (plan : List (List Deed)) : Sd := ⟨0, [], plan.map fun l => ⟨l, .free, .no⟩⟩
theorem begun_ok {plan : List (List Deed)} (h5 : plan.length ≤ 5) (hpl : ∀ r ∈ plan, r.length ≤ 8 ∧ ∀ d ∈ r, 1 ≤ d.n ∧ d.n ≤ 4) : Ok 0 (begun plan) := by
  refine ⟨⟨by show (plan.map _).length ≤ 5; rw [List.length_map]; exact h5, List.nodup_nil, fun h => ⟨fun z => by simp [begun] at z, fun ⟨x, e, hp, _⟩ => ?_⟩, fun h x e => ?_⟩, by simp [begun]⟩
  · have e' : (plan.map fun l => (⟨l, .free, .no⟩ : Sta))[h]? = some x := e
    rw [List.getElem?_map] at e'
    cases q : plan[h]? with
    | none => rw [q] at e'; cases e'
    | some l =>
      rw [q] at e'
      cases e'
      rcases hp with z | z | z <;> cases z
  · have e' : (plan.map fun l => (⟨l, .free, .no⟩ : Sta))[h]? = some x := e
    rw [List.getElem?_map] at e'
    cases q : plan[h]? with
    | none => rw [q] at e'; cases e'
    | some l =>
      rw [q] at e'
      cases e'
      have hl := hpl l (List.mem_of_getElem? q)
      exact ⟨hl.2, hl.1, (fun z => absurd rfl z), (fun z => absurd rfl z), (fun z => by cases z), (fun z => by rcases z with z | z <;> cases z), (fun z => absurd rfl z)⟩
end Cl

set_option Elab.async false
set_option linter.all false
set_option autoImplicit false
set_option maxRecDepth 100000
set_option maxHeartbeats 400000
/-! the clean layer, part ZM: all rounds, all moves, typed -/
namespace Cl
open PySem PySem.Spec PyProof.Rows L2
open MO
/-! ### sorted rows -/
theorem cast_lt : ∀ a b : List Nat, ((a.map fun h => ((h : Nat) : Int)) < (b.map fun h => ((h : Nat) : Int))) ↔ a < b
  | [], [] => by simp
  | [], _ :: _ => by simp
  | _ :: _, [] => by simp
  | x :: xs, y :: ys => by
    rw [List.map_cons, List.map_cons, List.cons_lt_cons_iff, List.cons_lt_cons_iff, cast_lt xs ys]
    constructor
    · rintro (h | ⟨h, h2⟩)
      · exact .inl (by omega)
      · exact .inr ⟨by omega, h2⟩
    · rintro (h | ⟨h, h2⟩)
      · exact .inl (by omega)
      · exact .inr ⟨by omega, h2⟩
theorem rowLt_nat (a b : List Nat) : PySem.W.rowLt (a.map eH) (b.map eH) = decide (a < b) := by
  rw [row_ints, row_ints, PySem.W.dataLt_ints]
  exact decide_eq_decide.mpr (cast_lt a b)
def lexLe (a b : List Nat) : Bool := !decide (b < a)
theorem lexLe_iff {a b : List Nat} : lexLe a b = true ↔ a ≤ b := by
  unfold lexLe
  rw [Bool.not_eq_true', decide_eq_false_iff_not, List.not_lt]
def srt (ls : List (List Nat)) : List (List Nat) := ls.mergeSort lexLe
theorem srt_perm (ls : List (List Nat)) : (srt ls).Perm ls := List.mergeSort_perm _ _
theorem srt_pw (ls : List (List Nat)) : (srt ls).Pairwise fun a b => lexLe a b = true := by
  refine List.pairwise_mergeSort (fun a b c h1 h2 => ?_) (fun a b => ?_) ls
  · rw [lexLe_iff] at h1 h2 ⊢
    exact List.le_trans h1 h2
  · rw [Bool.or_eq_true, lexLe_iff, lexLe_iff]
    exact List.le_total a b
theorem srt_congr {a b : List (List Nat)} (h : a.Perm b) : srt a = srt b :=
  List.Perm.eq_of_pairwise (le := fun a b => lexLe a b = true) (fun x y _ _ h1 h2 => List.le_antisymm (lexLe_iff.mp h1) (lexLe_iff.mp h2)) (srt_pw a) (srt_pw b) ((srt_perm a).trans (h.trans (srt_perm b).symm))
theorem sortD_map {α : Type} {g : α → D} {r : α → α → Bool} {ls : List α} (h : ∀ a ∈ ls, ∀ b ∈ ls, r a b = PySem.W.dataLe false id (g a) (g b)) : sortD (ls.map g) = (ls.mergeSort r).map g := by
  unfold sortD
  rw [List.length_map]
  split
  · rename_i hl
    match ls, hl with
    | [], _ => simp
    | [a], _ => simp
  · exact (List.map_mergeSort h).symm
theorem sortF_inv {ds es : List D} (h : sortF [.list ds] = some es) : es = sortD ds := by
  change (if sortOk ds = true then some (sortD ds) else none) = some es at h
  split at h
  · exact (Option.some.inj h).symm
  · cases h
theorem dataLe_row (a b : List Nat) : PySem.W.dataLe false id (eRow a) (eRow b) = lexLe a b := by
  rw [PySem.W.dataLe_eq]
  show (!PySem.W.dataLt (.tuple (b.map eH)) (.tuple (a.map eH))) = _
  rw [PySem.W.dataLt_tuple]
  show (!PySem.W.rowLt (b.map eH) (a.map eH)) = _
  rw [rowLt_nat]
  rfl
theorem sortF_rowsX {ls : List (List Nat)} (h : ls.length < 2 ∨ ∀ r ∈ ls, r ≠ []) : sortF [.list (ls.map eRow)] = some ((srt ls).map eRow) := by
  obtain ⟨ls', e, _⟩ := sortF_rows h
  rw [e, sortF_inv e, sortD_map (r := lexLe) fun a _ b _ => (dataLe_row a b).symm]
  rfl
def srtN (r : List Nat) : List Nat := r.mergeSort fun a b => decide (a ≤ b)
theorem srtN_perm (r : List Nat) : (srtN r).Perm r := List.mergeSort_perm _ _
theorem dataLe_H (a b : Nat) : PySem.W.dataLe false id (eH a) (eH b) = decide (a ≤ b) := by
  have := congrFun (congrFun (PySem.W.dataLe_int fun h : Nat => ((h : Nat) : Int)) a) b
  refine this.trans ?_
  exact decide_eq_decide.mpr (by omega)
theorem sortF_rowX (r : List Nat) : sortF [eRow r] = some ((srtN r).map eH) ∧ sortF [.list (r.map eH)] = some ((srtN r).map eH) := by
  obtain ⟨r', e, _⟩ := sortF_row r
  have e' : sortF [.list (r.map eH)] = some (r'.map eH) := e
  have h := sortF_inv e'
  rw [sortD_map (r := fun a b => decide (a ≤ b)) fun a _ b _ => (dataLe_H a b).symm] at h
  exact ⟨by rw [e, h]; rfl, by rw [e', h]; rfl⟩
theorem srtN_asc {r : List Nat} (h : r.Nodup) : (srtN r).Pairwise (· < ·) := by
  have p1 : (srtN r).Pairwise fun a b => decide (a ≤ b) = true := List.pairwise_mergeSort (fun a b c h1 h2 => by
    rw [decide_eq_true_eq] at h1 h2 ⊢; omega) (fun a b => by
    rw [Bool.or_eq_true, decide_eq_true_eq, decide_eq_true_eq]; omega) r
  have p2 : (srtN r).Nodup := (srtN_perm r).nodup_iff.mpr h
  exact (p1.and p2).imp fun ⟨a, b⟩ => by
    rw [decide_eq_true_eq] at a
    omega
/-! ### moves, sorted -/
theorem lyMv (m : Nat × Mv) : Ly 1 (eMv m) := by
  obtain ⟨h, v⟩ := m
  cases v with
  | on =>
    refine Ly.tup (k := 0) fun e he => ?_
    rcases List.mem_cons.mp he with rfl | he
    · exact Ly.int
    · rw [List.mem_singleton.mp he]; exact Ly.str (by decide +kernel)
  | away =>
    refine Ly.tup (k := 0) fun e he => ?_
    rcases List.mem_cons.mp he with rfl | he
    · exact Ly.int
    · rw [List.mem_singleton.mp he]; exact Ly.str (by decide +kernel)
  | call lot =>
    refine Ly.tup (k := 0) fun e he => ?_
    rcases List.mem_cons.mp he with rfl | he
    · exact Ly.int
    · rcases List.mem_cons.mp he with rfl | he
      · exact Ly.str (by decide +kernel)
      · obtain ⟨a, _, rfl⟩ := List.mem_map.mp he
        exact Ly.int
theorem lyLMv {ms : List (Nat × Mv)} : ∀ d ∈ ms.map eMv, Ly 1 d := fun d hd => by
  obtain ⟨m, _, rfl⟩ := List.mem_map.mp hd
  exact lyMv m
theorem sortF_short {ds : List D} {k : Nat} (h : ds.length < 2) (l : ∀ d ∈ ds, Ly k d) : sortF [.list ds] = some ds := by
  have hok : sortOk ds = true := by
    unfold sortOk
    rw [(Ly.all l).1, Bool.true_and, Bool.or_eq_true]
    exact .inl (decide_eq_true h)
  show (if sortOk ds = true then some (sortD ds) else none) = _
  rw [if_pos hok]
  unfold sortD
  rw [if_pos h]
theorem mv_calls (h : Nat) (a b : List Nat) : PySem.W.dataLe false id (eMv (h, .call a)) (eMv (h, .call b)) = lexLe a b := by
  rw [PySem.W.dataLe_eq]
  show (!PySem.W.dataLt (.tuple (eH h :: .str "call" :: b.map eH)) (.tuple (eH h :: .str "call" :: a.map eH))) = _
  rw [PySem.W.dataLt_tuple, PySem.W.dataLt_cons (by show PySem.W.alike (.int _) (.int _) = true; rw [PySem.W.alike]), if_pos (by show PyData.eqv (.int _) (.int _) = true; simp [PyData.eqv]), PySem.W.dataLt_cons (by rw [PySem.W.alike]), if_pos (by decide)]
  show (!PySem.W.rowLt (b.map eH) (a.map eH)) = _
  rw [rowLt_nat]
  rfl
theorem alike_calls (h : Nat) (a b : List Nat) : PySem.W.alike (eMv (h, .call a)) (eMv (h, .call b)) = true := by
  show PySem.W.alike (.tuple (eH h :: .str "call" :: a.map eH)) (.tuple (eH h :: .str "call" :: b.map eH)) = true
  rw [PySem.W.alike, PySem.W.alikeAll, PySem.W.alikeAll, row_ints, row_ints, PySem.W.alike_ints]
  show (PySem.W.alike (.int _) (.int _) && _) = true
  rw [PySem.W.alike, PySem.W.alike]
  rfl
theorem sortF_calls (h : Nat) (ls : List (List Nat)) : sortF [.list ((ls.map fun l => (h, Mv.call l)).map eMv)] = some (((srt ls).map fun l => (h, Mv.call l)).map eMv) := by
  have hok : sortOk ((ls.map fun l => (h, Mv.call l)).map eMv) = true := by
    unfold sortOk
    rw [(Ly.all (k := 1) lyLMv).1, Bool.true_and, Bool.or_eq_true]
    right
    rw [Bool.and_eq_true, Bool.and_eq_true, Bool.or_eq_true]
    refine ⟨⟨?_, .inl ?_⟩, ?_⟩
    · rw [List.all_eq_true]
      intro d hd
      rw [List.all_eq_true]
      intro d' hd'
      rw [List.map_map] at hd hd'
      obtain ⟨a, _, rfl⟩ := List.mem_map.mp hd
      obtain ⟨a', _, rfl⟩ := List.mem_map.mp hd'
      exact alike_calls h a a'
    · rw [List.all_eq_true]
      intro d hd
      rw [List.map_map] at hd
      obtain ⟨a, _, rfl⟩ := List.mem_map.mp hd
      rfl
    · rw [List.all_eq_true]
      intro d hd
      have := (lyLMv d hd).dp
      exact decide_eq_true (by omega)
  show (if sortOk _ = true then some (sortD _) else none) = _
  rw [if_pos hok]
  congr 1
  rw [List.map_map, List.map_map]
  exact sortD_map (g := eMv ∘ fun l => (h, Mv.call l)) (r := lexLe) fun a _ b _ => (mv_calls h a b).symm
theorem sortF_two (h : Nat) : sortF [.list ([(h, Mv.away), (h, Mv.on)].map eMv)] = some ([(h, Mv.away), (h, Mv.on)].map eMv) := by
  have hok : sortOk ([(h, Mv.away), (h, Mv.on)].map eMv) = true := by
    unfold sortOk
    rw [(Ly.all (k := 1) lyLMv).1, Bool.true_and, Bool.or_eq_true]
    right
    rw [Bool.and_eq_true, Bool.and_eq_true, Bool.or_eq_true]
    have al : ∀ x y : Str, PySem.W.alike (.tuple [eH h, .str x]) (.tuple [eH h, .str y]) = true := fun x y => by
      rw [PySem.W.alike, PySem.W.alikeAll, PySem.W.alikeAll, PySem.W.alikeAll]
      show (PySem.W.alike (.int _) (.int _) && _) = true
      rw [PySem.W.alike, PySem.W.alike]
      rfl
    refine ⟨⟨?_, .inl rfl⟩, ?_⟩
    · show (((PySem.W.alike (.tuple [eH h, .str "away"]) (.tuple [eH h, .str "away"])) && ((PySem.W.alike (.tuple [eH h, .str "away"]) (.tuple [eH h, .str "on"])) && true)) && (((PySem.W.alike (.tuple [eH h, .str "on"]) (.tuple [eH h, .str "away"])) && ((PySem.W.alike (.tuple [eH h, .str "on"]) (.tuple [eH h, .str "on"])) && true)) && true)) = true
      rw [al, al, al, al]
      rfl
    · rw [List.all_eq_true]
      intro d hd
      have := (lyLMv d hd).dp
      exact decide_eq_true (by omega)
  show (if sortOk _ = true then some (sortD _) else none) = _
  rw [if_pos hok]
  congr 1
  show List.mergeSort _ _ = _
  refine List.mergeSort_of_pairwise ?_
  show List.Pairwise _ [eMv (h, Mv.away), eMv (h, Mv.on)]
  rw [List.pairwise_pair, PySem.W.dataLe_eq]
  show (!PySem.W.dataLt (.tuple [eH h, .str "on"]) (.tuple [eH h, .str "away"])) = true
  rw [PySem.W.dataLt_pair (by show PySem.W.alike (.int _) (.int _) = true; rw [PySem.W.alike]) (by rw [PySem.W.alike]), if_pos (by show PyData.eqv (.int _) (.int _) = true; simp [PyData.eqv]), if_neg (by decide), PySem.W.dataLt_str]
  decide
end Cl

set_option Elab.async false
set_option linter.all false
set_option autoImplicit false
set_option maxRecDepth 100000
set_option maxHeartbeats 400000
/-! the clean layer, part ZN: which rounds of calls there are; all moves -/
namespace Cl
open PySem PySem.Spec PyProof.Rows L2
open MO
/-- a move that can be made, as far as the rows of calls go -/
def LegalW (s : Sd) (m : Nat × Mv) : Prop := ∃ x, s.sts[m.1]? = some x ∧ (match m.2 with
  | .on => caller x.ph = false ∧ x.left ≠ [] ∧ x.ph ≠ .asleep
  | .away => caller x.ph = false ∧ leaver x.ph = true ∧ ∃ d r, x.left = d :: r ∧ d.w = .wish
  | .call lot => caller x.ph = true ∧ lot.Nodup ∧ ∀ o ∈ lot, o ∈ s.row)
theorem lot_len {s : Sd} (w : WF s) {lot : List Nat} (nd : lot.Nodup) (h : ∀ o ∈ lot, o ∈ s.row) : lot.length ≤ 5 := Nat.le_trans (List.Nodup.length_le_of_subset nd h) w.r5
theorem row_left {s : Sd} (w : WF s) {o : Nat} (ho : o ∈ s.row) : ∃ y d r, s.sts[o]? = some y ∧ y.left = d :: r ∧ d.n ≤ 4 ∧ y.mrk = .no ∧ leaver y.ph = true := by
  obtain ⟨y, e, h1, h2⟩ := (w.row o).mp ho
  have ne := (w.st o y e).ne (fun z => by rw [z] at h1; simp at h1)
  obtain ⟨d, r, el⟩ := List.exists_cons_of_ne_nil ne
  refine ⟨y, d, r, e, el, ((w.st o y e).dd d (by rw [el]; exact List.mem_cons_self)).2, h2, ?_⟩
  rcases h1 with z | z | z <;> rw [z] <;> decide
/-! ### choices -/
structure AscLot (k : Nat) (r l : List Nat) : Prop where
  len : l.length = k
  asc : l.Pairwise (· < ·)
  sub : ∀ o ∈ l, o ∈ r
theorem AscLot.congr {k : Nat} {r r' l : List Nat} (h : ∀ o, o ∈ r ↔ o ∈ r') : AscLot k r l ↔ AscLot k r' l := ⟨fun a => ⟨a.len, a.asc, fun o ho => (h o).mp (a.sub o ho)⟩, fun a => ⟨a.len, a.asc, fun o ho => (h o).mpr (a.sub o ho)⟩⟩
theorem AscLot.nil {r l : List Nat} : AscLot 0 r l ↔ l = [] := ⟨fun h => List.length_eq_zero_iff.mp h.len, fun h => by subst h; exact ⟨rfl, .nil, fun o ho => by simp at ho⟩⟩
/-- in a row that ascends: who stands behind -/
theorem asc_drop {r : List Nat} (hr : r.Pairwise (· < ·)) {i j : Nat} (hi : i < r.length) (hj : j < r.length) : r[i] < r[j] ↔ i < j := by
  rw [List.pairwise_iff_getElem] at hr
  constructor
  · intro h
    rcases Nat.lt_trichotomy i j with z | z | z
    · exact z
    · subst z; omega
    · have := hr j i hj hi z; omega
  · exact fun h => hr i j hi hj h
theorem AscLot.cons {m : Nat} {r l : List Nat} (hr : r.Pairwise (· < ·)) : AscLot (m + 1) r l ↔ ∃ i l', ∃ h : i < r.length, l = r[i] :: l' ∧ AscLot m (r.drop (i + 1)) l' := by
  constructor
  · intro h
    match l, h with
    | [], h => have := h.len; simp at this
    | a :: l', h =>
      obtain ⟨i, hi, e⟩ := List.getElem_of_mem (h.sub a List.mem_cons_self)
      refine ⟨i, l', hi, by rw [e], by have := h.len; rw [List.length_cons] at this; omega, h.asc.tail, fun o ho => ?_⟩
      obtain ⟨j, hj, e2⟩ := List.getElem_of_mem (h.sub o (List.mem_cons_of_mem _ ho))
      have lt := (List.pairwise_cons.mp h.asc).1 o ho
      rw [← e, ← e2] at lt
      have ij := (asc_drop hr hi hj).mp lt
      rw [← e2]
      exact List.mem_drop_iff_getElem.mpr ⟨j - (i + 1), by omega, by congr 1; omega⟩
  · rintro ⟨i, l', hi, rfl, h⟩
    have up : ∀ o ∈ l', ∃ j, ∃ hj : j < r.length, i < j ∧ r[j] = o := fun o ho => by
      obtain ⟨j, hj, e⟩ := List.mem_drop_iff_getElem.mp (h.sub o ho)
      exact ⟨i + 1 + j, by omega, by omega, e⟩
    refine ⟨by rw [List.length_cons, h.len], List.pairwise_cons.mpr ⟨fun o ho => ?_, h.asc⟩, fun o ho => ?_⟩
    · obtain ⟨j, hj, ij, e⟩ := up o ho
      rw [← e]
      exact (asc_drop hr hi hj).mpr ij
    · rcases List.mem_cons.mp ho with rfl | ho
      · exact List.getElem_mem hi
      · obtain ⟨j, hj, _, e⟩ := up o ho
        rw [← e]
        exact List.getElem_mem hj
/-- the package's way -/
def lastLt (l : List Nat) (h : Nat) : Bool := match l.getLast? with
  | none => true
  | some z => decide (z < h)
def chNext (hs : List Nat) (ls : List (List Nat)) : List (List Nat) := ls.flatMap fun l => (hs.filter fun h => lastLt l h).map fun h => l ++ [h]
def chl (hs : List Nat) : Nat → List (List Nat)
  | 0 => [[]]
  | k + 1 => chNext hs (chl hs k)
theorem lastLt_iff {l : List Nat} (hl : l.Pairwise (· < ·)) {h : Nat} : lastLt l h = true ↔ ∀ o ∈ l, o < h := by
  rcases List.eq_nil_or_concat l with rfl | ⟨l0, z, rfl⟩
  · simp [lastLt]
  · rw [List.concat_eq_append] at *
    unfold lastLt
    rw [List.getLast?_append]
    simp only [List.getLast?_singleton, Option.some_or, decide_eq_true_eq]
    rw [List.pairwise_append] at hl
    constructor
    · intro zh o ho
      rcases List.mem_append.mp ho with ho | ho
      · have := hl.2.2 o ho z List.mem_cons_self
        omega
      · rw [List.mem_singleton.mp ho]; exact zh
    · intro h1
      exact h1 z (List.mem_append_right _ List.mem_cons_self)
theorem mem_chl {hs : List Nat} : ∀ {k : Nat} {l : List Nat}, l ∈ chl hs k ↔ AscLot k hs l
  | 0, l => by
    rw [AscLot.nil]
    show l ∈ [[]] ↔ _
    exact List.mem_singleton
  | k + 1, l => by
    show l ∈ chNext hs (chl hs k) ↔ _
    unfold chNext
    rw [List.mem_flatMap]
    constructor
    · rintro ⟨l0, h0, hl⟩
      obtain ⟨h, hh, rfl⟩ := List.mem_map.mp hl
      obtain ⟨h1, h2⟩ := List.mem_filter.mp hh
      have a := mem_chl.mp h0
      have lt := (lastLt_iff a.asc).mp h2
      refine ⟨by rw [List.length_append, a.len]; rfl, List.pairwise_append.mpr ⟨a.asc, List.pairwise_singleton _ _, fun o ho z hz => ?_⟩, fun o ho => ?_⟩
      · rw [List.mem_singleton.mp hz]; exact lt o ho
      · rcases List.mem_append.mp ho with ho | ho
        · exact a.sub o ho
        · rw [List.mem_singleton.mp ho]; exact h1
    · intro a
      rcases List.eq_nil_or_concat l with rfl | ⟨l0, z, rfl⟩
      · have := a.len; simp at this
      · rw [List.concat_eq_append] at *
        have len := a.len
        have asc := List.pairwise_append.mp a.asc
        rw [List.length_append, List.length_singleton] at len
        refine ⟨l0, mem_chl.mpr ⟨by omega, asc.1, fun o ho => a.sub o (List.mem_append_left _ ho)⟩, List.mem_map.mpr ⟨z, List.mem_filter.mpr ⟨a.sub z (List.mem_append_right _ List.mem_cons_self), ?_⟩, rfl⟩⟩
        rw [lastLt_iff asc.1]
        exact fun o ho => asc.2.2 o ho z List.mem_cons_self
theorem app_one {a b : List Nat} {x y : Nat} (h : a ++ [x] = b ++ [y]) : a = b ∧ x = y := by
  have := List.append_inj' h rfl
  exact ⟨this.1, by simpa using this.2⟩
theorem nd_chNext {hs : List Nat} (hn : hs.Nodup) {ls : List (List Nat)} (hl : ls.Nodup) : (chNext hs ls).Nodup := by
  unfold chNext List.Nodup
  rw [List.pairwise_flatMap]
  refine ⟨fun l _ => ?_, List.Pairwise.imp (fun {l1 l2} ne x hx y hy e => ?_) hl⟩
  · rw [List.pairwise_map]
    exact (hn.filter _).imp fun ne e => ne (app_one e).2
  · obtain ⟨h1, _, rfl⟩ := List.mem_map.mp hx
    obtain ⟨h2, _, rfl⟩ := List.mem_map.mp hy
    exact ne (app_one e).1
theorem nd_chl {hs : List Nat} (hn : hs.Nodup) : ∀ k, (chl hs k).Nodup
  | 0 => by show [[]].Nodup; simp
  | k + 1 => nd_chNext hn (nd_chl hn k)
theorem flat_len {α β : Type} {f : α → List β} {n : Nat} : ∀ {l : List α}, (∀ a ∈ l, (f a).length ≤ n) → (l.flatMap f).length ≤ l.length * n
  | [], _ => by simp
  | a :: l, h => by
    rw [List.flatMap_cons, List.length_append, List.length_cons, Nat.succ_mul]
    have := flat_len (l := l) fun b hb => h b (List.mem_cons_of_mem _ hb)
    have := h a List.mem_cons_self
    omega
theorem len_chl {hs : List Nat} (h5 : hs.length ≤ 5) : ∀ k, (chl hs k).length ≤ 5 ^ k
  | 0 => Nat.le_refl _
  | k + 1 => by
    rw [Nat.pow_succ]
    refine Nat.le_trans (flat_len (n := 5) fun l _ => ?_) (Nat.mul_le_mul_right _ (len_chl h5 k))
    rw [List.length_map]
    exact Nat.le_trans (List.length_filter_le _ _) h5
/-! ### givings -/
theorem wantsOf_cons (s : Sd) (a : Nat) (l : List Nat) : wantsOf s (a :: l) = wantOf s a + wantsOf s l := by unfold wantsOf; rw [List.map_cons, List.sum_cons]
theorem wantsOf_at (t t' : Int) (r r' : List Nat) (sts : List Sta) (l : List Nat) : wantsOf ⟨t, r, sts⟩ l = wantsOf ⟨t', r', sts⟩ l := rfl
theorem GRound.zero {s : Sd} {l : List Nat} : GRound s 0 l ↔ l = [] := ⟨fun h => List.length_eq_zero_iff.mp (by have := h.le; omega), fun h => by
  subst h
  exact ⟨⟨List.nodup_nil, fun o ho => by simp at ho, Nat.le_refl _, .inl rfl⟩, .inl rfl⟩⟩
theorem GRound.none {s : Sd} {m : Nat} (h : ∀ o ∈ s.row, s.tok < wantOf s o) {l : List Nat} : GRound s m l ↔ l = [] := by
  constructor
  · intro g
    match l, g with
    | [], _ => rfl
    | a :: l', g =>
      have h1 := h a (g.sub a List.mem_cons_self)
      rcases g.ok with z | z
      · cases z
      · rw [wantsOf_cons] at z; omega
  · intro e
    subst e
    exact ⟨⟨List.nodup_nil, fun o ho => by simp at ho, Nat.zero_le _, .inl rfl⟩, .inr fun o ho _ => by
      have := h o ho
      show s.tok - ((wantsOf s [] : Nat) : Int) < _
      have z : wantsOf s [] = 0 := rfl
      rw [z]; omega⟩
theorem GRound.cons {t : Int} {r : List Nat} {sts : List Sta} {m : Nat} (h : ∃ o ∈ r, (wantOf ⟨t, r, sts⟩ o : Int) ≤ t) {l : List Nat} :
    GRound ⟨t, r, sts⟩ (m + 1) l ↔ ∃ a l', a ∈ r ∧ (wantOf ⟨t, r, sts⟩ a : Int) ≤ t ∧ l = a :: l' ∧ GRound ⟨t - wantOf ⟨t, r, sts⟩ a, offR r a, sts⟩ m l' := by
  constructor
  · intro g
    match l, g with
    | [], g =>
      obtain ⟨o, ho, hw⟩ := h
      rcases g.fin with z | z
      · simp at z
      · have := z o ho (by simp)
        have z0 : wantsOf ⟨t, r, sts⟩ [] = 0 := rfl
        rw [z0] at this
        have : t < ((wantOf ⟨t, r, sts⟩ o : Nat) : Int) := by simpa using this
        omega
    | a :: l', g =>
      have ok : (wantsOf ⟨t, r, sts⟩ (a :: l') : Int) ≤ t := g.ok.resolve_left (by simp)
      rw [wantsOf_cons] at ok
      have nd := List.nodup_cons.mp g.nd
      refine ⟨a, l', g.sub a List.mem_cons_self, by omega, rfl, ⟨⟨nd.2, fun o ho => ?_, ?_, .inr ?_⟩, ?_⟩⟩
      · exact mem_off.mpr ⟨g.sub o (List.mem_cons_of_mem _ ho), fun e => by rw [e] at ho; exact nd.1 ho⟩
      · have := g.le; rw [List.length_cons] at this; omega
      · rw [wantsOf_at _ t _ r]
        show ((wantsOf ⟨t, r, sts⟩ l' : Nat) : Int) ≤ t - _
        omega
      · rcases g.fin with z | z
        · exact .inl (by rw [List.length_cons] at z; omega)
        · refine .inr fun o ho hn => ?_
          have ⟨o1, o2⟩ := mem_off.mp ho
          have := z o o1 (fun q => by
            rcases List.mem_cons.mp q with q | q
            · exact o2 q
            · exact hn q)
          rw [wantsOf_cons] at this
          rw [wantsOf_at _ t _ r]
          show t - ((wantOf ⟨t, r, sts⟩ a : Nat) : Int) - ((wantsOf ⟨t, r, sts⟩ l' : Nat) : Int) < ((wantOf ⟨t, r, sts⟩ o : Nat) : Int)
          have t2 : t - (((wantOf ⟨t, r, sts⟩ a + wantsOf ⟨t, r, sts⟩ l' : Nat)) : Int) < ((wantOf ⟨t, r, sts⟩ o : Nat) : Int) := this
          omega
  · rintro ⟨a, l', ha, hw, rfl, g⟩
    have ok : (wantsOf ⟨t, r, sts⟩ l' : Int) ≤ t - wantOf ⟨t, r, sts⟩ a := by
      rcases g.ok with z | z
      · rw [z]
        have z0 : wantsOf ⟨t, r, sts⟩ [] = 0 := rfl
        rw [z0]; omega
      · exact z
    refine ⟨⟨List.nodup_cons.mpr ⟨fun z => (mem_off.mp (g.sub a z)).2 rfl, g.nd⟩, fun o ho => ?_, ?_, .inr ?_⟩, ?_⟩
    · rcases List.mem_cons.mp ho with rfl | ho
      · exact ha
      · exact (mem_off.mp (g.sub o ho)).1
    · have := g.le; rw [List.length_cons]; omega
    · rw [wantsOf_cons]
      show (((_ + _ : Nat)) : Int) ≤ t
      omega
    · rcases g.fin with z | z
      · exact .inl (by rw [List.length_cons, z])
      · refine .inr fun o ho hn => ?_
        have := z o (mem_off.mpr ⟨ho, fun e => hn (by rw [e]; exact List.mem_cons_self)⟩) fun q => hn (List.mem_cons_of_mem _ q)
        rw [wantsOf_cons]
        have t2 : t - ((wantOf ⟨t, r, sts⟩ a : Nat) : Int) - ((wantsOf ⟨t, r, sts⟩ l' : Nat) : Int) < ((wantOf ⟨t, r, sts⟩ o : Nat) : Int) := this
        show t - (((wantOf ⟨t, r, sts⟩ a + wantsOf ⟨t, r, sts⟩ l' : Nat)) : Int) < ((wantOf ⟨t, r, sts⟩ o : Nat) : Int)
        omega
theorem GRound.min {s : Sd} {m : Nat} {l : List Nat} (hn : s.row.Nodup) : GRound s (min m s.row.length) l ↔ GRound s m l := by
  constructor
  · intro g
    have hle := g.le
    refine ⟨⟨g.nd, g.sub, by omega, g.ok⟩, ?_⟩
    rcases g.fin with z | z
    · by_cases q : m ≤ s.row.length
      · exact .inl (by omega)
      · refine .inr fun o ho hno => ?_
        exfalso
        · have nd : (o :: l).Nodup := List.nodup_cons.mpr ⟨hno, g.nd⟩
          have := nd.length_le_of_subset (l₂ := s.row) fun z hz => by
            rcases List.mem_cons.mp hz with rfl | hz
            · exact ho
            · exact g.sub z hz
          rw [List.length_cons] at this
          omega
    · exact .inr z
  · intro g
    have hle := g.le
    have h2 := g.nd.length_le_of_subset (l₂ := s.row) g.sub
    refine ⟨⟨g.nd, g.sub, by omega, g.ok⟩, ?_⟩
    rcases g.fin with z | z
    · exact .inl (by omega)
    · exact .inr z
end Cl

set_option Elab.async false
set_option linter.all false
set_option autoImplicit false
set_option maxRecDepth 100000
set_option maxHeartbeats 400000
/-! the clean layer, part ZO: givings level by level; all rounds; all moves -/
namespace Cl
open PySem PySem.Spec PyProof.Rows L2
open MO
def nextG (s : Sd) (ps : List (List Nat × Int)) : List (List Nat × Int) := ps.flatMap fun p => (moreOf s p).map fun o => (p.1 ++ [o], p.2 - wantOf s o)
def lev (s : Sd) : Nat → List (List Nat × Int)
  | 0 => [([], s.tok)]
  | i + 1 => nextG s (lev s i)
structure LevP (s : Sd) (i : Nat) (p : List Nat × Int) : Prop where
  len : p.1.length = i
  nd : p.1.Nodup
  sub : ∀ o ∈ p.1, o ∈ s.row
  ok : p.1 = [] ∨ (wantsOf s p.1 : Int) ≤ s.tok
  val : p.2 = s.tok - wantsOf s p.1
theorem mem_more {s : Sd} {p : List Nat × Int} {o : Nat} : o ∈ moreOf s p ↔ o ∈ s.row ∧ o ∉ p.1 ∧ (wantOf s o : Int) ≤ p.2 := by
  unfold moreOf
  rw [List.mem_filter, decide_eq_true_eq]
theorem wantsOf_nil (s : Sd) : wantsOf s [] = 0 := rfl
theorem mem_lev {s : Sd} : ∀ {i : Nat} {p : List Nat × Int}, p ∈ lev s i ↔ LevP s i p
  | 0, p => by
    show p ∈ [([], s.tok)] ↔ _
    rw [List.mem_singleton]
    constructor
    · rintro rfl
      exact ⟨rfl, List.nodup_nil, fun o ho => by simp at ho, .inl rfl, by rw [wantsOf_nil]; show s.tok = _; omega⟩
    · intro h
      have e := List.length_eq_zero_iff.mp h.len
      have v := h.val
      rw [e, wantsOf_nil] at v
      exact Prod.ext e (by rw [v]; show s.tok - _ = s.tok; omega)
  | i + 1, p => by
    show p ∈ nextG s (lev s i) ↔ _
    unfold nextG
    rw [List.mem_flatMap]
    constructor
    · rintro ⟨q, hq, hp⟩
      obtain ⟨o, ho, rfl⟩ := List.mem_map.mp hp
      have L := mem_lev.mp hq
      obtain ⟨o1, o2, o3⟩ := mem_more.mp ho
      have v := L.val
      refine ⟨by rw [List.length_append, L.len]; rfl, ?_, fun z hz => ?_, .inr ?_, ?_⟩
      · exact List.nodup_append.mpr ⟨L.nd, by simp, fun a ha b hb e => by
          rw [List.mem_singleton.mp hb] at e
          subst e
          exact o2 ha⟩
      · rcases List.mem_append.mp hz with hz | hz
        · exact L.sub z hz
        · rw [List.mem_singleton.mp hz]; exact o1
      · rw [wantsOf_app, wantsOf_one]; omega
      · rw [wantsOf_app, wantsOf_one]
        show q.2 - _ = _
        omega
    · intro L
      obtain ⟨l, v⟩ := p
      rcases List.eq_nil_or_concat l with rfl | ⟨l0, z, rfl⟩
      · have := L.len; simp at this
      · rw [List.concat_eq_append] at *
        have len := L.len
        have ok : (wantsOf s (l0 ++ [z]) : Int) ≤ s.tok := L.ok.resolve_left (by simp)
        have vv := L.val
        simp only at len vv
        rw [List.length_append, List.length_singleton] at len
        rw [wantsOf_app, wantsOf_one] at ok vv
        have nd := List.nodup_append.mp L.nd
        refine ⟨(l0, s.tok - wantsOf s l0), mem_lev.mpr ⟨by show l0.length = i; omega, nd.1, fun o ho => L.sub o (List.mem_append_left _ ho), .inr (by show (wantsOf s l0 : Int) ≤ _; omega), rfl⟩, List.mem_map.mpr ⟨z, mem_more.mpr ⟨L.sub z (List.mem_append_right _ List.mem_cons_self), fun h => nd.2.2 z h z List.mem_cons_self rfl, by show (wantOf s z : Int) ≤ s.tok - _; omega⟩, ?_⟩⟩
        exact Prod.ext rfl (by show s.tok - _ - _ = v; omega)
theorem nd_lev {s : Sd} (hn : s.row.Nodup) : ∀ i, (lev s i).Nodup
  | 0 => by show [([], s.tok)].Nodup; simp
  | i + 1 => by
    show (nextG s (lev s i)).Nodup
    unfold nextG List.Nodup
    rw [List.pairwise_flatMap]
    refine ⟨fun p _ => ?_, ?_⟩
    · rw [List.pairwise_map]
      exact (hn.filter _).imp fun ne e => ne (app_one (congrArg Prod.fst e)).2
    · have h := nd_lev hn i
      refine List.Pairwise.imp_of_mem (fun {p q} hp hq ne x hx y hy e => ?_) h
      obtain ⟨h1, _, rfl⟩ := List.mem_map.mp hx
      obtain ⟨h2, _, rfl⟩ := List.mem_map.mp hy
      have e1 := (app_one (congrArg Prod.fst e)).1
      have L1 := (mem_lev.mp hp).val
      have L2 := (mem_lev.mp hq).val
      exact ne (Prod.ext e1 (by rw [L1, L2, e1]))
theorem len_lev {s : Sd} (h5 : s.row.length ≤ 5) : ∀ i, (lev s i).length ≤ 5 ^ i
  | 0 => Nat.le_refl _
  | i + 1 => by
    rw [Nat.pow_succ]
    refine Nat.le_trans (flat_len (n := 5) fun l _ => ?_) (Nat.mul_le_mul_right _ (len_lev h5 i))
    rw [List.length_map]
    exact Nat.le_trans (List.length_filter_le _ _) h5
/-- who is stuck at a level -/
def stuckG (s : Sd) (ps : List (List Nat × Int)) : List (List Nat) := (ps.filter fun p => decide (moreOf s p = [])).map (·.1)
def givB (s : Sd) (m : Nat) : List (List Nat) := ((List.range m).flatMap fun i => stuckG s (lev s i)) ++ (lev s m).map (·.1)
theorem mem_stuck {s : Sd} {i : Nat} {l : List Nat} : l ∈ stuckG s (lev s i) ↔ LevP s i (l, s.tok - wantsOf s l) ∧ ∀ o ∈ s.row, o ∉ l → s.tok - wantsOf s l < wantOf s o := by
  unfold stuckG
  rw [List.mem_map]
  constructor
  · rintro ⟨p, hp, rfl⟩
    obtain ⟨h1, h2⟩ := List.mem_filter.mp hp
    have L := mem_lev.mp h1
    have e : (p.1, s.tok - ((wantsOf s p.1 : Nat) : Int)) = p := Prod.ext rfl L.val.symm
    refine ⟨by rw [e]; exact L, fun o ho hn => ?_⟩
    have h3 := of_decide_eq_true h2
    exact Int.not_le.mp fun z => by
      have : o ∈ moreOf s p := mem_more.mpr ⟨ho, hn, by rw [L.val]; exact z⟩
      rw [h3] at this
      simp at this
  · rintro ⟨L, h⟩
    refine ⟨_, List.mem_filter.mpr ⟨mem_lev.mpr L, decide_eq_true ?_⟩, rfl⟩
    rw [List.eq_nil_iff_forall_not_mem]
    intro o ho
    obtain ⟨o1, o2, o3⟩ := mem_more.mp ho
    have := h o o1 o2
    have o3' : (wantOf s o : Int) ≤ s.tok - wantsOf s l := o3
    omega
theorem mem_givB {s : Sd} {m : Nat} {l : List Nat} : l ∈ givB s m ↔ GRound s m l := by
  unfold givB
  rw [List.mem_append, List.mem_flatMap]
  constructor
  · rintro (⟨i, hi, h⟩ | h)
    · have im := List.mem_range.mp hi
      obtain ⟨L, f⟩ := mem_stuck.mp h
      have := L.len
      exact ⟨⟨L.nd, L.sub, by simp only at this; omega, L.ok⟩, .inr f⟩
    · obtain ⟨p, hp, rfl⟩ := List.mem_map.mp h
      have L := mem_lev.mp hp
      exact ⟨⟨L.nd, L.sub, by have := L.len; omega, L.ok⟩, .inl L.len⟩
  · intro g
    have L : LevP s l.length (l, s.tok - wantsOf s l) := ⟨rfl, g.nd, g.sub, g.ok, rfl⟩
    by_cases z : l.length = m
    · right
      rw [z] at L
      exact List.mem_map.mpr ⟨_, mem_lev.mpr L, rfl⟩
    · left
      exact ⟨l.length, List.mem_range.mpr (by have := g.le; omega), mem_stuck.mpr ⟨L, g.fin.resolve_left z⟩⟩
theorem stuck_len {s : Sd} {i : Nat} {l : List Nat} (h : l ∈ stuckG s (lev s i)) : l.length = i := (mem_stuck.mp h).1.len
theorem nd_fst {s : Sd} {i : Nat} (hn : s.row.Nodup) : ((lev s i).map (·.1)).Nodup := by
  unfold List.Nodup
  rw [List.pairwise_map]
  refine List.Pairwise.imp_of_mem (fun {p q} hp hq ne e => ?_) (nd_lev hn i)
  exact ne (Prod.ext e (by rw [(mem_lev.mp hp).val, (mem_lev.mp hq).val, e]))
theorem nd_stuck {s : Sd} {i : Nat} (hn : s.row.Nodup) : (stuckG s (lev s i)).Nodup := by
  unfold stuckG
  exact (nd_fst hn).sublist ((List.filter_sublist).map _)
theorem nd_givB {s : Sd} (hn : s.row.Nodup) (m : Nat) : (givB s m).Nodup := by
  unfold givB
  refine List.nodup_append.mpr ⟨?_, nd_fst hn, fun a ha b hb e => ?_⟩
  · unfold List.Nodup
    rw [List.pairwise_flatMap]
    refine ⟨fun i _ => nd_stuck hn, List.Pairwise.imp (fun {i j} ne x hx y hy e => ?_) List.nodup_range⟩
    have h1 := stuck_len hx
    have h2 := stuck_len hy
    rw [e] at h1
    exact ne (h1.symm.trans h2)
  · subst e
    obtain ⟨i, hi, h⟩ := List.mem_flatMap.mp ha
    obtain ⟨p, hp, rfl⟩ := List.mem_map.mp hb
    have := stuck_len h
    have := (mem_lev.mp hp).len
    have := List.mem_range.mp hi
    omega
/-! ### all rounds -/
def fstLot (s : Sd) : List Nat → Int → List Nat
  | [], _ => []
  | o :: r, t => if (wantOf s o : Int) ≤ t then o :: fstLot s r (t - wantOf s o) else []
theorem fstLot_sub {s : Sd} : ∀ {r : List Nat} {t : Int}, (fstLot s r t).Sublist r
  | [], _ => List.Sublist.refl _
  | o :: r, t => by
    unfold fstLot
    split
    · exact fstLot_sub.cons_cons _
    · exact List.nil_sublist _
def firstLot (b : Bk) (s : Sd) (x : Sta) : List Nat := if b.woken = .given then fstLot s (s.row.take (mostOf b s x)) s.tok else s.row.take (mostOf b s x)
theorem firstLot_sub {b : Bk} {s : Sd} {x : Sta} : (firstLot b s x).Sublist s.row := by
  unfold firstLot
  split
  · exact fstLot_sub.trans (List.take_sublist _ _)
  · exact List.take_sublist _ _
def RLot (b : Bk) (s : Sd) (x : Sta) (l : List Nat) : Prop :=
  (b.order = true ∧ l = firstLot b s x) ∨ (b.order = false ∧ b.woken = .given ∧ GRound s (mostOf b s x) l) ∨ (b.order = false ∧ b.woken ≠ .given ∧ AscLot (min (mostOf b s x) s.row.length) s.row l)
theorem RLot.lot {b : Bk} {s : Sd} (w : WF s) {x : Sta} {l : List Nat} (h : RLot b s x l) : l.Nodup ∧ ∀ o ∈ l, o ∈ s.row := by
  rcases h with ⟨_, rfl⟩ | ⟨_, _, g⟩ | ⟨_, _, a⟩
  · exact ⟨w.nd.sublist firstLot_sub, fun o ho => firstLot_sub.subset ho⟩
  · exact ⟨g.nd, g.sub⟩
  · exact ⟨a.asc.imp fun h => by omega, a.sub⟩
structure Rnds (b : Bk) (s : Sd) (x : Sta) (ls : List (List Nat)) : Prop where
  nd : ls.Nodup
  mem : ∀ l, l ∈ ls ↔ RLot b s x l
theorem Rnds.perm {b : Bk} {s : Sd} {x : Sta} {ls ms : List (List Nat)} (h : Rnds b s x ls) (k : Rnds b s x ms) : ls.Perm ms := (List.perm_ext_iff_of_nodup h.nd k.nd).mpr fun l => (h.mem l).trans (k.mem l).symm
open Classical in
noncomputable def lotsOf (b : Bk) (s : Sd) (x : Sta) : List (List Nat) := if h : ∃ ls, Rnds b s x ls then srt h.choose else []
theorem lotsOf_eq {b : Bk} {s : Sd} {x : Sta} {ls : List (List Nat)} (h : Rnds b s x ls) : srt ls = lotsOf b s x := by
  have e : ∃ ls, Rnds b s x ls := ⟨ls, h⟩
  unfold lotsOf
  rw [dif_pos e]
  exact srt_congr (h.perm e.choose_spec)
theorem lotsOf_mem {b : Bk} {s : Sd} {x : Sta} {ls : List (List Nat)} (h : Rnds b s x ls) {l : List Nat} : l ∈ lotsOf b s x ↔ RLot b s x l := by
  rw [← lotsOf_eq h, (srt_perm ls).mem_iff]
  exact h.mem l
/-- rounds there always are -/
theorem rnds_ex (b : Bk) {s : Sd} (w : WF s) (x : Sta) : ∃ ls, Rnds b s x ls ∧ ls.length ≤ 7000 ∧ ls ≠ [] := by
  have r5 := w.r5
  cases ho : b.order with
  | true =>
    refine ⟨[firstLot b s x], ⟨by simp, fun l => ?_⟩, by simp, by simp⟩
    rw [List.mem_singleton]
    constructor
    · exact fun e => .inl ⟨ho, e⟩
    · rintro (⟨_, e⟩ | ⟨h, _⟩ | ⟨h, _⟩)
      · exact e
      · rw [ho] at h; cases h
      · rw [ho] at h; cases h
  | false =>
    by_cases hg : b.woken = .given
    · have R : Rnds b s x (givB s (min (mostOf b s x) s.row.length)) := by
        refine ⟨nd_givB w.nd _, fun l => ?_⟩
        rw [mem_givB, GRound.min w.nd]
        constructor
        · exact fun g => .inr (.inl ⟨ho, hg, g⟩)
        · rintro (⟨h, _⟩ | ⟨_, _, g⟩ | ⟨_, h, _⟩)
          · rw [ho] at h; cases h
          · exact g
          · exact absurd hg h
      have m5 : min (mostOf b s x) s.row.length ≤ 5 := Nat.le_trans (Nat.min_le_right _ _) r5
      refine ⟨_, R, ?_, ?_⟩
      · generalize min (mostOf b s x) s.row.length = m at m5
        have l1 : ∀ i, (stuckG s (lev s i)).length ≤ 5 ^ i := fun i => by
          unfold stuckG
          rw [List.length_map]
          exact Nat.le_trans (List.length_filter_le _ _) (len_lev r5 i)
        have l2 : ∀ k, ((List.range k).flatMap fun i => stuckG s (lev s i)).length ≤ 5 ^ k := fun k => by
          induction k with
          | zero => simp
          | succ k ih =>
            rw [List.range_succ, List.flatMap_append, List.length_append, List.flatMap_cons, List.flatMap_nil, List.append_nil, Nat.pow_succ]
            have := l1 k
            omega
        unfold givB
        rw [List.length_append, List.length_map]
        have a1 := l2 m
        have a2 := len_lev (s := s) r5 m
        have a3 : 5 ^ m ≤ 5 ^ 5 := Nat.pow_le_pow_right (by omega) m5
        omega
      · intro e
        have hnd : ∀ l, ¬ GRound s (mostOf b s x) l := fun l g => by
          have : l ∈ givB s (min (mostOf b s x) s.row.length) := (R.mem l).mpr (.inr (.inl ⟨ho, hg, g⟩))
          rw [e] at this
          simp at this
        -- a longest path is a round
        have : ∀ k l, GPath s (mostOf b s x) l → mostOf b s x - l.length ≤ k → False := fun k => by
          induction k with
          | zero => exact fun l p hk => hnd l ⟨p, .inl (by have := p.le; omega)⟩
          | succ k ih =>
            intro l p hk
            by_cases z : l.length = mostOf b s x
            · exact hnd l ⟨p, .inl z⟩
            · by_cases q : ∃ o ∈ s.row, o ∉ l ∧ (wantOf s o : Int) ≤ s.tok - wantsOf s l
              · obtain ⟨o, h1, h2, h3⟩ := q
                refine ih (l ++ [o]) ⟨?_, fun z hz => ?_, by rw [List.length_append, List.length_singleton]; have := p.le; omega, .inr ?_⟩ (by rw [List.length_append, List.length_singleton]; have := p.le; omega)
                · exact List.nodup_append.mpr ⟨p.nd, by simp, fun a ha c hc e => by
                    rw [List.mem_singleton.mp hc] at e
                    subst e
                    exact h2 ha⟩
                · rcases List.mem_append.mp hz with hz | hz
                  · exact p.sub z hz
                  · rw [List.mem_singleton.mp hz]; exact h1
                · rw [wantsOf_app, wantsOf_one]; omega
              · refine hnd l ⟨p, .inr fun o ho hn => ?_⟩
                exact Int.not_le.mp fun z => q ⟨o, ho, hn, z⟩
        exact this _ [] ⟨List.nodup_nil, fun o ho => by simp at ho, Nat.zero_le _, .inl rfl⟩ (Nat.le_refl _)
    · have hn : (srtN s.row).Nodup := (srtN_perm _).nodup_iff.mpr w.nd
      have hl : (srtN s.row).length = s.row.length := (srtN_perm _).length_eq
      have m5 : min (mostOf b s x) s.row.length ≤ 5 := Nat.le_trans (Nat.min_le_right _ _) r5
      refine ⟨chl (srtN s.row) (min (mostOf b s x) s.row.length), ⟨nd_chl hn _, fun l => ?_⟩, ?_, ?_⟩
      · rw [mem_chl, AscLot.congr fun o => (srtN_perm s.row).mem_iff]
        constructor
        · exact fun g => .inr (.inr ⟨ho, hg, g⟩)
        · rintro (⟨h, _⟩ | ⟨_, h, _⟩ | ⟨_, _, g⟩)
          · rw [ho] at h; cases h
          · exact absurd h hg
          · exact g
      · have a1 := len_chl (hs := srtN s.row) (by omega) (min (mostOf b s x) s.row.length)
        have a3 : 5 ^ (min (mostOf b s x) s.row.length) ≤ 5 ^ 5 := Nat.pow_le_pow_right (by omega) m5
        omega
      · refine List.ne_nil_of_mem (a := (srtN s.row).take (min (mostOf b s x) s.row.length)) (mem_chl.mpr ⟨?_, (srtN_asc w.nd).sublist (List.take_sublist _ _), fun o h => List.mem_of_mem_take h⟩)
        rw [List.length_take, hl]
        omega
theorem lots_mem {b : Bk} {s : Sd} (w : WF s) {x : Sta} {l : List Nat} : l ∈ lotsOf b s x ↔ RLot b s x l := by
  obtain ⟨ls, R, _⟩ := rnds_ex b w x
  exact lotsOf_mem R
theorem lots_few {b : Bk} {s : Sd} (w : WF s) {x : Sta} : (lotsOf b s x).length ≤ 7000 ∧ lotsOf b s x ≠ [] := by
  obtain ⟨ls, R, h, ne⟩ := rnds_ex b w x
  rw [← lotsOf_eq R]
  refine ⟨by rw [(srt_perm ls).length_eq]; exact h, fun e => ne ?_⟩
  have := (srt_perm ls).length_eq
  rw [e] at this
  exact List.length_eq_zero_iff.mp this.symm
/-! ### all moves -/
def wishes (x : Sta) : Bool := match x.left with
  | d :: _ => decide (d.w = .wish)
  | [] => false
noncomputable def staMoves (b : Bk) (s : Sd) (h : Nat) (x : Sta) : List (Nat × Mv) :=
  (if leaver x.ph = true ∧ wishes x = true then [(h, Mv.away)] else []) ++
  (if caller x.ph = true then (lotsOf b s x).map fun l => (h, Mv.call l) else if x.ph ≠ .asleep ∧ (x.ph ≠ .free ∨ x.left ≠ []) then [(h, Mv.on)] else [])
noncomputable def handMoves (b : Bk) (s : Sd) (h : Nat) : List (Nat × Mv) := match s.sts[h]? with
  | none => []
  | some x => staMoves b s h x
noncomputable def menu (b : Bk) (s : Sd) : List (Nat × Mv) := (List.range s.sts.length).flatMap (handMoves b s)
theorem mem_menu {b : Bk} {s : Sd} {m : Nat × Mv} : m ∈ menu b s ↔ m ∈ handMoves b s m.1 := by
  unfold menu
  rw [List.mem_flatMap]
  have hand : ∀ {h}, m ∈ handMoves b s h → m.1 = h ∧ h < s.sts.length := fun {h} hm => by
    unfold handMoves at hm
    split at hm
    · simp at hm
    · rename_i x e
      refine ⟨?_, (List.getElem?_eq_some_iff.mp e).1⟩
      unfold staMoves at hm
      rcases List.mem_append.mp hm with hm | hm
      · split at hm
        · rw [List.mem_singleton.mp hm]
        · simp at hm
      · split at hm
        · obtain ⟨l, _, rfl⟩ := List.mem_map.mp hm
          rfl
        · split at hm
          · rw [List.mem_singleton.mp hm]
          · simp at hm
  constructor
  · rintro ⟨h, _, hm⟩
    rw [(hand hm).1]
    exact hm
  · intro hm
    exact ⟨m.1, List.mem_range.mpr (hand hm).2, hm⟩
theorem menu_legal {b : Bk} {s : Sd} (w : WF s) {m : Nat × Mv} (h : m ∈ menu b s) : LegalW s m := by
  have hm := mem_menu.mp h
  unfold handMoves at hm
  split at hm
  · simp at hm
  · rename_i x e
    have so := w.st m.1 x e
    unfold staMoves at hm
    obtain ⟨hh, v⟩ := m
    refine ⟨x, e, ?_⟩
    rcases List.mem_append.mp hm with hm | hm
    · split at hm
      · rename_i q
        have := List.mem_singleton.mp hm
        cases this
        refine ⟨?_, q.1, ?_⟩
        · cases hp : x.ph <;> rw [hp] at q <;> first | rfl | (simp [leaver] at q)
        · have q2 := q.2
          unfold wishes at q2
          split at q2
          · rename_i d r el
            exact ⟨d, r, el, of_decide_eq_true q2⟩
          · cases q2
      · simp at hm
    · split at hm
      · rename_i q
        obtain ⟨l, hl, e2⟩ := List.mem_map.mp hm
        cases e2
        exact ⟨q, ((lots_mem w).mp hl).lot w⟩
      · rename_i q
        split at hm
        · rename_i q2
          have := List.mem_singleton.mp hm
          cases this
          refine ⟨by rw [Bool.not_eq_true] at q; exact q, ?_, q2.1⟩
          by_cases z : x.ph = .free
          · exact q2.2.resolve_left fun n => n z
          · exact so.ne z
        · simp at hm
theorem doMv_wfV {b : Bk} {s : Sd} (w : WF s) {m : Nat × Mv} (l : LegalW s m) : WF (doMv b s m) := by
  obtain ⟨x, e, l⟩ := l
  unfold doMv
  rw [e]
  obtain ⟨h, mv⟩ := m
  cases mv with
  | on =>
    obtain ⟨d, r, el⟩ := List.exists_cons_of_ne_nil l.2.1
    dsimp only
    rw [el]
    exact goOn_wf w e el
  | away =>
    obtain ⟨d, r, el, hw⟩ := l.2.2
    dsimp only
    rw [el]
    exact goAway_wf w e el (by rw [hw]; decide)
  | call lot => exact goCall_wf w e l.1 l.2.1 l.2.2
theorem doMv_tokV {b : Bk} {s : Sd} (w : WF s) {m : Nat × Mv} (l : LegalW s m) : s.tok - 20 ≤ (doMv b s m).tok ∧ (doMv b s m).tok ≤ s.tok + 20 := by
  obtain ⟨x, e, l⟩ := l
  unfold doMv
  rw [e]
  obtain ⟨h, mv⟩ := m
  have dl : ∀ d r, x.left = d :: r → (d.n : Int) ≤ 4 := fun d r el => by
    have := ((w.st h x e).dd d (by rw [el]; exact List.mem_cons_self)).2
    omega
  cases mv with
  | on =>
    obtain ⟨d, r, el⟩ := List.exists_cons_of_ne_nil l.2.1
    have := dl d r el
    dsimp only
    rw [el]
    unfold goOn
    dsimp only
    split
    · unfold onFree
      split
      · dsimp only; split <;> omega
      · split <;> dsimp only <;> omega
    · dsimp only; omega
    · unfold onNoted
      split
      · dsimp only; omega
      · split <;> dsimp only <;> omega
    · dsimp only; omega
    · unfold onWoken
      split
      · dsimp only; omega
      · split
        · dsimp only; omega
        · split
          · dsimp only; omega
          · unfold putBack; dsimp only; omega
    · dsimp only; omega
    · omega
  | away =>
    obtain ⟨d, r, el, hw⟩ := l.2.2
    have := dl d r el
    dsimp only
    rw [el]
    unfold goAway
    dsimp only
    split <;> omega
  | call lot =>
    have k := callAll_tok (b := b) w l.2.1 l.2.2
    have ll : lot.length ≤ 5 := Nat.le_trans (l.2.1.length_le_of_subset l.2.2) w.r5
    dsimp only
    unfold goCall
    dsimp only
    split
    · unfold putBack; dsimp only; omega
    · split <;> dsimp only <;> omega
theorem staMoves_len {b : Bk} {s : Sd} (w : WF s) {h : Nat} {x : Sta} : (staMoves b s h x).length ≤ 7001 := by
  have := (lots_few (b := b) w (x := x)).1
  unfold staMoves
  rw [List.length_append]
  split <;> split <;> (try split) <;> simp <;> omega
theorem handMoves_len {b : Bk} {s : Sd} (w : WF s) {h : Nat} : (handMoves b s h).length ≤ 7001 := by
  unfold handMoves
  split
  · simp
  · exact staMoves_len w
theorem menu_len {b : Bk} {s : Sd} (w : WF s) : (menu b s).length ≤ 36000 := by
  have := flat_len (f := handMoves b s) (n := 7001) (l := List.range s.sts.length) fun h _ => handMoves_len w
  rw [List.length_range] at this
  have := w.n5
  have : s.sts.length * 7001 ≤ 5 * 7001 := Nat.mul_le_mul_right _ this
  unfold menu
  omega
end Cl

set_option Elab.async false
set_option linter.all false
set_option autoImplicit false
set_option maxRecDepth 100000
set_option maxHeartbeats 4000000
/-! the clean layer, part ZP: tuple * 1 -/
namespace Cl
open PySem PySem.Spec PyProof.Rows L2
theorem tuple_mulW1 (l : Addr) (items : Array Value) (n : Nat) (dd : Option Addr) (sl : Array (Option Value)) (u : Tok) :
    Meets (Builtin.«tuple.__mul__» ⟨[.ref l, .int 1 u], []⟩) (fun _ R s => s.heap.get? l = some { cls := .type "tuple", dict := dd, data := .seq items n, slots := sl } ∧
      R (.ok (.ret (Value.ref l))) s) :=
  .of_wp fun prog w A R s h => by
    obtain ⟨hp, g, d, tk, os⟩ := s
    obtain ⟨hl, h⟩ := h
    have f1 := AutoSeq1.idx_int
    wp_walk using wpAny_loadPart' hl
    repeat (first
      | (refine wpAny_ite_false (decide_eq_false (by decide)) ?_; wp_walk using wpAny_loadPart' hl)
      | (refine wpAny_ite_true (decide_eq_true (by simp)) ?_; wp_walk using wpAny_loadPart' hl))
    exact ⟨_, rfl, h⟩
def rRepT1 (K : PySem.W.Frag) : R2 := fun x y H Q => ∃ l xs, x = .ref l ∧ y = .int 1 ∧ SqT K H l xs ∧ Q (.ref l) H
section
variable {X : Cx}
theorem op_repT1 : OpR X (binaryOp .Mult) (rRepT1 X.K) := by
  intro pins s σ H x y v u Q I rx ry h
  obtain ⟨l, xs, rfl, rfl, hT, q⟩ := h
  cases rx
  obtain ⟨t, rfl⟩ := ry
  obtain ⟨its, r, ⟨⟨cls, dd, data, sl⟩, ho, hc, n, hd⟩, hs⟩ := I.tuple hT
  simp only at hc hd
  subst hc hd
  refine wpAny_binaryOp_repeat_ref (T := "tuple") (U := "int") (by decide) ⟨_, ho, rfl⟩ (fun s' => typeIs_int s' 1 t) noFill_tuple_mul F.fills_int_mul F.slot_int_rmul repeat_tuple F.slot_int_index.lookup
    (call_meets F.slot_int_rmul (typeIs_int s 1 t) F.entry_int_rmul (F.args_int_rmul_2 _ _) (int_rmul_tuple 1 t l its.toArray n dd sl)
      ⟨ho, rfl, ⟨_, ho, rfl⟩, call_meets F.slot_tuple_mul ⟨_, ho, rfl⟩ F.entry_tuple_mul (F.args_tuple_mul_2 _ _) (tuple_mulW1 l its.toArray n dd sl t) ⟨ho, ?_⟩⟩)
  exact ⟨.ref l, _, I.tok _, rfl, q⟩
end
def mulB : D → D → Option D
  | .tuple a, .int k => if k = 1 then some (.tuple a) else mulF (.tuple a) (.int k)
  | a, b => mulF a b
def rMulB (K : PySem.W.Frag) : R2 := fun x y H Q => rMulA K x y H Q ∨ rRepT1 K x y H Q
theorem op_mulB {X : Cx} : OpR X (binaryOp .Mult) (rMulB X.K) := op_mulA.or op_repT1
theorem p2_mulB {K : PySem.W.Frag} : P2 K (rMulB K) mulB (fun d => d) := fun H G v1 v2 d1 d2 d Q s r1 r2 e q => by
  have old : mulF d1 d2 = some d → rMulB K v1 v2 H Q := fun e => .inl (p2_mul H G v1 v2 d1 d2 d Q s r1 r2 e q)
  cases d1 with
  | tuple a =>
    cases d2 with
    | int k =>
      change (if k = 1 then some (PyData.tuple a) else mulF (PyData.tuple a) (PyData.int k)) = some d at e
      by_cases z : k = 1
      · rw [if_pos z] at e
        cases e
        cases r1 with
        | tup h1 h2 =>
          cases r2 with
          | int j =>
            subst z
            exact .inr ⟨_, _, rfl, rfl, s.seq h1, q _ H G (New.refl s) (.tup h1 h2)⟩
      · rw [if_neg z] at e
        exact old e
    | _ => exact old e
  | _ => exact old e
end Cl

set_option Elab.async false
set_option linter.all false
set_option autoImplicit false
set_option maxRecDepth 100000
set_option maxHeartbeats 400000
/-! the clean layer, part ZQ: dict(pairs), its length -/
namespace Cl
open PySem PySem.Spec PyProof.Rows L2
open MO
def pairK : D → Option (Key × D)
  | .tuple [k, v] => (keyOf k).map fun k => (k, v)
  | _ => none
def pairsK : List D → Option (List (Key × D))
  | [] => some []
  | d :: ds => match pairK d, pairsK ds with
    | some p, some ps => some (p :: ps)
    | _, _ => none
def putD (kds : List (Key × D)) (k : Key) (d : D) : List (Key × D) := if (kds.any fun kv => decide (kv.1 = k)) = true then kds.map (fun kv => if kv.1 = k then (kv.1, d) else kv) else kds ++ [(k, d)]
def mergeD (kds more : List (Key × D)) : List (Key × D) := more.foldl (fun acc kd => putD acc kd.1 kd.2) kds
def dictOf (kds : List (Key × D)) : D := .dict (kds.map fun p => (kD p.1, p.2))
def dictF : List D → Option D
  | [.list ds] => (pairsK ds).map fun kds => dictOf (mergeD [] kds)
  | _ => none
section
variable {K : PySem.W.Frag} {G : Hp}
abbrev RpP (K : PySem.W.Frag) (G : Hp) : List (Key × V) → List (Key × D) → Prop := Paired fun p q => p.1 = q.1 ∧ Rp K G p.2 q.2
theorem RpP.any {kvs : List (Key × V)} {kds : List (Key × D)} (r : RpP K G kvs kds) (k : Key) : (kvs.any fun kv => decide (kv.1 = k)) = kds.any fun kv => decide (kv.1 = k) := by
  induction r with
  | nil => rfl
  | cons h _ ih => rw [List.any_cons, List.any_cons, ih, h.1]
theorem RpP.repl {kvs : List (Key × V)} {kds : List (Key × D)} (r : RpP K G kvs kds) (k : Key) {v : V} {d : D} (rv : Rp K G v d) : RpP K G (kvs.map fun kv => if kv.1 = k then (kv.1, v) else kv) (kds.map fun kv => if kv.1 = k then (kv.1, d) else kv) := by
  induction r with
  | nil => exact .nil
  | @cons a b l1 l2 h _ ih =>
    rw [List.map_cons, List.map_cons]
    refine .cons ?_ ih
    by_cases z : a.1 = k
    · rw [if_pos z, if_pos (by rw [← h.1]; exact z)]
      exact ⟨h.1, rv⟩
    · rw [if_neg z, if_neg (by rw [← h.1]; exact z)]
      exact h
theorem RpP.put {kvs : List (Key × V)} {kds : List (Key × D)} (r : RpP K G kvs kds) (k : Key) {v : V} {d : D} (rv : Rp K G v d) : RpP K G (putK kvs k v) (putD kds k d) := by
  unfold putK putD
  rw [r.any]
  split
  · exact r.repl k rv
  · exact Paired.snoc r ⟨rfl, rv⟩
theorem RpP.merge : ∀ {more : List (Key × V)} {mores : List (Key × D)} {kvs : List (Key × V)} {kds : List (Key × D)}, RpP K G more mores → RpP K G kvs kds → RpP K G (mergeK kvs more) (mergeD kds mores)
  | _, _, _, _, .nil, r => r
  | a :: _, b :: _, _, _, .cons h t, r => by
    have := RpP.merge t (r.put a.1 h.2)
    unfold mergeK mergeD at this ⊢
    rw [List.foldl_cons, List.foldl_cons, ← h.1]
    exact this
theorem RpP.toK : ∀ {kvs : List (Key × V)} {kds : List (Key × D)}, RpP K G kvs kds → RpK K G kvs (kds.map fun p => (kD p.1, p.2))
  | _, _, .nil => .nil
  | (k, v) :: _, (k2, d) :: _, .cons h t => by
    have e : k = k2 := h.1
    subst e
    exact .cons h.2 (RpP.toK t)
theorem RpP.sub {G' : Hp} (e : Sub G G') : ∀ {kvs : List (Key × V)} {kds : List (Key × D)}, RpP K G kvs kds → RpP K G' kvs kds
  | _, _, .nil => .nil
  | _, _, .cons h t => .cons ⟨h.1, h.2.sub e⟩ (RpP.sub e t)
theorem keyOf_v {k : D} {key : Key} {v : V} (e : keyOf k = some key) (r : Rp K G v k) : v = kV key := by
  cases r <;> cases e <;> rfl
theorem pairs_rp : ∀ {ds : List D} {us : List V} {kds : List (Key × D)}, RpL K G us ds → pairsK ds = some kds → ∃ (ps : List Addr) (kvs : List (Key × V)), us = ps.map V.ref ∧ Paired (fun p (kv : Key × V) => SqF K G p [kV kv.1, kv.2]) ps kvs ∧ RpP K G kvs kds
  | [], us, kds, r, e => by
    cases r
    cases e
    exact ⟨[], [], rfl, .nil, .nil⟩
  | d :: ds, us, kds, r, e => by
    cases r with
    | cons r1 r2 =>
      rw [pairsK] at e
      split at e
      · rename_i p ps' e1 e2
        cases e
        obtain ⟨ps, kvs, rfl, hp, hr⟩ := pairs_rp r2 e2
        unfold pairK at e1
        split at e1
        · rename_i k v
          cases q : keyOf k with
          | none => rw [q] at e1; cases e1
          | some key =>
            rw [q] at e1
            cases e1
            cases r1 with
            | tup h1 h2 =>
              cases h2 with
              | cons a1 a2 =>
                cases a2 with
                | cons b1 b2 =>
                  cases b2
                  have := keyOf_v q a1
                  subst this
                  exact ⟨_ :: ps, (key, _) :: kvs, rfl, .cons h1 hp, .cons ⟨rfl, b1⟩ hr⟩
        · cases e1
      · cases e
theorem Paired.imp' {α β : Type} {F F' : α → β → Prop} (h : ∀ a b, F a b → F' a b) : ∀ {l : List α} {m : List β}, Paired F l m → Paired F' l m
  | _, _, .nil => .nil
  | _, _, .cons a b => .cons (h _ _ a) (Paired.imp' h b)
end
theorem pc_dict {K : PySem.W.Frag} : PC K (fun xs H Q => ∃ (a : Addr) (ps : List Addr) (kvs : List (Key × V)), xs = [.ref a] ∧ SqL K H a (ps.map V.ref) ∧ Paired (fun p (kv : Key × V) => SqT K H p [kV kv.1, kv.2]) ps kvs ∧
    ∀ p, H p = none → Q (.ref p) (upd H p (.dK (mergeK [] kvs)))) dictF (fun d => d) := fun H G vs ds d Q s rl e q => by
  match ds, rl, e with
  | [.list xs], .cons (.lst h1 h2) .nil, e =>
    change (pairsK xs).map (fun kds => dictOf (mergeD [] kds)) = some d at e
    cases z : pairsK xs with
    | none => rw [z] at e; cases e
    | some kds =>
      rw [z] at e
      cases e
      obtain ⟨ps, kvs, rfl, hp, hr⟩ := pairs_rp h2 z
      refine ⟨_, ps, kvs, rfl, SqL.of (s _ _ h1), Paired.imp' (fun _ _ h => s.seq h) hp, fun p hn => ?_⟩
      refine q _ _ _ (New.laid s hn) ?_
      have g : Sub G (upd G p (.dK (mergeK [] kvs))) := sub_upd (none_of_sub s hn)
      exact .dct upd_same ((hr.merge .nil).sub g).toK
def lenDF : List D → Option Int
  | [.dict kvs] => some (kvs.length : Nat)
  | _ => none
theorem cr_lenD {X : Cx} : CallR X (.builtin "len") (fun xs H Q => ∃ (a : Addr) (kvs : List (Key × V)), xs = [.ref a] ∧ Rd H a (.dK kvs) ∧ Q (.int kvs.length) H) := by
  intro pins s σ H xs us Q I r q
  obtain ⟨a, kvs, ex, hr, q⟩ := q
  subst ex
  obtain ⟨u, eu, rx⟩ := vals1 r
  subst eu
  cases rx
  exact d_len I hr fun t s' I' => ⟨.int kvs.length, H, I', ⟨t, rfl⟩, q⟩
theorem pc_lenD {K : PySem.W.Frag} : PC K (fun xs H Q => ∃ (a : Addr) (kvs : List (Key × V)), xs = [.ref a] ∧ Rd H a (.dK kvs) ∧ Q (.int kvs.length) H) lenDF PyData.int := fun H G vs ds d Q s rl e q => by
  match ds, rl, e with
  | [.dict xs], .cons (.dct h1 h2) .nil, e =>
    cases e
    refine ⟨_, _, rfl, .inl (s _ _ h1), ?_⟩
    rw [h2.length]
    exact q _ H G (New.refl s) (.int _)
end Cl

set_option Elab.async false
set_option linter.all false
set_option autoImplicit false
set_option maxRecDepth 100000
set_option maxHeartbeats 400000
/-! the clean layer, part ZR: what can be shown, dicts too; moves, books, programs shown -/
namespace Cl
open PySem PySem.Spec PyProof.Rows L2
open MO
structure RepD (k n : Nat) (d : D) : Prop where
  sh : d.showable = true
  dp : d.depth ≤ k
  ln : d.shown.length ≤ n
theorem Rep.toD {k n : Nat} {d : D} (h : Rep k n d) : RepD k n d := ⟨h.sh, h.dp, h.ln⟩
theorem RepD.mono {k n k2 n2 : Nat} {d : D} (h : RepD k n d) (h1 : k ≤ k2) (h2 : n ≤ n2) : RepD k2 n2 d := ⟨h.sh, Nat.le_trans h.dp h1, Nat.le_trans h.ln h2⟩
theorem RepD.all {k n : Nat} : ∀ {ds : List D}, (∀ d ∈ ds, RepD k n d) → PyData.showableAll ds = true ∧ PyData.depthAll ds ≤ k ∧ ((PyData.shownAll ds).map (·.length)).sum ≤ ds.length * n ∧ (PyData.shownAll ds).length = ds.length
  | [], _ => ⟨rfl, Nat.zero_le _, Nat.zero_le _, rfl⟩
  | d :: ds, h => by
    have h1 := h d List.mem_cons_self
    obtain ⟨a, c, e, f⟩ := RepD.all fun x hx => h x (List.mem_cons_of_mem _ hx)
    refine ⟨?_, ?_, ?_, ?_⟩
    · rw [PyData.showableAll, h1.sh, a]; rfl
    · rw [PyData.depthAll]; have := h1.dp; omega
    · rw [PyData.shownAll, List.map_cons, List.sum_cons, List.length_cons, Nat.succ_mul]; have := h1.ln; omega
    · rw [PyData.shownAll, List.length_cons, List.length_cons, f]
theorem RepD.tup {k n : Nat} {ds : List D} (h : ∀ d ∈ ds, RepD k n d) : RepD (k + 1) (ds.length * (n + 2) + 3) (.tuple ds) := by
  obtain ⟨a, c, e, f⟩ := RepD.all h
  have z := tupleText_len_le (PyData.shownAll ds)
  refine ⟨by rw [PyData.showable]; exact a, by rw [PyData.depth]; omega, ?_⟩
  rw [PyData.shown, Nat.mul_add]
  omega
theorem RepD.lst {k n : Nat} {ds : List D} (h : ∀ d ∈ ds, RepD k n d) : RepD (k + 1) (ds.length * (n + 2) + 3) (.list ds) := by
  obtain ⟨a, c, e, f⟩ := RepD.all h
  have z := listText_len_le (PyData.shownAll ds)
  refine ⟨by rw [PyData.showable]; exact a, by rw [PyData.depth]; omega, ?_⟩
  rw [PyData.shown, Nat.mul_add]
  omega
theorem RepD.dct0 : RepD 1 10 (.dict []) := by
  refine ⟨rfl, by decide, ?_⟩
  decide +kernel
theorem RepD.ok {k n : Nat} {d : D} (h : RepD k n d) (h1 : k ≤ 64) (h2 : n ≤ 16000000) : ∃ s, reprD [d] = some s := by
  have big := sizeLine_eq
  refine ⟨d.shown, if_pos ?_⟩
  unfold reprOkD
  rw [Bool.and_eq_true, Bool.and_eq_true]
  exact ⟨⟨h.sh, decide_eq_true (Nat.le_trans h.dp h1)⟩, decide_eq_true (by have := h.ln; omega)⟩
theorem rep_menu' {b : Bk} {s : Sd} (w : WF s) {m : Nat × Mv} (h : m ∈ menu b s) : Rep 1 200 (eMv m) := by
  obtain ⟨x, e, l⟩ := menu_legal w h
  obtain ⟨a, v⟩ := m
  have a5 : a < 5 := by have := (List.getElem?_eq_some_iff.mp e).1; have := w.n5; omega
  have r0 : Rep 0 20 (eH a) := (rep_eH (h := a) (by omega)).mono (by omega) (by omega)
  have rs : ∀ y : Str, wordy 20 y = true → Rep 0 20 (.str y) := fun y hy => Rep.str hy
  have two : ∀ y : Str, wordy 20 y = true → Rep 1 200 (.tuple [eH a, .str y]) := fun y hy => by
    refine (Rep.tup (k := 0) (n := 20) (ds := [eH a, .str y]) fun d hd => ?_).mono (by omega) (by show 2 * 22 + 3 ≤ 200; omega)
    rcases List.mem_cons.mp hd with rfl | hd
    · exact r0
    · rw [List.mem_singleton.mp hd]; exact rs _ hy
  cases v with
  | on => exact two "on" (by decide +kernel)
  | away => exact two "away" (by decide +kernel)
  | call lot =>
    have l5 := lot_len w l.2.1 l.2.2
    refine (Rep.tup (k := 0) (n := 20) (ds := eH a :: .str "call" :: lot.map eH) fun d hd => ?_).mono (by omega) (by rw [List.length_cons, List.length_cons, List.length_map]; omega)
    rcases List.mem_cons.mp hd with rfl | hd
    · exact r0
    · rcases List.mem_cons.mp hd with rfl | hd
      · exact rs _ (by decide +kernel)
      · obtain ⟨o, ho, rfl⟩ := List.mem_map.mp hd
        have := row_lt w (l.2.2 o ho)
        exact (rep_eH (h := o) (by omega)).mono (by omega) (by omega)
theorem rep_menu {b : Bk} {s : Sd} (w : WF s) {m : Nat × Mv} (h : m ∈ menu b s) : Rep 1 300 (eMv m) := (rep_menu' w h).mono (by omega) (by omega)
theorem rep_bkT (b : Bk) : Rep 1 500 (eBk b) := by
  have r : ∀ x : Str, wordy 40 x = true → Rep 0 40 (.str x) := fun x hx => Rep.str hx
  refine (Rep.tup (k := 0) (n := 40) (ds := [.str (noteS b.note), .str (callS b.call), .str (putS b.put), .str b.many.s, .str b.woken.s, .str (failS b.fails), .str b.pas.s, .str (quitS b.quits), .str (comS b.comers), .str (ordS b.order)]) fun d hd => ?_).mono (by omega) (by show 10 * 42 + 3 ≤ 500; omega)
  simp only [List.mem_cons, List.not_mem_nil, or_false] at hd
  rcases hd with rfl | rfl | rfl | rfl | rfl | rfl | rfl | rfl | rfl | rfl
  · exact r _ (by cases b.note <;> decide +kernel)
  · exact r _ (by cases b.call <;> decide +kernel)
  · exact r _ (by cases b.put <;> decide +kernel)
  · exact r _ (by cases b.many <;> decide +kernel)
  · exact r _ (by cases b.woken <;> decide +kernel)
  · exact r _ (by cases b.fails <;> decide +kernel)
  · exact r _ (by cases b.pas <;> decide +kernel)
  · exact r _ (by cases b.quits <;> decide +kernel)
  · exact r _ (by cases b.comers <;> decide +kernel)
  · exact r _ (by cases b.order <;> decide +kernel)
theorem rep_plT {plan : List (List Deed)} (h5 : plan.length ≤ 5) (hr : ∀ r ∈ plan, r.length ≤ 8 ∧ ∀ d ∈ r, d.n ≤ 4) : Rep 3 1500 (.tuple (plan.map eLf)) := by
  refine (Rep.tup (k := 2) (n := 290) (ds := plan.map eLf) fun d hd => ?_).mono (by omega) (by rw [List.length_map]; have : plan.length * (290 + 2) ≤ 5 * 292 := Nat.mul_le_mul_right _ h5; omega)
  obtain ⟨r, hm, rfl⟩ := List.mem_map.mp hd
  exact rep_lf (hr r hm).1 (hr r hm).2
end Cl

set_option Elab.async false
set_option linter.all false
set_option autoImplicit false
set_option maxRecDepth 100000
set_option maxHeartbeats 1000000
/-! the clean layer, part ZS: what holds of all standings that come: tokens, marks of those asleep -/
namespace Cl
open PySem PySem.Spec PyProof.Rows L2
open MO
theorem wantOf_one {b : Bk} {s : Sd} {o h : Nat} : wantOf (callOne b s o) h = wantOf s h := by
  unfold callOne
  split
  · rfl
  · rename_i y e
    unfold wantOf
    show (match (s.sts.set o _)[h]? with | some x => x.want | none => 0) = _
    rw [set_get e]
    by_cases z : h = o
    · subst z
      rw [if_pos rfl, e]
      try rfl
    · rw [if_neg z]
      try rfl
theorem wantsOf_one' {b : Bk} {s : Sd} {o : Nat} {l : List Nat} : wantsOf (callOne b s o) l = wantsOf s l := by
  unfold wantsOf
  congr 1
  exact List.map_congr_left fun h _ => wantOf_one
theorem callAll_tokX {b : Bk} : ∀ {lot : List Nat} {s : Sd}, (callAll b s lot).tok = s.tok - (if b.woken = .given then ((wantsOf s lot : Nat) : Int) else 0)
  | [], s => by
    show s.tok = _
    rw [wantsOf_nil]
    split <;> simp
  | o :: l, s => by
    have e : callAll b s (o :: l) = callAll b (callOne b s o) l := rfl
    rw [e, callAll_tokX (lot := l), wantsOf_one', wantsOf_cons]
    have : (callOne b s o).tok = s.tok - (if b.woken = .given then ((wantOf s o : Nat) : Int) else 0) := by
      unfold callOne wantOf
      split
      · rename_i e
        rw [e]
        show s.tok = s.tok - (if b.woken = .given then (((0 : Nat) : Nat) : Int) else 0)
        split <;> omega
      · rename_i y e
        rw [e]
    rw [this]
    split <;> omega
/-- nobody is asleep with a mark -/
def AslS (l : List Sta) : Prop := ∀ (h : Nat) (x : Sta), l[h]? = some x → x.ph = .asleep → x.mrk = .no
theorem AslS.put {l : List Sta} (a : AslS l) {h : Nat} {x x' : Sta} (e : l[h]? = some x) (hx : x'.ph = .asleep → x'.mrk = .no) : AslS (l.set h x') := fun k y q as => by
  rw [set_get e] at q
  split at q
  · cases q; exact hx as
  · exact a k y q as
theorem AslS.one {b : Bk} {s : Sd} (a : AslS s.sts) (o : Nat) : AslS (callOne b s o).sts := by
  unfold callOne
  split
  · exact a
  · rename_i y e
    refine a.put e fun z => ?_
    exfalso
    have : (if y.ph = .asleep then Ph.woken else y.ph) = .asleep := z
    split at this
    · cases this
    · rename_i q; exact q this
theorem AslS.all {b : Bk} : ∀ {lot : List Nat} {s : Sd}, AslS s.sts → AslS (callAll b s lot).sts
  | [], _, a => a
  | o :: l, s, a => AslS.all (lot := l) (s := callOne b s o) (a.one o)
theorem gotSt_asl (b : Bk) (t : Int) (r : List Nat) (x : Sta) : (gotSt b t r x).ph = .asleep → (gotSt b t r x).mrk = .no := by
  unfold gotSt
  split
  · intro z; cases z
  · intro z; cases z
theorem goCall_asl {b : Bk} {s : Sd} (a : AslS s.sts) {h : Nat} {x : Sta} {lot : List Nat} (e : (callAll b s lot).sts[h]? = some x) : AslS (goCall b s h x lot).sts := by
  have a2 := AslS.all (b := b) (lot := lot) a
  unfold goCall
  simp only
  split
  · exact a2.put e fun _ => rfl
  · split
    · exact a2.put e fun z => (by cases z)
    · exact a2.put e fun z => (by cases z)
theorem goOn_asl {b : Bk} {s : Sd} (hc : b.call = true) (a : AslS s.sts) {h : Nat} {x : Sta} {d : Deed} (e : s.sts[h]? = some x) : AslS (goOn b s h x d).sts := by
  unfold goOn
  split
  · unfold onFree
    split
    · exact a.put e fun z => (by cases z)
    · split
      · exact a.put e fun z => (by cases z)
      · exact a.put e fun z => (by cases z)
  · exact a.put e fun _ => rfl
  · unfold onNoted
    split
    · exact a.put e (gotSt_asl _ _ _ _)
    · split
      · refine a.put e ?_
        split
        · exact gotSt_asl _ _ _ _
        · intro z; cases z
      · exact a.put e fun z => (by cases z)
  · refine a.put e fun z => ?_
    have z' : (if x.mrk ≠ .no ∧ b.call = true then Ph.woken else .asleep) = .asleep := z
    split at z'
    · cases z'
    · rename_i q
      show x.mrk = .no
      exact Classical.byContradiction fun n => q ⟨n, hc⟩
  · unfold onWoken
    split
    · exact a.put e (gotSt_asl _ _ _ _)
    · split
      · exact a.put e (gotSt_asl _ _ _ _)
      · split
        · exact a.put e fun z => (by cases z)
        · exact a.put e fun _ => rfl
  · exact a.put e fun z => (by cases z)
  · exact a
theorem fstLot_tok {s : Sd} : ∀ {r : List Nat} {t : Int}, 0 ≤ t → ((wantsOf s (fstLot s r t) : Nat) : Int) ≤ t
  | [], t, h => by show ((wantsOf s [] : Nat) : Int) ≤ t; rw [wantsOf_nil]; exact h
  | o :: r, t, h => by
    unfold fstLot
    split
    · rename_i q
      have := fstLot_tok (s := s) (r := r) (t := t - wantOf s o) (by omega)
      rw [wantsOf_cons]
      omega
    · rw [wantsOf_nil]; exact h
theorem lot_tok {b : Bk} {s : Sd} {x : Sta} {lot : List Nat} (h : RLot b s x lot) (hg : b.woken = .given) (ht : 0 ≤ s.tok) : ((wantsOf s lot : Nat) : Int) ≤ s.tok := by
  rcases h with ⟨_, rfl⟩ | ⟨_, _, g⟩ | ⟨_, h, _⟩
  · unfold firstLot
    rw [if_pos hg]
    exact fstLot_tok ht
  · rcases g.ok with z | z
    · rw [z, wantsOf_nil]; exact ht
    · exact z
  · exact absurd hg h
theorem goOn_tok {b : Bk} {s : Sd} (hb : b.woken ≠ .takes) (ht : 0 ≤ s.tok) {h : Nat} {x : Sta} {d : Deed} : 0 ≤ (goOn b s h x d).tok := by
  unfold goOn
  split
  · unfold onFree
    split
    · show 0 ≤ s.tok + _
      split <;> omega
    · split
      · rename_i q
        show 0 ≤ s.tok - _
        omega
      · exact ht
  · exact ht
  · unfold onNoted
    split
    · exact ht
    · split
      · rename_i q
        show 0 ≤ s.tok - _
        omega
      · exact ht
  · exact ht
  · unfold onWoken putBack
    split
    · exact ht
    · split
      · rename_i q
        show 0 ≤ s.tok - _
        have := q.resolve_left hb
        omega
      · split
        · exact ht
        · exact ht
  · show 0 ≤ s.tok + _
    omega
  · exact ht
theorem callAll_keep {b : Bk} : ∀ {lot : List Nat} {s : Sd} {h : Nat}, h ∉ lot → (callAll b s lot).sts[h]? = s.sts[h]?
  | [], _, _, _ => rfl
  | o :: lot, s, h, hn => by
    have h1 := callAll_keep (b := b) (lot := lot) (s := callOne b s o) (h := h) fun z => hn (List.mem_cons_of_mem _ z)
    have ne : o ≠ h := fun z => hn (by rw [z]; exact List.mem_cons_self)
    refine h1.trans ?_
    unfold callOne
    split
    · rfl
    · exact List.getElem?_set_ne ne
structure SafeB (b : Bk) (s : Sd) : Prop where
  tok : b.woken ≠ .takes → 0 ≤ s.tok
  asl : b.call = true → AslS s.sts
theorem SafeB.begun (b : Bk) (plan : List (List Deed)) : SafeB b (Cl.begun plan) := ⟨fun _ => Int.le_refl _, fun _ h x e as => by
  unfold Cl.begun at e
  simp only [List.getElem?_map] at e
  cases q : plan[h]? with
  | none => rw [q] at e; cases e
  | some l => rw [q] at e; cases e; cases as⟩
theorem SafeB.step {b : Bk} {s : Sd} (w : WF s) (f : SafeB b s) {m : Nat × Mv} (hm : m ∈ menu b s) : SafeB b (doMv b s m) := by
  obtain ⟨h, v⟩ := m
  obtain ⟨x, e, l⟩ := menu_legal w hm
  unfold doMv
  rw [e]
  cases v with
  | on =>
    simp only
    split
    · exact f
    · exact ⟨fun hb => goOn_tok hb (f.tok hb), fun hc => goOn_asl hc (f.asl hc) e⟩
  | away =>
    simp only
    split
    · exact f
    · refine ⟨fun hb => ?_, fun hc => ?_⟩
      · show 0 ≤ s.tok + _
        have := f.tok hb
        split <;> omega
      · refine (f.asl hc).put e ?_
        split
        · intro z; cases z
        · intro z; cases z
  | call lot =>
    simp only
    have hnl : h ∉ lot := fun z => by
      obtain ⟨y, d, r, e2, _, _, _, lv⟩ := row_left w (l.2.2 h z)
      rw [e] at e2
      cases e2
      have cl := l.1
      cases hp : x.ph <;> rw [hp] at cl lv <;> simp [caller, leaver] at cl lv
    refine ⟨fun hb => ?_, fun hc => goCall_asl (f.asl hc) ((callAll_keep hnl).trans e)⟩
    have ht := f.tok hb
    have tk : 0 ≤ (callAll b s lot).tok := by
      rw [callAll_tokX]
      split
      · rename_i hg
        have hr : RLot b s x lot := by
          have := mem_menu.mp hm
          unfold handMoves at this
          rw [show s.sts[((h, Mv.call lot) : Nat × Mv).1]? = some x from e] at this
          simp only at this
          unfold staMoves at this
          rcases List.mem_append.mp this with q | q
          · split at q
            · have := List.mem_singleton.mp q; cases this
            · simp at q
          · split at q
            · obtain ⟨l2, hl2, e2⟩ := List.mem_map.mp q
              cases e2
              exact (lots_mem w).mp hl2
            · split at q
              · have := List.mem_singleton.mp q; cases this
              · simp at q
        have := lot_tok hr hg ht
        omega
      · omega
    unfold goCall
    simp only
    split
    · exact tk
    · split
      · exact tk
      · exact tk
end Cl

set_option Elab.async false
set_option linter.all false
set_option autoImplicit false
set_option maxRecDepth 100000
set_option maxHeartbeats 400000
/-! the clean layer, part ZT: dict(zip(..)) of two sequences of either kind -/
namespace Cl
open PySem PySem.Spec PyProof.Rows L2
open MO
section
variable {prog : Program} {w : World} {A : Around} {E : Value → Shared → Prop} {s : Shared} {z TI TO T i1 i2 : Addr} {fp1 fp2 : List Addr} {n1 n2 i : Nat} {P1 P2 : Nat → Value → Prop} {St1 St2 : Nat → Heap → Prop} {f : Bool} {oT : Obj}
/-- the zip's next, while the tuple that was given out before is still there -/
theorem held_item {Q : Value → Shared → Prop} (S : ZipSep2 z TI TO i1 i2 fp1 fp2) (D1 : Draws prog w A i1 fp1 n1 P1 St1) (D2 : Draws prog w A i2 fp2 n2 P2 St2)
    (hz : IsZipHeld s.heap z TI TO T f) (hT : s.heap.get? T = some oT) (hTI : IsTupOf2 s.heap TI (.ref i1) (.ref i2)) (st1 : St1 i s.heap) (st2 : St2 i s.heap) (hlt1 : i < n1) (hlt2 : i < n2)
    (hQ : ∀ x1 x2 h' tk, P1 i x1 → P2 i x2 → IsZipHeld h' z TI TO T true → St1 (i + 1) h' → St2 (i + 1) h' → IsTupOf2 h' s.heap.objs.size x1 x2 → h'.objs.size = s.heap.objs.size + 1 →
      (∀ c o, c ≠ z → c ≠ i1 → c ≠ i2 → s.heap.get? c = some o → h'.get? c = some o) → Q (.ref s.heap.objs.size) { s with heap := h', toks := tk }) :
    wpAny (model prog w) A (Builtin.«zip.__next__» ⟨[.ref z], []⟩) (fun fin s' => ∃ v, fin = .done (.ret v) ∧ Q v s') E s := by
  obtain ⟨hp, g, d, tk0, os⟩ := s
  show wpAny _ _ (field (.ref z) 2 >>= _) _ _ _
  refine wpAny_bind (wpAny_field hz rfl (x := .bool false) rfl ?_)
  show wpAny _ _ (field (.ref z) 3 >>= _) _ _ _
  refine wpAny_bind (wpAny_field hz rfl (x := .ref TI) rfl ?_)
  refine wpAny_bind (wpAny_seqItems hTI rfl ?_)
  show wpAny _ _ (Builtin.SmallTypes.ownedTupleIsFree (.ref z) >>= _) _ _ _
  refine wpAny_bind (wpAny_tupleHeld_zip hz hT fun g0 hz0 hs0 => ?_)
  replace hs0 : Heap.SameBut z hp g0 := hs0
  simp only [Bool.false_eq_true, if_false]
  refine wpAny_bind ?_
  rw [← Array.forIn_toList]
  simp only [List.forIn_cons, List.forIn_nil]
  refine wpAny_bind (wpAny_bind (wpAny_holding ?_))
  show wpAny _ _ (Builtin.SmallTypes.nextOf (.ref i1) >>= _) _ _ ⟨g0, g, d, tk0, os⟩
  refine wpAny_bind (D1.item i _ _ _ hlt1 (D1.over st1 hs0 S.zf1) fun x1 p1 tk1 hx1 sn1 hp1 => wpAny_pure ?_)
  replace hp1 : Heap.SameBut i1 g0 p1 := hp1
  refine wpAny_pure ?_
  refine wpAny_bind (wpAny_bind (wpAny_holding ?_))
  show wpAny _ _ (Builtin.SmallTypes.nextOf (.ref i2) >>= _) _ _ ⟨p1, g, d, tk1, os⟩
  refine wpAny_bind (D2.item i _ _ _ hlt2 (D2.over (D2.over st2 hs0 S.zf2) hp1 S.sep1_2) fun x2 p2 tk2 hx2 sn2 hp2 => wpAny_pure ?_)
  replace hp2 : Heap.SameBut i2 p1 p2 := hp2
  refine wpAny_pure (wpAny_pure ?_)
  show wpAny _ _ (newTuple [x1, x2] >>= _) _ _ ⟨p2, g, d, tk2, os⟩
  refine wpAny_bind (wpAny_newTuple ?_)
  have hsz : p2.objs.size = hp.objs.size := by rw [hp2.1, hp1.1, hs0.1]
  have hzz : IsZipHeld p2 z TI TO T true := hp2.extBut _ _ S.zi2 (hp1.extBut _ _ S.zi1 hz0)
  have hk : ∀ c o, c ≠ z → c ≠ i1 → c ≠ i2 → hp.get? c = some o → p2.get? c = some o := fun c o c1 c2 c3 e => hp2.extBut _ _ c3 (hp1.extBut _ _ c2 (hs0.extBut _ _ c1 e))
  have hj1 : St1 (i + 1) p2 := D1.over sn1 hp2 S.sep2_1
  refine wpAny_pure ⟨_, rfl, ?_⟩
  show Q (.ref p2.objs.size) ⟨p2.push { cls := .type "tuple", data := .seq #[x1, x2] }, g, d, tk2, os⟩
  have hpr : IsTupOf2 (p2.push { cls := .type "tuple", data := .seq #[x1, x2] }) p2.objs.size x1 x2 := Heap.get?_push_size _ rfl
  have hz4 : (p2.push { cls := .type "tuple", data := .seq #[x1, x2] }).objs.size = p2.objs.size + 1 := Heap.size_push ..
  rw [hsz] at hpr hz4 ⊢
  exact hQ x1 x2 _ tk2 hx1 hx2 (Heap.get?_push_of_some _ hzz) (D1.frame _ _ _ hj1 fun b _ o e => Heap.get?_push_of_some _ e) (D2.frame _ _ _ sn2 fun b _ o e => Heap.get?_push_of_some _ e) hpr hz4 fun c o c1 c2 c3 e => Heap.get?_push_of_some _ (hk c o c1 c2 c3 e)
theorem held_end {Q : Fin → Shared → Prop} (S : ZipSep2 z TI TO i1 i2 fp1 fp2) (D1 : Draws prog w A i1 fp1 n1 P1 St1) (D2 : Draws prog w A i2 fp2 n2 P2 St2)
    (hz : IsZipHeld s.heap z TI TO T f) (hT : s.heap.get? T = some oT) (hTI : IsTupOf2 s.heap TI (.ref i1) (.ref i2)) (st1 : St1 i s.heap) (st2 : St2 i s.heap) (hle1 : i ≤ n1) (hle2 : i ≤ n2) (hend : i = n1 ∨ i = n2)
    (hE : ∀ h' tk e, (∀ c o, c ≠ z → c ≠ i1 → c ≠ i2 → s.heap.get? c = some o → h'.get? c = some o) → (∃ o, h'.get? e = some o ∧ o.cls = .type "StopIteration") → E (.ref e) { s with heap := h', toks := tk }) :
    wpAny (model prog w) A (Builtin.«zip.__next__» ⟨[.ref z], []⟩) Q E s := by
  obtain ⟨hp, g, d, tk0, os⟩ := s
  show wpAny _ _ (field (.ref z) 2 >>= _) _ _ _
  refine wpAny_bind (wpAny_field hz rfl (x := .bool false) rfl ?_)
  show wpAny _ _ (field (.ref z) 3 >>= _) _ _ _
  refine wpAny_bind (wpAny_field hz rfl (x := .ref TI) rfl ?_)
  refine wpAny_bind (wpAny_seqItems hTI rfl ?_)
  show wpAny _ _ (Builtin.SmallTypes.ownedTupleIsFree (.ref z) >>= _) _ _ _
  refine wpAny_bind (wpAny_tupleHeld_zip hz hT fun g0 hz0 hs0 => ?_)
  replace hs0 : Heap.SameBut z hp g0 := hs0
  simp only [Bool.false_eq_true, if_false]
  refine wpAny_bind ?_
  rw [← Array.forIn_toList]
  simp only [List.forIn_cons, List.forIn_nil]
  refine wpAny_bind (wpAny_bind (wpAny_holding ?_))
  show wpAny _ _ (Builtin.SmallTypes.nextOf (.ref i1) >>= _) _ _ ⟨g0, g, d, tk0, os⟩
  by_cases hlt1 : i < n1
  · refine wpAny_bind (D1.item i _ _ _ hlt1 (D1.over st1 hs0 S.zf1) fun x1 p1 tk1 hx1 sn1 hp1 => wpAny_pure ?_)
    replace hp1 : Heap.SameBut i1 g0 p1 := hp1
    have hi2 : i = n2 := by omega
    refine wpAny_pure ?_
    refine wpAny_bind (wpAny_bind (wpAny_holding ?_))
    show wpAny _ _ (Builtin.SmallTypes.nextOf (.ref i2) >>= _) _ _ ⟨p1, g, d, tk1, os⟩
    refine wpAny_bind (D2.done ⟨p1, g, d, tk1, os⟩ _ _ (by rw [← hi2]; exact (D2.over (D2.over st2 hs0 S.zf2) hp1 S.sep1_2)) fun q e hq he => ?_)
    replace hq : Heap.ExtBut i2 p1 q := hq
    exact hE q tk1 e (fun c o c1 c2 c3 x => hq _ _ c3 (hp1.extBut _ _ c2 (hs0.extBut _ _ c1 x))) he
  · have hi1 : i = n1 := by omega
    refine wpAny_bind (D1.done ⟨g0, g, d, tk0, os⟩ _ _ (by rw [← hi1]; exact (D1.over st1 hs0 S.zf1)) fun q e hq he => ?_)
    replace hq : Heap.ExtBut i1 g0 q := hq
    exact hE q tk0 e (fun c o c1 c2 _ x => hq _ _ c2 (hs0.extBut _ _ c1 x)) he
theorem next_held {Q : Option Value → Shared → Prop} (S : ZipSep2 z TI TO i1 i2 fp1 fp2) (D1 : Draws prog w A.in1 i1 fp1 n1 P1 St1) (D2 : Draws prog w A.in1 i2 fp2 n2 P2 St2)
    (hz : IsZipHeld s.heap z TI TO T f) (hT : s.heap.get? T = some oT) (hTI : IsTupOf2 s.heap TI (.ref i1) (.ref i2)) (st1 : St1 i s.heap) (st2 : St2 i s.heap) (hlt1 : i < n1) (hlt2 : i < n2)
    (hQ : ∀ x1 x2 h' tk, P1 i x1 → P2 i x2 → IsZipHeld h' z TI TO T true → St1 (i + 1) h' → St2 (i + 1) h' → IsTupOf2 h' s.heap.objs.size x1 x2 → h'.objs.size = s.heap.objs.size + 1 →
      (∀ c o, c ≠ z → c ≠ i1 → c ≠ i2 → s.heap.get? c = some o → h'.get? c = some o) → Q (some (.ref s.heap.objs.size)) { s with heap := h', toks := tk }) :
    wpAny (model prog w) A (pyNext (.ref z)) Q E s := by
  have hTy : s.TypeIs (.ref z) "zip" := ⟨_, hz, rfl⟩
  unfold pyNext
  exact wpAny_bind (wpAny_attempt (wpAny_callSpecial?_slot (name := Str.ofString "__next__") hTy F.slot_zip_next
    (wpAny_call_entry F.slot_zip_next hTy F.entry_zip_next
      (held_item S D1 D2 hz hT hTI st1 st2 hlt1 hlt2 fun x1 x2 h' tk y1 y2 b1 b2 d1 d2 b5 b6 => wpAny_pure (hQ x1 x2 h' tk y1 y2 b1 b2 d1 d2 b5 b6)) (F.args_zip_next_1 _))))
theorem next_held_end {Q : Option Value → Shared → Prop} (S : ZipSep2 z TI TO i1 i2 fp1 fp2) (D1 : Draws prog w A.in1 i1 fp1 n1 P1 St1) (D2 : Draws prog w A.in1 i2 fp2 n2 P2 St2)
    (hz : IsZipHeld s.heap z TI TO T f) (hT : s.heap.get? T = some oT) (hTI : IsTupOf2 s.heap TI (.ref i1) (.ref i2)) (st1 : St1 i s.heap) (st2 : St2 i s.heap) (hle1 : i ≤ n1) (hle2 : i ≤ n2) (hend : i = n1 ∨ i = n2)
    (hQ : ∀ h' tk, (∀ c o, c ≠ z → c ≠ i1 → c ≠ i2 → s.heap.get? c = some o → h'.get? c = some o) → Q none { s with heap := h', toks := tk }) : wpAny (model prog w) A (pyNext (.ref z)) Q E s := by
  have hTy : s.TypeIs (.ref z) "zip" := ⟨_, hz, rfl⟩
  unfold pyNext
  refine wpAny_bind (wpAny_attempt (wpAny_callSpecial?_slot (name := Str.ofString "__next__") hTy F.slot_zip_next
    (wpAny_call_entry F.slot_zip_next hTy F.entry_zip_next (held_end S D1 D2 hz hT hTI st1 st2 hle1 hle2 hend fun h' tk e hk he => ?_) (F.args_zip_next_1 _))))
  obtain ⟨o, ho, hc⟩ := he
  refine wpAny_bind (wpAny_isInstance (T := "StopIteration") (b := true) ⟨o, ho, hc⟩ isSubtype_stop ?_)
  exact wpAny_pure (hQ _ _ hk)
end
theorem IsK.keep {κ : Bool} {h h' : Heap} {a : Addr} {its : Array Value} (x : IsK κ h a its) (k : ∀ o, h.get? a = some o → h'.get? a = some o) : IsK κ h' a its := by
  cases κ <;> (obtain ⟨o, h1, r⟩ := x; exact ⟨o, k o h1, r⟩)
theorem pairArg_zipK {prog : Program} {w : World} (κ κ2 : Bool) (z TI TO i1 i2 a b : Addr) (S : ZipSep2 z TI TO i1 i2 [i1, a] [i2, b]) (xs ys : Array Value) :
    PairArg prog w "zip" z [z, TI, TO, i1, i2, a, b] [z, TO, i1, i2] (min xs.size ys.size) (fun i k v => xs[i]? = some k ∧ ys[i]? = some v)
      (fun h => IsZip h z TI TO .none ∧ IsTupOf2 h TI (.ref i1) (.ref i2) ∧ (∃ x y, IsTupOf2 h TO x y) ∧ IsI κ h i1 a 0 ∧ IsI κ2 h i2 b 0 ∧ IsK κ h a xs ∧ IsK κ2 h b ys) where
  type := fun s ok => ⟨_, ok.1, rfl⟩
  notDict := by decide
  keep := fun h h' ok hk => by
    obtain ⟨hz, hTI, ⟨x, y, hTO⟩, h1, h2, hl1, hl2⟩ := ok
    exact ⟨hk _ _ hz, hk _ _ hTI, ⟨x, y, hk _ _ hTO⟩, h1.keep fun o e => hk _ o e, h2.keep fun o e => hk _ o e, hl1.keep fun o e => hk _ o e, hl2.keep fun o e => hk _ o e⟩
  there := fun h ok c hc => by
    obtain ⟨hz, hTI, ⟨x, y, hTO⟩, h1, h2, hl1, hl2⟩ := ok
    obtain ⟨o1, e1, _⟩ := h1.get
    obtain ⟨o2, e2, _⟩ := h2.get
    obtain ⟨o3, e3, _⟩ := hl1.get
    obtain ⟨o4, e4, _⟩ := hl2.get
    simp only [List.mem_cons, List.not_mem_nil, or_false] at hc
    rcases hc with rfl | rfl | rfl | rfl | rfl | rfl | rfl
    all_goals first | exact ⟨_, hz⟩ | exact ⟨_, hTI⟩ | exact ⟨_, hTO⟩ | exact ⟨_, e1⟩ | exact ⟨_, e2⟩ | exact ⟨_, e3⟩ | exact ⟨_, e4⟩
  sub := fun c hc => by simp at hc ⊢; rcases hc with rfl | rfl | rfl | rfl <;> simp
  noKeys := fun A s Q E hA ok h => getAttrOr_miss_zip ok.1 rfl rfl rfl zip_no_keys (by decide +kernel) hA h
  iter := fun A s d Q E hA ok hd hdf h => by
    obtain ⟨hz, hTI, ⟨x0, y0, hTO⟩, h1, h2, hl1, hl2⟩ := ok
    simp only [List.mem_cons, List.not_mem_nil, or_false, not_or] at hdf
    obtain ⟨dz, dTI, dTO, di1, di2, dl1, dl2⟩ := hdf
    have na : a ≠ i1 := by
      obtain ⟨oa, hoa, hca⟩ := hl1.get
      obtain ⟨oi, hoi, _, hci⟩ := h1.get
      exact ne_of_cls hoa hoi hca hci (by cases κ <;> decide)
    have nb : b ≠ i2 := by
      obtain ⟨oa, hoa, hca⟩ := hl2.get
      obtain ⟨oi, hoi, _, hci⟩ := h2.get
      exact ne_of_cls hoa hoi hca hci (by cases κ2 <;> decide)
    have D1 := drawsK (κ := κ) (prog := prog) (w := w) (A := A.in1) hA i1 a na xs
    have D2 := drawsK (κ := κ2) (prog := prog) (w := w) (A := A.in1) hA i2 b nb ys
    refine wpAny_pyIter_zip hz (h z [z, TO, i1, i2] (fun i h => IsTupOf2 h TI (.ref i1) (.ref i2) ∧ (IsI κ h i1 a i ∧ IsK κ h a xs) ∧ (IsI κ2 h i2 b i ∧ IsK κ2 h b ys) ∧
      ((IsZip h z TI TO .none ∧ ∃ x y, IsTupOf2 h TO x y) ∨ ∃ T f oT, IsZipHeld h z TI TO T f ∧ h.get? T = some oT ∧ T ≠ z ∧ T ≠ i1 ∧ T ≠ i2 ∧ T ≠ d)) s.heap s.toks ?_
      ⟨hTI, ⟨h1, hl1⟩, ⟨h2, hl2⟩, .inl ⟨hz, x0, y0, hTO⟩⟩ (fun _ _ e => e) fun b hb => .inl hb)
    exact {
      off := fun hm => by
        simp only [List.mem_cons, List.not_mem_nil, or_false] at hm
        rcases hm with e | e | e | e
        · exact dz e
        · exact dTO e
        · exact di1 e
        · exact di2 e
      frame := fun i h₁ h₂ st hk => by
        obtain ⟨hTI, ⟨h1, hl1⟩, ⟨h2, hl2⟩, hz⟩ := st
        refine ⟨hk _ _ (Ne.symm dTI) hTI, ⟨h1.keep fun o e => hk _ o (Ne.symm di1) e, hl1.keep fun o e => hk _ o (Ne.symm dl1) e⟩, ⟨h2.keep fun o e => hk _ o (Ne.symm di2) e, hl2.keep fun o e => hk _ o (Ne.symm dl2) e⟩, ?_⟩
        rcases hz with ⟨hz, x, y, hTO⟩ | ⟨T, f, oT, hz, hT, r1, r2, r3, r4⟩
        · exact .inl ⟨hk _ _ (Ne.symm dz) hz, x, y, hk _ _ (Ne.symm dTO) hTO⟩
        · exact .inr ⟨T, f, oT, hk _ _ (Ne.symm dz) hz, hk _ _ r4 hT, r1, r2, r3, r4⟩
      item := fun i s₁ Q₁ E₁ hi st hds hQ => by
        obtain ⟨hTI, st1, st2, hz⟩ := st
        have hix : i < xs.size := Nat.lt_of_lt_of_le hi (Nat.min_le_left ..)
        have hiy : i < ys.size := Nat.lt_of_lt_of_le hi (Nat.min_le_right ..)
        have lt : ∀ {c o}, s₁.heap.get? c = some o → s₁.heap.objs.size ≠ c := fun e => Nat.ne_of_gt (Heap.lt_size e)
        have n1 : s₁.heap.objs.size ≠ i1 := let ⟨_, e, _⟩ := st1.1.get; lt e
        have n2 : s₁.heap.objs.size ≠ i2 := let ⟨_, e, _⟩ := st2.1.get; lt e
        rcases hz with ⟨hz, x, y, hTO⟩ | ⟨T, f, oT, hz, hT, r1, r2, r3, r4⟩
        · refine wpAny_pyNext_zipD2_item S D1 D2 hz hTI hTO st1 st2 hix hiy fun u1 u2 h' tk p1 p2 a1 a2 t1 t2 a5 a6 hk => ?_
          exact hQ s₁.heap.objs.size _ _ h' tk ⟨p1, p2⟩ (.inl ⟨_, a5, rfl, _, rfl⟩)
            ⟨hk _ _ S.TIz S.TITO S.TIi1 S.TIi2 hTI, t1, t2,
              .inr ⟨s₁.heap.objs.size, false, _, a1, a5, lt hz, n1, n2, Nat.ne_of_gt hds⟩⟩
            fun c o hc e => hk c o (fun x => hc (by simp [x])) (fun x => hc (by simp [x])) (fun x => hc (by simp [x])) (fun x => hc (by simp [x])) e
        · refine next_held S D1 D2 hz hT hTI st1 st2 hix hiy fun u1 u2 h' tk p1 p2 a1 t1 t2 a5 a6 hk => ?_
          exact hQ s₁.heap.objs.size _ _ h' tk ⟨p1, p2⟩ (.inl ⟨_, a5, rfl, _, rfl⟩)
            ⟨hk _ _ S.TIz S.TIi1 S.TIi2 hTI, t1, t2,
              .inr ⟨T, true, oT, a1, hk _ _ r1 r2 r3 hT, r1, r2, r3, r4⟩⟩
            fun c o hc e => hk c o (fun x => hc (by simp [x])) (fun x => hc (by simp [x])) (fun x => hc (by simp [x])) e
      done := fun s₁ Q₁ E₁ st hQ => by
        obtain ⟨hTI, st1, st2, hz⟩ := st
        have e1 : min xs.size ys.size ≤ xs.size := Nat.min_le_left ..
        have e2 : min xs.size ys.size ≤ ys.size := Nat.min_le_right ..
        have e3 : min xs.size ys.size = xs.size ∨ min xs.size ys.size = ys.size := by omega
        rcases hz with ⟨hz, x, y, hTO⟩ | ⟨T, f, oT, hz, hT, r1, r2, r3, r4⟩
        · exact wpAny_pyNext_zipD2_end S D1 D2 hz hTI hTO st1 st2 e1 e2 e3 fun h' tk hk => hQ h' tk fun c o hc e => hk c o (fun x => hc (by simp [x])) (fun x => hc (by simp [x])) (fun x => hc (by simp [x])) (fun x => hc (by simp [x])) e
        · exact next_held_end S D1 D2 hz hT hTI st1 st2 e1 e2 e3 fun h' tk hk => hQ h' tk fun c o hc e => hk c o (fun x => hc (by simp [x])) (fun x => hc (by simp [x])) (fun x => hc (by simp [x])) e }
theorem zip_prs {P : Program} {w : World} : ∀ {vs us : List V} {its its2 : List Value} {kvs : List (Key × V)}, Vals vs its → Vals us its2 → vs.zip us = kvs.map (fun kv => (kV kv.1, kv.2)) →
    ∃ prs : List (Key × Value), KV kvs prs ∧ prs.length = min its.length its2.length ∧ ∀ (i : Nat) (key v : Value), its[i]? = some key → its2[i]? = some v → ∃ k, prs[i]? = some (k, v) ∧ (mixKind P w).is k key = true
  | [], us, its, its2, kvs, r, r2, e => by
    cases r
    rw [List.zip_nil_left] at e
    have := List.map_eq_nil_iff.mp e.symm
    subst this
    exact ⟨[], .nil, by simp, fun i key v e1 => by simp at e1⟩
  | v :: vs, [], its, its2, kvs, r, r2, e => by
    cases r2
    rw [List.zip_nil_right] at e
    have := List.map_eq_nil_iff.mp e.symm
    subst this
    exact ⟨[], .nil, by simp, fun i key v _ e1 => by simp at e1⟩
  | v :: vs, u :: us, its, its2, kvs, r, r2, e => by
    cases r with
    | @cons _ i1 _ its h1 t1 =>
      cases r2 with
      | @cons _ i2 _ its2 h2 t2 =>
        cases kvs with
        | nil => cases e
        | cons kv kvs =>
          rw [List.zip_cons_cons, List.map_cons] at e
          obtain ⟨e1, e2⟩ := List.cons.inj e
          have ea : v = kV kv.1 := congrArg Prod.fst e1
          have eb : u = kv.2 := congrArg Prod.snd e1
          subst ea eb
          obtain ⟨prs, hr, hl, hp⟩ := zip_prs (P := P) (w := w) t1 t2 e2
          refine ⟨(kv.1, i2) :: prs, .cons ⟨rfl, h2⟩ hr, by simp only [List.length_cons, hl]; omega, fun i key v e1 e2 => ?_⟩
          cases i with
          | zero =>
            have e1' : i1 = key := Option.some.inj e1
            have e2' : i2 = v := Option.some.inj e2
            subst e1' e2'
            exact ⟨kv.1, rfl, kV_is (P := P) (w := w) h1⟩
          | succ i => exact hp i key v (by simpa using e1) (by simpa using e2)
section
variable {X : Cx} {pins : List (Addr × Obj)} {σ : L2.St} {H : Hp} {s : Shared} {κ : Bool} {a : Addr} {xs ys : List V}
theorem sqk_isL (I : Inv X pins σ H s) (h : SqK κ X.K H a xs) : ∃ its : List Value, Vals xs its ∧ IsK κ s.heap a its.toArray ∧ xs.length ≤ sizeLine := by
  cases κ with
  | false => obtain ⟨its, r, p, hz⟩ := I.list h; exact ⟨its, r, p.isList, hz⟩
  | true => obtain ⟨its, r, p, hz⟩ := I.tuple h; exact ⟨its, r, p, hz⟩
end
def rDZ (K : PySem.W.Frag) : List V → Hp → VK → Prop := fun xs H Q => ∃ (κ κ2 : Bool) (a b : Addr) (vs us : List V) (kvs : List (Key × V)), xs = [.ref a, .ref b] ∧ SqK κ K H a vs ∧ SqK κ2 K H b us ∧ vs.zip us = kvs.map (fun kv => (kV kv.1, kv.2)) ∧
    ∀ p, H p = none → Q (.ref p) (upd H p (.dK (mergeK [] kvs)))
theorem pe_dictZ {X : Cx} {e e2 : Expr} {ta : TA} {p p2 pos pos2 : Pos} (hcalm : X.calm = true) (hgd : Gl X "dict") (hmd : X.mg "dict" = none) (hgz : Gl X "zip") (hmz : X.mg "zip" = none) (hv : bootBuiltins "dict" = some (.type "dict")) (ha : PA X [e, e2] ta)
    (he : starEach [Expr.Call (.Name "zip" p2) [e, e2] [] pos2] X.env = [(false, eval (.Call (.Name "zip" p2) [e, e2] [] pos2) X.env)] := by rfl)
    (hs : starEach [e, e2] X.env = (false, eval e X.env) :: starEach [e2] X.env := by rfl) (hpl : (backTo pos2 (starEach [e2] X.env)).any (·.1) = false := by rfl) :
    PE X (.Call (.Name "dict" p) [.Call (.Name "zip" p2) [e, e2] [] pos2] [] pos) (tCB (rDZ X.K) ta) := by
  refine ⟨fun pins s σ H Q I h => ?_⟩
  refine wpAny_Call_Name_kw (ld_blt I hgd hmd hv ?_ (by decide) (by decide))
  refine PyProof.Rows.callWith_type1 ?_ (by rw [he]; rfl) rfl
  rw [he]
  show wpAny _ _ (spliced ((false, eval (.Call (.Name "zip" p2) [e, e2] [] pos2) X.env) :: [])) _ _ s
  refine Calls.spliced_cons ?_
  refine Call_ (ld_blt I hgz hmz PyProof.Rows.boot_zip (PyProof.Rows.callWith_type1 (thn (ha.run pos2 pins s σ H _ I h) fun us s1 ⟨vs, H1, I1, r1, q1⟩ => ?_) hs hpl))
  obtain ⟨κ, κ2, a, b, xs, ys, kvs, ex, hqx, hqy, hz2, q⟩ := q1
  subst ex
  cases r1 with
  | cons r rr =>
    cases rr with
    | cons r' rr =>
      cases rr
      cases r
      cases r'
      obtain ⟨its, rv, p1, z1⟩ := sqk_isL I1 hqx
      obtain ⟨its2, rv2, p2', z2⟩ := sqk_isL I1 hqy
      obtain ⟨oa, hoa, _⟩ := p1.get
      obtain ⟨ob, hob, _⟩ := p2'.get
      have la : a < s1.heap.objs.size := Heap.lt_size hoa
      have lb : b < s1.heap.objs.size := Heap.lt_size hob
      have S := zip_sep2 (N := s1.heap.objs.size) (fp1 := [a]) (fp2 := [b]) (fun c hc => by rw [List.mem_singleton.mp hc]; exact la) (fun c hc => by rw [List.mem_singleton.mp hc]; exact lb)
      refine zip_begins2 (beginsK a its.toArray) (beginsK b its2.toArray) p1 p2' fun h' hz hTI hTO g1 g2 hsz hk => ?_
      refine Calls.spliced_nil ?_
      obtain ⟨prs, hkv, hl, hp⟩ := zip_prs (P := X.prog) (w := X.w) rv rv2 hz2
      have e1 : its.toArray.size = its.length := by simp
      have e2 : its2.toArray.size = its2.length := by simp
      have lz1 : its.length ≤ sizeLine := by rw [← rv.length]; exact z1
      refine call_dict_pairs (s := { s1 with heap := h' }) (knd := mixKind X.prog X.w) (kvs := prs) (pairArg_zipK κ κ2 (s1.heap.objs.size + 4) (s1.heap.objs.size + 2) (s1.heap.objs.size + 3) s1.heap.objs.size (s1.heap.objs.size + 1) a b S its.toArray its2.toArray) (I1.ok.hd hcalm)
        ⟨hz, hTI, ⟨_, _, hTO⟩, .zero g1, .zero g2, p1.keep fun o e => hk _ o e, p2'.keep fun o e => hk _ o e⟩ ⟨by rw [hl, e1, e2], fun i key v e => hp i key v (by simpa using e.1) (by simpa using e.2)⟩ (by rw [e1, e2]; exact Nat.le_trans (Nat.min_le_left _ _) lz1) fun h'' tk hd' k => ?_
      have hle : s1.heap.objs.size ≤ h'.objs.size := by omega
      have hm : (h'.objs.size == sysModules) = false := beq_eq_false_iff_ne.mpr (Nat.ne_of_gt (Nat.lt_of_lt_of_le I1.big hle))
      have hlen : (mergeK [] kvs).length ≤ sizeLine := by
        refine Nat.le_trans (length_mergeK kvs []) ?_
        rw [List.length_nil, Nat.zero_add, hkv.length, hl]
        exact Nat.le_trans (Nat.min_le_left _ _) lz1
      have kk : ∀ c o, s1.heap.get? c = some o → h''.get? c = some o := fun c o e => k c o (fun hc => by
        have := Heap.lt_size e
        have hc' : c = s1.heap.objs.size + 4 ∨ c = s1.heap.objs.size + 3 ∨ c = s1.heap.objs.size ∨ c = s1.heap.objs.size + 1 := by simpa using hc
        rcases hc' with q | q | q | q
        · rw [q] at this; exact Nat.not_lt.mpr (Nat.le_add_right _ _) this
        · rw [q] at this; exact Nat.not_lt.mpr (Nat.le_add_right _ _) this
        · rw [q] at this; exact Nat.lt_irrefl _ this
        · rw [q] at this; exact Nat.not_lt.mpr (Nat.le_add_right _ _) this) (hk c o e)
      exact ⟨.ref h'.objs.size, upd H1 h'.objs.size (.dK (mergeK [] kvs)), I1.laid (t' := tk) kk hle (show ObjOk X.prog X.w _ _ _ (.dK (mergeK [] kvs)) from ⟨hlen, hm, merged [] prs, KV.merge hkv .nil, hd'⟩), rfl, q _ (I1.hok.fresh hle)⟩
def dictZF : List D → Option D
  | [a, b] => match items a, items b with
    | some xs, some ys => (pairsK (zipD xs ys)).map fun kds => dictOf (mergeD [] kds)
    | _, _ => none
  | _ => none
theorem zip_rp {K : PySem.W.Frag} {G : Hp} : ∀ {xs ys : List D} {vs us : List V} {kds : List (Key × D)}, RpL K G vs xs → RpL K G us ys → pairsK (zipD xs ys) = some kds → ∃ kvs : List (Key × V), vs.zip us = kvs.map (fun kv => (kV kv.1, kv.2)) ∧ RpP K G kvs kds
  | [], ys, vs, us, kds, r, r2, e => by
    cases r
    unfold zipD at e
    rw [List.zipWith_nil_left] at e
    cases e
    exact ⟨[], by simp, .nil⟩
  | x :: xs, [], vs, us, kds, r, r2, e => by
    cases r2
    unfold zipD at e
    rw [List.zipWith_nil_right] at e
    cases e
    exact ⟨[], by simp, .nil⟩
  | x :: xs, y :: ys, vs, us, kds, r, r2, e => by
    cases r with
    | cons a1 a2 =>
      cases r2 with
      | cons b1 b2 =>
        unfold zipD at e
        rw [List.zipWith_cons_cons, pairsK] at e
        split at e
        · rename_i p ps' e1 e2
          cases e
          obtain ⟨kvs, hz, hr⟩ := zip_rp a2 b2 e2
          change (keyOf x).map (fun k => (k, y)) = some p at e1
          cases q : keyOf x with
          | none => rw [q] at e1; cases e1
          | some key =>
            rw [q] at e1
            cases e1
            have := keyOf_v q a1
            subst this
            exact ⟨(key, _) :: kvs, by rw [List.zip_cons_cons, hz]; rfl, .cons ⟨rfl, b1⟩ hr⟩
        · cases e
theorem pc_dictZ {K : PySem.W.Frag} : PC K (rDZ K) dictZF (fun d => d) := fun H G vs ds d Q s rl e q => by
  match ds, rl, e with
  | [x, y], .cons r1 (.cons r2 .nil), e =>
    unfold dictZF at e
    cases q1 : items x with
    | none => simp [q1] at e
    | some xs =>
      cases q2 : items y with
      | none => simp [q1, q2] at e
      | some ys =>
        simp only [q1, q2] at e
        obtain ⟨κ, a, vs, rfl, rv, h1, h2⟩ := rp_sqk r1 q1
        obtain ⟨κ2, b, us, rfl, ru, k1, k2⟩ := rp_sqk r2 q2
        cases z : pairsK (zipD xs ys) with
        | none => rw [z] at e; cases e
        | some kds =>
          rw [z] at e
          cases e
          obtain ⟨kvs, hz, hr⟩ := zip_rp rv ru z
          refine ⟨κ, κ2, a, b, vs, us, kvs, rfl, sqk_of h1 h2 s, sqk_of k1 k2 s, hz, fun p hn => ?_⟩
          refine q _ _ _ (New.laid s hn) ?_
          have g : Sub G (upd G p (.dK (mergeK [] kvs))) := sub_upd (none_of_sub s hn)
          exact .dct upd_same ((hr.merge .nil).sub g).toK
section
variable {γ : Type} {m : Type → Type} [PM γ m] {β : Type} {C : Cc γ} {X : Cx} {ρ : En}
theorem ce_dictZ {p p2 pos pos2 : Pos} {e e2 : Expr} {x : m β} {k : D → m β} (hmd : X.mg "dict" = none) (hmz : X.mg "zip" = none) (hcalm : X.calm = true) (hv : bootBuiltins "dict" = some (.type "dict"))
    (ha : CD C X ρ [e, e2] x (fun ds => bnd (need (dictZF ds)) k)) (hgd : Gl X "dict" := by rfl) (hgz : Gl X "zip" := by rfl)
    (he : starEach [Expr.Call (.Name "zip" p2) [e, e2] [] pos2] X.env = [(false, eval (.Call (.Name "zip" p2) [e, e2] [] pos2) X.env)] := by rfl)
    (hs : starEach [e, e2] X.env = (false, eval e X.env) :: starEach [e2] X.env := by rfl) (hpl : (backTo pos2 (starEach [e2] X.env)).any (·.1) = false := by rfl) :
    CE C X ρ (.Call (.Name "dict" p) [.Call (.Name "zip" p2) [e, e2] [] pos2] [] pos) (fun a => .v a) x k := fun Qf =>
  PE.imp (pe_dictZ hcalm hgd hmd hgz hmz hv (ha Qf) he hs hpl) fun σ H Q ⟨G, J, g, st, w, h⟩ => ⟨G, J, g, st, w, fun vs ds H1 G1 J1 g1 af1 si1 rl hl w1 => by
    obtain ⟨d, e1, w2⟩ := of_need w1
    exact pc_dictZ H1 G1 vs ds d Q af1.vis.sub rl e1 fun v H' G' n rr => h v d H' G' J1 g1 (af1.trans (n.aft af1.vis)) (SIx.nw si1 n) rr w2⟩
end
end Cl

set_option Elab.async false
set_option linter.all false
set_option autoImplicit false
set_option maxRecDepth 100000
set_option maxHeartbeats 400000
/-! the clean layer, part ZU: in, of a tuple whose items are data of any depth -/
namespace Cl
open PySem PySem.Spec PyProof.Rows L2
open MO
def rInDT (K : PySem.W.Frag) : R2 := fun x y H Q => ∃ d ds, Dp K H x d ∧ Dp K H y (.tuple ds) ∧ SeqAt.shaped d = true ∧ SeqAt.shaped (.tuple ds) = true ∧ Q (.bl (ds.any fun z => PyData.eqv z d)) H
theorem op_inDT {X : Cx} (hu : X.A.units + 65 < cLine) : OpR X (compareOp .In) (rInDT X.K) := by
  intro pins s σ H x y v u Q I rx ry h
  obtain ⟨d, ds, hd, he, sd, se, q⟩ := h
  obtain ⟨as, r1⟩ := Dp.reads I d x v hd rx
  obtain ⟨bs, r2⟩ := Dp.reads I (.tuple ds) y u he ry
  exact SeqAt.in_tuple_reads r2 r1 (SeqAt.canLay_of_shaped se) (SeqAt.canLay_of_shaped sd) (room_in_shaped sd hu) ⟨.bl _, H, I, rfl, q⟩
def inTF (x : D) : D → Option Bool
  | .tuple ds => if SeqAt.shaped x = true ∧ SeqAt.shaped (.tuple ds) = true then some (ds.any fun z => PyData.eqv z x) else none
  | _ => none
theorem p2_inDT {K : PySem.W.Frag} : P2 K (rInDT K) inTF PyData.bool := fun H G v1 v2 d1 d2 d Q s r1 r2 e q => by
  unfold inTF at e
  split at e
  · rename_i ds
    split at e
    · rename_i h
      cases e
      exact ⟨d1, ds, r1.dp s (SeqAt.canLay_of_shaped h.1), r2.dp s (SeqAt.canLay_of_shaped h.2), h.1, h.2, q _ H G (New.refl s) (.bl _)⟩
    · cases e
  · cases e
end Cl

set_option Elab.async false
set_option linter.all false
set_option autoImplicit false
set_option maxRecDepth 100000
set_option maxHeartbeats 400000
/-! the clean layer, part YE: xs.index(x) of a list -/
namespace Cl
open PySem PySem.Spec PyProof.Rows L2
open MO
theorem find_eqU {x : V} : ∀ {xs : List V} {us : List Value}, Vals xs us → xs.all flatV = true → us.findIdx? (eqU x) = xs.findIdx? fun y => eqV y x
  | _, _, .nil, _ => rfl
  | y :: xs, u :: us, .cons r t, f => by
    rw [List.all_cons, Bool.and_eq_true] at f
    rw [List.findIdx?_cons, List.findIdx?_cons, find_eqU t f.2, eqU_of r f.1]
def rIdxV (K : PySem.W.Frag) : V → List V → Hp → VK → Prop := fun x xs H Q => ∃ (p : Addr) (ys : List V) (k : V) (j : Nat), x = .ref p ∧ xs = [k] ∧ SqL K H p ys ∧ ys.all flatV = true ∧ flatV k = true ∧ ys.findIdx? (fun y => eqV y k) = some j ∧ j < 1000000 ∧ Q (.int (j : Nat)) H
theorem mt_lidxV {X : Cx} : MtR X "list.index" (rIdxV X.K) := by
  intro pins s σ H x xs v us Q I rx rxs h
  obtain ⟨p, ys, k, j, rfl, rfl, hs, fy, fk, ej, hj, q⟩ := h
  cases rx
  obtain ⟨u, rfl, ru⟩ := rxs.one
  obtain ⟨its, rv, ⟨⟨cls, dd, data, sl⟩, n, ho, hc, hdn, hd⟩, hlen⟩ := I.list hs
  simp only at hc hd
  subst hc hd
  rw [← find_eqU rv fy, List.findIdx?_eq_some_iff_getElem] at ej
  obtain ⟨h1, h2, h3⟩ := ej
  refine call_meets PySem.F.slot_list_index ⟨_, ho, rfl⟩ PySem.F.entry_list_index (PySem.F.args_list_index_2 _ _)
    (SeqAt.list_indexAt p its.toArray n dd sl u (eqU k) j (by simpa using h1) (by omega) (by simpa using h2) (fun m hm hmj => by
      have := h3 m hmj
      simpa using this)) ⟨ho, fun y hy => mem_eqAt ru fk rv fy y (by simpa using hy), ?_⟩
  exact ⟨.int (j : Nat), H, I.tok _, ⟨s.toks, rfl⟩, q⟩
def idxF : D → D → Option Int
  | .list ds, x => if sc x && ds.all sc then (match ds.findIdx? fun y => eqS y x with | some j => if j < 1000000 then some ((j : Nat) : Int) else none | none => none) else none
  | _, _ => none
theorem idx_rp {K : PySem.W.Frag} {G : Hp} {k : V} {x : D} (rx : Rp K G k x) (hx : sc x = true) : ∀ {vs : List V} {ds : List D}, RpL K G vs ds → ds.all sc = true → (vs.findIdx? fun y => eqV y k) = ds.findIdx? fun y => eqS y x
  | _, _, .nil, _ => rfl
  | v :: vs, d :: ds, .cons r t, f => by
    rw [List.all_cons, Bool.and_eq_true] at f
    rw [List.findIdx?_cons, List.findIdx?_cons, idx_rp rx hx t f.2, sc_eq r rx f.1 hx]
section
variable {γ : Type} {m : Type → Type} [PM γ m] {α α2 α3 β δ τ ω : Type} {C : Cc γ} {X : Cx} {ρ : En}
theorem ce_lindex {o e : Expr} {apos pos : Pos} {x : m β} {x2 : D → m β} {k : Int → m β} (he : ∀ d1, CE C X ρ e dv (x2 d1) (fun d2 => bnd (need (idxF d1 d2)) k)) (ho : CE C X ρ o dv x (fun d => bnd (need (isLst d)) fun _ => x2 d))
    (hpe : ∀ to te, PE X o to → PE X e te → PE X (.Call (.Attribute o "index" apos) [e] [] pos) (tBM X.K "list" (rIdxV X.K) to (tCons te tNil)) := by intro to te h1 h2; exact pe_bm PySem.F.plainAttrs_list PySem.F.slot_list_index PySem.F.type_list_index mt_lidxV h1 (pa_cons h2 pa_nil)) :
    CE C X ρ (.Call (.Attribute o "index" apos) [e] [] pos) iv x k := fun Qf =>
  PE.imp (hpe _ _ (ho Qf) (PE.ex fun d => he d Qf)) fun σ H Q ⟨G, J, g, st, w, q⟩ => ⟨G, J, g, st, w, fun v1 d1 H1 G1 J1 g1 af1 si1 r1 w1 => by
    obtain ⟨_, e0, w1⟩ := of_need w1
    cases r1 with
    | @lst p us ds h1 h2 =>
      refine ⟨ty_lst (af1.vis.sub _ _ h1), .list ds, G1, J1, g1, st.go af1 si1, w1, fun v2 d2 H2 G2 J2 g2 af2 si2 r2 w2 => ?_⟩
      obtain ⟨n, e1, w3⟩ := of_need w2
      have e1' : (if (sc d2 && ds.all sc) = true then (match ds.findIdx? fun y => eqS y d2 with | some j => if j < 1000000 then some ((j : Nat) : Int) else none | none => none) else none) = some n := e1
      split at e1'
      · rename_i hsc
        split at e1'
        · rename_i j ej
          split at e1'
          · rename_i hj
            cases e1'
            rw [Bool.and_eq_true] at hsc
            have h3 : RpL X.K G2 us ds := h2.sub af2.gg
            refine ⟨p, us, v2, j, rfl, rfl, SqL.of (af2.vis.sub _ _ (af2.gg _ _ h1)), sc_all h3 hsc.2, sc_flat r2 hsc.1, ?_, hj, ?_⟩
            · rw [idx_rp r2 hsc.1 h3 hsc.2]
              exact ej
            · exact q _ _ H2 G2 J2 g2 (af1.trans af2) si2 (.int _) w3
          · cases e1'
        · cases e1'
      · cases e1'
    | _ => cases e0⟩
end
end Cl

set_option Elab.async false
set_option linter.all false
set_option autoImplicit false
set_option maxRecDepth 100000
set_option maxHeartbeats 400000
/-! the clean layer, part ZX: t[lo:hi].count(x) where a true part of a tuple is counted in -/
namespace Cl
open PySem PySem.Spec PyProof.Rows L2
open MO
def FrzT (H : Hp) (x : V) : Prop := ∃ (p : Addr) (o : Obj) (ys : List V), x = .ref p ∧ H p = some (.frz o (.tup ys)) ∧ o.cls = .type "tuple" ∧ o.dict = none
def rSlF (K : PySem.W.Frag) : V → Option Int → Option Int → Hp → VK → Prop := fun x lo hi H Q => ∃ a xs, x = .ref a ∧ SqT K H a xs ∧
  ¬ (HT.sIx xs.length 0 lo = 0 ∧ HT.sIx xs.length xs.length hi = xs.length) ∧ ∀ (p : Addr) (o : Obj), H p = none → o.cls = .type "tuple" → o.dict = none → Q (.ref p) (upd H p (.frz o (.tup (cutV xs lo hi))))
theorem ep_frzX {X : Cx} {pins : List (Addr × Obj)} {σ : L2.St} {H : Hp} {s : Shared} {Q : VK} {ys : List V} {its : List Value} {OB : Obj} (I : Inv X pins σ H s) (hc : OB.cls = .type "tuple") (hd : OB.dict = none) (hf : OB.isFreed = false) (hz : ys.length ≤ sizeLine) (r : Vals ys its) (ht : IsTup (s.heap.push OB) s.heap.objs.size its.toArray)
    (q : ∀ (p : Addr) (o : Obj), H p = none → o.cls = .type "tuple" → o.dict = none → Q (.ref p) (upd H p (.frz o (.tup ys)))) : EP X pins σ Q (.ref s.heap.objs.size) { s with heap := s.heap.push OB } :=
  ⟨.ref s.heap.objs.size, _, I.laid (t' := s.toks) (o := .frz OB (.tup ys)) (fun b ob q => Heap.get?_push_of_some _ q) (Nat.le_refl _) ⟨Heap.get?_push_size _ hf, hz, its, r, ht⟩, rfl, q _ _ (I.hok.fresh (Nat.le_refl _)) hc hd⟩
theorem sl_tupF {X : Cx} : SlR X (rSlF X.K) := by
  intro pins s σ H x v vl vu lo hi sl Q I rx hs pl pu h
  obtain ⟨a, xs, rfl, hx, hw, q⟩ := h
  cases rx
  obtain ⟨its, r, ht, hz⟩ := I.tuple hx
  have hlen : its.toArray.size = xs.length := by rw [List.size_toArray]; exact r.length.symm
  refine ⟨"tuple", _, PyProof.Rows.slot_tuple_getitem.lookup, ht.typeIs, ?_⟩
  refine HT.getItem_tuple_cut ht hs pl pu (by rw [hlen]; exact hw) ?_ (by rw [hlen]; exact hz)
  rw [hlen]
  exact ep_frzX I rfl rfl rfl (Nat.le_trans (cutV_length xs lo hi) hz) ((r.drop (HT.sIx xs.length 0 lo)).take (HT.sIx xs.length xs.length hi - HT.sIx xs.length 0 lo)) (IsTup.new _ _) q
theorem frz_is {X : Cx} {pins : List (Addr × Obj)} {σ : L2.St} {H : Hp} {s : Shared} {x : V} {v : Value} (I : Inv X pins σ H s) (r : RelV x v) (ty : FrzT H x) :
    s.TypeIs v "tuple" ∧ ∀ a, v = .ref a → ∃ ob, s.heap.get? a = some ob ∧ ob.dict = none := by
  obtain ⟨p, o, ys, rfl, h, hc, hd⟩ := ty
  cases r
  have e : s.heap.get? p = some o := (I.hok p _ h).1
  refine ⟨⟨o, e, hc⟩, fun a q => ?_⟩
  cases q
  exact ⟨o, e, hd⟩
def tBMF (r : V → List V → Hp → VK → Prop) (to : TE) (t : TA) : TE := fun σ H Q => to σ H fun x H1 => FrzT H1 x ∧ t σ H1 fun xs H2 => r x xs H2 Q
section
variable {X : Cx} {o e : Expr} {es : List Expr} {to : TE} {t : TA} {name : Str} {apos cpos : Pos} {id : String} {r : V → List V → Hp → VK → Prop}
theorem pe_bmF (pa : PlainAttrs "tuple") (slot : Slot "tuple" name id) (hty : typeOf (.builtin id) = pure (.type "method_descriptor")) (hm : MtR X id r) (ho : PE X o to) (ha : PA X (e :: es) t)
    (hbase : attributeBase o name X.env (eval o X.env) = eval o X.env := by rfl)
    (hfew : ((backTo cpos (starEach (e :: es) X.env)).all (fun x => !x.1) && (backToKw cpos (keywordEach [] X.env)).all (fun x => x.1.isSome)
      && decide ((e :: es).length + ([] : List Keyword).length + (if ([] : List Keyword).isEmpty then 0 else 1) < 30)) = true := by rfl)
    (hline : (apos.endLine == cpos.line) = true := by rfl) (hs : starEach (e :: es) X.env = (false, eval e X.env) :: starEach es X.env := by rfl) (hplain : (backTo cpos (starEach es X.env)).any (·.1) = false := by rfl) :
    PE X (.Call (.Attribute o name apos) (e :: es) [] cpos) (tBMF r to t) := by
  refine ⟨fun pins s σ H Q I h => ?_⟩
  refine wpAny_Call_method_late hbase hfew hline rfl (thn (ho.run pins s σ H _ I h) fun v s1 ⟨x, H1, I1, r1, ty, q1⟩ => ?_)
  obtain ⟨h1, h2⟩ := frz_is I1 r1 ty
  refine ⟨"tuple", id, pa, slot, hty, h1, h2, ?_⟩
  have hA := ha.run cpos pins s1 σ H1 _ I1 q1
  rw [hs] at hA ⊢
  refine Calls.callWith_builtin (by show (false || (backTo cpos (starEach es X.env)).any (·.1)) = false; rw [hplain] <;> rfl) (Calls.evalArgs_plain ?_)
  exact thn hA fun us s2 ⟨vs, H2, I2, r2, q2⟩ => hm pins s2 σ H2 x vs v us Q I2 r1 r2 q2
end
def rCntT (K : PySem.W.Frag) : V → List V → Hp → VK → Prop := fun x xs H Q => ∃ (p : Addr) (ys : List V) (k : V), x = .ref p ∧ xs = [k] ∧ SqT K H p ys ∧ ys.all flatV = true ∧ flatV k = true ∧ Q (.int (ys.countP fun y => eqV y k : Nat)) H
theorem mt_tcountV {X : Cx} : MtR X "tuple.count" (rCntT X.K) := by
  intro pins s σ H x xs v us Q I rx rxs h
  obtain ⟨p, ys, k, rfl, rfl, hs, fy, fk, q⟩ := h
  cases rx
  obtain ⟨u, rfl, ru⟩ := rxs.one
  obtain ⟨its, rv, ⟨⟨cls, dd, data, sl⟩, ho, hc, n, hd⟩, hlen⟩ := I.tuple hs
  simp only at hc hd
  subst hc hd
  refine call_meets PySem.F.slot_tuple_count ⟨_, ho, rfl⟩ PySem.F.entry_tuple_count (PySem.F.args_tuple_count_2 _ _)
    (SeqAt.tuple_countAt p its.toArray n dd sl u (eqU k)) ⟨ho, fun y hy => mem_eqAt ru fk rv fy y (by simpa using hy), ?_⟩
  have ec : its.toArray.toList.countP (eqU k) = ys.countP fun y => eqV y k := countP_eqU rv fy
  refine ⟨.int (ys.countP fun y => eqV y k : Nat), H, I.tok _, ⟨s.toks, ?_⟩, q⟩
  show Value.int ((its.toArray.toList.countP (eqU k) : Nat) : Int) s.toks = Value.int ((ys.countP fun y => eqV y k : Nat) : Int) s.toks
  rw [ec]
/-- a true part of a tuple, whole no -/
def slN (d : D) (lo hi : Option Int) : Option (List D) := match d with
  | .tuple ds => if HT.sIx ds.length 0 lo = 0 ∧ HT.sIx ds.length ds.length hi = ds.length then none else some (cutD ds lo hi)
  | _ => none
def cntL (ds : List D) (x : D) : Option Int := if (sc x && ds.all sc) = true then some ((ds.countP fun y => eqS y x : Nat) : Int) else none
section
variable {γ : Type} {m : Type → Type} [PM γ m] {α α2 α3 β δ τ ω : Type} {C : Cc γ} {X : Cx} {ρ : En}
theorem ce_tcountS {o e : Expr} {lo hi : Option Expr} {p2 p3 apos pos : Pos} {x : m β} {x1 : D → m β} {x2 : D → Option Int → m β} {x3 : List D → m β} {k : Int → m β}
    (he : ∀ d1, CE C X ρ e dv (x3 d1) (fun d2 => bnd (need (cntL d1 d2)) k)) (hh : ∀ d l, CO C X ρ hi (x2 d l) (fun u => bnd (need (slN d l u)) x3)) (hl : ∀ d, CO C X ρ lo (x1 d) (x2 d)) (ho : CE C X ρ o dv x x1)
    (hpe : ∀ to te, PE X (.Subscript o (.Slice lo hi none p2) p3) to → PE X e te → PE X (.Call (.Attribute (.Subscript o (.Slice lo hi none p2) p3) "count" apos) [e] [] pos) (tBMF (rCntT X.K) to (tCons te tNil)) := by intro to te h1 h2; exact pe_bmF PySem.F.plainAttrs_tuple PySem.F.slot_tuple_count PySem.F.type_tuple_count mt_tcountV h1 (pa_cons h2 pa_nil)) :
    CE C X ρ (.Call (.Attribute (.Subscript o (.Slice lo hi none p2) p3) "count" apos) [e] [] pos) iv x k := fun Qf =>
  PE.imp (hpe _ _ (pe_slice sl_tupF (ho Qf) (PO.ex fun d => hl d Qf) (PO.ex fun d => PO.ex fun l => hh d l Qf)) (PE.ex fun d => he d Qf)) fun σ H Q ⟨G, J, g, st, w, q⟩ => ⟨G, J, g, st, w, fun v d H1 G1 J1 g1 af1 si1 rr w1 =>
    ⟨d, G1, J1, g1, st.go af1 si1, w1, fun l H2 G2 J2 g2 af2 si2 w2 => ⟨d, l, G2, J2, g2, (st.go af1 si1).go af2 si2, w2, fun u H3 G3 J3 g3 af3 si3 w3 => by
      obtain ⟨ds1, e1, w4⟩ := of_need w3
      have rr3 := Rp.sub (af2.trans af3).gg rr
      cases rr3 with
      | @tup a us ds h1 h2 =>
        simp only [slN] at e1
        split at e1
        · cases e1
        · rename_i hw
          cases e1
          refine ⟨a, us, rfl, af3.vis.sub.seq h1, by rw [h2.length]; exact hw, fun p ob hp hc hd => ⟨⟨p, ob, _, rfl, upd_same, hc, hd⟩, ?_⟩⟩
          have n : New G3 H3 G3 (upd H3 p (.frz ob (.tup (cutV us l u)))) := New.own af3.vis.sub hp
          refine ⟨cutD ds l u, G3, J3, g3, (((st.go af1 si1).go af2 si2).go af3 si3).go (n.aft af3.vis) (SIx.nw si3 n), w4, fun v2 d2 H4 G4 J4 g4 af4 si4 r4 w5 => ?_⟩
          obtain ⟨c, e2, w6⟩ := of_need w5
          unfold cntL at e2
          split at e2
          · rename_i hsc
            cases e2
            rw [Bool.and_eq_true] at hsc
            have nj : ¬ J3 p := fun j => af3.vis.dom p j hp
            have hk : H4 p = some (.frz ob (.tup (cutV us l u))) := af4.hh p _ nj upd_same
            have h3 : RpL X.K G4 (cutV us l u) (cutD ds l u) := (cut_rp h2).sub af4.gg
            refine ⟨p, _, v2, rfl, rfl, .inl (.inr ⟨ob, hk⟩), sc_all h3 hsc.2, sc_flat r4 hsc.1, ?_⟩
            rw [count_rp r4 hsc.1 h3 hsc.2]
            exact q _ _ H4 G4 J4 g4 ((((af1.trans af2).trans af3).trans (n.aft af3.vis)).trans af4) si4 (.int _) w6
          · cases e2
      | _ => cases e1⟩⟩⟩
end
section
variable {γ : Type} {m : Type → Type} [PM γ m] {α α2 α3 β δ τ ω : Type} {C : Cc γ} {X : Cx} {ρ ρ2 : En}
/-- what is known of the names, written anew -/
theorem cs_norm {ss : List Stmt} {out : ω → En} {outL : τ → En} {rk : δ → R} {x : m β} {kn : ω → m β} {kr : δ → m β} {kb kc : τ → m β} (e : ρ = ρ2) (h : CS C X ρ2 ss out outL rk x kn kr kb kc) : CS C X ρ ss out outL rk x kn kr kb kc := by
  subst e
  exact h
end
end Cl

set_option Elab.async false
set_option linter.all false
set_option autoImplicit false
set_option maxRecDepth 100000
set_option maxHeartbeats 400000
/-! the clean layer, part YG: t.index(x), t.count(x) of any tuple -/
namespace Cl
open PySem PySem.Spec PyProof.Rows L2
open MO
def TyF (K : PySem.W.Frag) (H : Hp) (x : V) : Prop := ∃ (p : Addr) (ys : List V), x = .ref p ∧ SqF K H p ys
theorem tyF_is {X : Cx} {pins : List (Addr × Obj)} {σ : L2.St} {H : Hp} {s : Shared} {x : V} {v : Value} (I : Inv X pins σ H s) (r : RelV x v) (ty : TyF X.K H x) :
    s.TypeIs v "tuple" ∧ ∀ a, v = .ref a → ∃ ob, s.heap.get? a = some ob ∧ ob.dict = none := by
  obtain ⟨p, ys, rfl, ⟨o, h, hc, hd⟩ | ⟨o, its, n, hk, hc, hd, _⟩⟩ := ty
  · cases r
    have e : s.heap.get? p = some o := (I.hok p _ h).1
    refine ⟨⟨o, e, hc⟩, fun a q => ?_⟩
    cases q
    exact ⟨o, e, hd⟩
  · cases r
    have e : s.heap.get? p = some o := I.kIn p o hk
    refine ⟨⟨o, e, hc⟩, fun a q => ?_⟩
    cases q
    exact ⟨o, e, hd⟩
def tBMT (K : PySem.W.Frag) (r : V → List V → Hp → VK → Prop) (to : TE) (t : TA) : TE := fun σ H Q => to σ H fun x H1 => TyF K H1 x ∧ t σ H1 fun xs H2 => r x xs H2 Q
section
variable {X : Cx} {o e : Expr} {es : List Expr} {to : TE} {t : TA} {name : Str} {apos cpos : Pos} {id : String} {r : V → List V → Hp → VK → Prop}
theorem pe_bmT (pa : PlainAttrs "tuple") (slot : Slot "tuple" name id) (hty : typeOf (.builtin id) = pure (.type "method_descriptor")) (hm : MtR X id r) (ho : PE X o to) (ha : PA X (e :: es) t)
    (hbase : attributeBase o name X.env (eval o X.env) = eval o X.env := by rfl)
    (hfew : ((backTo cpos (starEach (e :: es) X.env)).all (fun x => !x.1) && (backToKw cpos (keywordEach [] X.env)).all (fun x => x.1.isSome)
      && decide ((e :: es).length + ([] : List Keyword).length + (if ([] : List Keyword).isEmpty then 0 else 1) < 30)) = true := by rfl)
    (hline : (apos.endLine == cpos.line) = true := by rfl) (hs : starEach (e :: es) X.env = (false, eval e X.env) :: starEach es X.env := by rfl) (hplain : (backTo cpos (starEach es X.env)).any (·.1) = false := by rfl) :
    PE X (.Call (.Attribute o name apos) (e :: es) [] cpos) (tBMT X.K r to t) := by
  refine ⟨fun pins s σ H Q I h => ?_⟩
  refine wpAny_Call_method_late hbase hfew hline rfl (thn (ho.run pins s σ H _ I h) fun v s1 ⟨x, H1, I1, r1, ty, q1⟩ => ?_)
  obtain ⟨h1, h2⟩ := tyF_is I1 r1 ty
  refine ⟨"tuple", id, pa, slot, hty, h1, h2, ?_⟩
  have hA := ha.run cpos pins s1 σ H1 _ I1 q1
  rw [hs] at hA ⊢
  refine Calls.callWith_builtin (by show (false || (backTo cpos (starEach es X.env)).any (·.1)) = false; rw [hplain] <;> rfl) (Calls.evalArgs_plain ?_)
  exact thn hA fun us s2 ⟨vs, H2, I2, r2, q2⟩ => hm pins s2 σ H2 x vs v us Q I2 r1 r2 q2
end
def rIdxT (K : PySem.W.Frag) : V → List V → Hp → VK → Prop := fun x xs H Q => ∃ (p : Addr) (ys : List V) (k : V) (j : Nat), x = .ref p ∧ xs = [k] ∧ SqT K H p ys ∧ ys.all flatV = true ∧ flatV k = true ∧ ys.findIdx? (fun y => eqV y k) = some j ∧ j < 1000000 ∧ Q (.int (j : Nat)) H
theorem mt_tidxV {X : Cx} : MtR X "tuple.index" (rIdxT X.K) := by
  intro pins s σ H x xs v us Q I rx rxs h
  obtain ⟨p, ys, k, j, rfl, rfl, hs, fy, fk, ej, hj, q⟩ := h
  cases rx
  obtain ⟨u, rfl, ru⟩ := rxs.one
  obtain ⟨its, rv, ⟨⟨cls, dd, data, sl⟩, ho, hc, n, hd⟩, hlen⟩ := I.tuple hs
  simp only at hc hd
  subst hc hd
  rw [← find_eqU rv fy, List.findIdx?_eq_some_iff_getElem] at ej
  obtain ⟨h1, h2, h3⟩ := ej
  refine call_meets PySem.F.slot_tuple_index ⟨_, ho, rfl⟩ PySem.F.entry_tuple_index (PySem.F.args_tuple_index_2 _ _)
    (SeqAt.tuple_index2_found p its.toArray n dd sl u (fun m => match its[m]? with | some y => eqU k y | none => false) j (by simpa using h1) (Nat.zero_le _) (by simpa using h1) (by
      rw [List.getElem?_eq_getElem h1]
      exact h2) (fun m hm _ hmj => by
      have hm' : m < its.length := by simpa using hm
      rw [List.getElem?_eq_getElem hm']
      have := h3 m hmj
      simpa using this)) ⟨ho, fun m hm => ?_, ?_⟩
  · have hm' : m < its.length := by simpa using hm
    have e0 : its.toArray[m] = its[m] := by simp
    rw [e0, List.getElem?_eq_getElem hm']
    exact mem_eqAt ru fk rv fy _ (List.getElem_mem hm')
  · exact ⟨.int (j : Nat), H, I.tok _, ⟨s.toks, rfl⟩, q⟩
def isTup : D → Option Unit
  | .tuple _ => some ()
  | _ => none
def idxTF : D → D → Option Int
  | .tuple ds, x => if sc x && ds.all sc then (match ds.findIdx? fun y => eqS y x with | some j => if j < 1000000 then some ((j : Nat) : Int) else none | none => none) else none
  | _, _ => none
def cntTF : D → D → Option Int
  | .tuple ds, x => if (sc x && ds.all sc) = true then some ((ds.countP fun y => eqS y x : Nat) : Int) else none
  | _, _ => none
section
variable {γ : Type} {m : Type → Type} [PM γ m] {α α2 α3 β δ τ ω : Type} {C : Cc γ} {X : Cx} {ρ : En}
theorem ce_tindex {o e : Expr} {apos pos : Pos} {x : m β} {x2 : D → m β} {k : Int → m β} (he : ∀ d1, CE C X ρ e dv (x2 d1) (fun d2 => bnd (need (idxTF d1 d2)) k)) (ho : CE C X ρ o dv x (fun d => bnd (need (isTup d)) fun _ => x2 d))
    (hpe : ∀ to te, PE X o to → PE X e te → PE X (.Call (.Attribute o "index" apos) [e] [] pos) (tBMT X.K (rIdxT X.K) to (tCons te tNil)) := by intro to te h1 h2; exact pe_bmT PySem.F.plainAttrs_tuple PySem.F.slot_tuple_index PySem.F.type_tuple_index mt_tidxV h1 (pa_cons h2 pa_nil)) :
    CE C X ρ (.Call (.Attribute o "index" apos) [e] [] pos) iv x k := fun Qf =>
  PE.imp (hpe _ _ (ho Qf) (PE.ex fun d => he d Qf)) fun σ H Q ⟨G, J, g, st, w, q⟩ => ⟨G, J, g, st, w, fun v1 d1 H1 G1 J1 g1 af1 si1 r1 w1 => by
    obtain ⟨_, e0, w1⟩ := of_need w1
    cases r1 with
    | @tup p us ds h1 h2 =>
      refine ⟨⟨p, us, rfl, af1.vis.sub.seqF h1⟩, .tuple ds, G1, J1, g1, st.go af1 si1, w1, fun v2 d2 H2 G2 J2 g2 af2 si2 r2 w2 => ?_⟩
      obtain ⟨n, e1, w3⟩ := of_need w2
      have e1' : (if (sc d2 && ds.all sc) = true then (match ds.findIdx? fun y => eqS y d2 with | some j => if j < 1000000 then some ((j : Nat) : Int) else none | none => none) else none) = some n := e1
      split at e1'
      · rename_i hsc
        split at e1'
        · rename_i j ej
          split at e1'
          · rename_i hj
            cases e1'
            rw [Bool.and_eq_true] at hsc
            have h3 : RpL X.K G2 us ds := h2.sub af2.gg
            refine ⟨p, us, v2, j, rfl, rfl, (af2.gg.trans af2.vis.sub).seq h1, sc_all h3 hsc.2, sc_flat r2 hsc.1, ?_, hj, ?_⟩
            · rw [idx_rp r2 hsc.1 h3 hsc.2]
              exact ej
            · exact q _ _ H2 G2 J2 g2 (af1.trans af2) si2 (.int _) w3
          · cases e1'
        · cases e1'
      · cases e1'
    | _ => cases e0⟩
theorem ce_tcount {o e : Expr} {apos pos : Pos} {x : m β} {x2 : D → m β} {k : Int → m β} (he : ∀ d1, CE C X ρ e dv (x2 d1) (fun d2 => bnd (need (cntTF d1 d2)) k)) (ho : CE C X ρ o dv x (fun d => bnd (need (isTup d)) fun _ => x2 d))
    (hpe : ∀ to te, PE X o to → PE X e te → PE X (.Call (.Attribute o "count" apos) [e] [] pos) (tBMT X.K (rCntT X.K) to (tCons te tNil)) := by intro to te h1 h2; exact pe_bmT PySem.F.plainAttrs_tuple PySem.F.slot_tuple_count PySem.F.type_tuple_count mt_tcountV h1 (pa_cons h2 pa_nil)) :
    CE C X ρ (.Call (.Attribute o "count" apos) [e] [] pos) iv x k := fun Qf =>
  PE.imp (hpe _ _ (ho Qf) (PE.ex fun d => he d Qf)) fun σ H Q ⟨G, J, g, st, w, q⟩ => ⟨G, J, g, st, w, fun v1 d1 H1 G1 J1 g1 af1 si1 r1 w1 => by
    obtain ⟨_, e0, w1⟩ := of_need w1
    cases r1 with
    | @tup p us ds h1 h2 =>
      refine ⟨⟨p, us, rfl, af1.vis.sub.seqF h1⟩, .tuple ds, G1, J1, g1, st.go af1 si1, w1, fun v2 d2 H2 G2 J2 g2 af2 si2 r2 w2 => ?_⟩
      obtain ⟨n, e1, w3⟩ := of_need w2
      have e1' : (if (sc d2 && ds.all sc) = true then some ((ds.countP fun y => eqS y d2 : Nat) : Int) else none) = some n := e1
      split at e1'
      · rename_i hsc
        cases e1'
        rw [Bool.and_eq_true] at hsc
        have h3 : RpL X.K G2 us ds := h2.sub af2.gg
        refine ⟨p, us, v2, rfl, rfl, (af2.gg.trans af2.vis.sub).seq h1, sc_all h3 hsc.2, sc_flat r2 hsc.1, ?_⟩
        rw [count_rp r2 hsc.1 h3 hsc.2]
        exact q _ _ H2 G2 J2 g2 (af1.trans af2) si2 (.int _) w3
      · cases e1'
    | _ => cases e0⟩
end

/-! ### a method of a list or of a tuple -/
def tBMA (K : PySem.W.Frag) (r r2 : V → List V → Hp → VK → Prop) (to : TE) (t : TA) : TE := fun σ H Q => to σ H fun x H1 => (tyV K "list" x H1 ∧ t σ H1 fun xs H2 => r x xs H2 Q) ∨ (TyF K H1 x ∧ t σ H1 fun xs H2 => r2 x xs H2 Q)
section
variable {X : Cx} {o e : Expr} {es : List Expr} {to : TE} {t : TA} {name : Str} {apos cpos : Pos} {id id2 : String} {r r2 : V → List V → Hp → VK → Prop}
theorem pe_bmA (pa1 : PlainAttrs "list") (slot1 : Slot "list" name id2) (hty1 : typeOf (.builtin id2) = pure (.type "method_descriptor")) (hm1 : MtR X id2 r) (pa : PlainAttrs "tuple") (slot : Slot "tuple" name id) (hty : typeOf (.builtin id) = pure (.type "method_descriptor")) (hm : MtR X id r2) (ho : PE X o to) (ha : PA X (e :: es) t)
    (hbase : attributeBase o name X.env (eval o X.env) = eval o X.env := by rfl)
    (hfew : ((backTo cpos (starEach (e :: es) X.env)).all (fun x => !x.1) && (backToKw cpos (keywordEach [] X.env)).all (fun x => x.1.isSome)
      && decide ((e :: es).length + ([] : List Keyword).length + (if ([] : List Keyword).isEmpty then 0 else 1) < 30)) = true := by rfl)
    (hline : (apos.endLine == cpos.line) = true := by rfl) (hs : starEach (e :: es) X.env = (false, eval e X.env) :: starEach es X.env := by rfl) (hplain : (backTo cpos (starEach es X.env)).any (·.1) = false := by rfl) :
    PE X (.Call (.Attribute o name apos) (e :: es) [] cpos) (tBMA X.K r r2 to t) := by
  refine ⟨fun pins s σ H Q I h => ?_⟩
  refine wpAny_Call_method_late hbase hfew hline rfl (thn (ho.run pins s σ H _ I h) fun v s1 ⟨x, H1, I1, rx, q⟩ => ?_)
  rcases q with ⟨ty, q1⟩ | ⟨ty, q1⟩
  · obtain ⟨h1, h2⟩ := tyV_is I1 rx ty
    refine ⟨"list", id2, pa1, slot1, hty1, h1, h2, ?_⟩
    have hA := ha.run cpos pins s1 σ H1 _ I1 q1
    rw [hs] at hA ⊢
    refine Calls.callWith_builtin (by show (false || (backTo cpos (starEach es X.env)).any (·.1)) = false; rw [hplain] <;> rfl) (Calls.evalArgs_plain ?_)
    exact thn hA fun us s2 ⟨vs, H2, I2, rs, q2⟩ => hm1 pins s2 σ H2 x vs v us Q I2 rx rs q2
  · obtain ⟨h1, h2⟩ := tyF_is I1 rx ty
    refine ⟨"tuple", id, pa, slot, hty, h1, h2, ?_⟩
    have hA := ha.run cpos pins s1 σ H1 _ I1 q1
    rw [hs] at hA ⊢
    refine Calls.callWith_builtin (by show (false || (backTo cpos (starEach es X.env)).any (·.1)) = false; rw [hplain] <;> rfl) (Calls.evalArgs_plain ?_)
    exact thn hA fun us s2 ⟨vs, H2, I2, rs, q2⟩ => hm pins s2 σ H2 x vs v us Q I2 rx rs q2
end
/-- a list or a tuple -/
def isSq : D → Option Unit
  | .list _ => some ()
  | .tuple _ => some ()
  | _ => none
def idxA : D → D → Option Int
  | .list ds, x => idxF (.list ds) x
  | .tuple ds, x => idxTF (.tuple ds) x
  | _, _ => none
def cntA : D → D → Option Int
  | .list ds, x => countF (.list ds) x
  | .tuple ds, x => cntTF (.tuple ds) x
  | _, _ => none
section
variable {γ : Type} {m : Type → Type} [PM γ m] {α α2 α3 β δ τ ω : Type} {C : Cc γ} {X : Cx} {ρ : En}
theorem ce_sindex {o e : Expr} {apos pos : Pos} {x : m β} {x2 : D → m β} {k : Int → m β} (he : ∀ d1, CE C X ρ e dv (x2 d1) (fun d2 => bnd (need (idxA d1 d2)) k)) (ho : CE C X ρ o dv x (fun d => bnd (need (isSq d)) fun _ => x2 d))
    (hpe : ∀ to te, PE X o to → PE X e te → PE X (.Call (.Attribute o "index" apos) [e] [] pos) (tBMA X.K (rIdxV X.K) (rIdxT X.K) to (tCons te tNil)) := by intro to te h1 h2; exact pe_bmA PySem.F.plainAttrs_list PySem.F.slot_list_index PySem.F.type_list_index mt_lidxV PySem.F.plainAttrs_tuple PySem.F.slot_tuple_index PySem.F.type_tuple_index mt_tidxV h1 (pa_cons h2 pa_nil)) :
    CE C X ρ (.Call (.Attribute o "index" apos) [e] [] pos) iv x k := fun Qf =>
  PE.imp (hpe _ _ (ho Qf) (PE.ex fun d => he d Qf)) fun σ H Q ⟨G, J, g, st, w, q⟩ => ⟨G, J, g, st, w, fun v1 d1 H1 G1 J1 g1 af1 si1 r1 w1 => by
    obtain ⟨_, e0, w1⟩ := of_need w1
    cases r1 with
    | @lst p us ds h1 h2 =>
      refine .inl ⟨ty_lst (af1.vis.sub _ _ h1), .list ds, G1, J1, g1, st.go af1 si1, w1, fun v2 d2 H2 G2 J2 g2 af2 si2 r2 w2 => ?_⟩
      obtain ⟨n, e1, w3⟩ := of_need w2
      have e1' : (if (sc d2 && ds.all sc) = true then (match ds.findIdx? fun y => eqS y d2 with | some j => if j < 1000000 then some ((j : Nat) : Int) else none | none => none) else none) = some n := e1
      split at e1'
      · rename_i hsc
        split at e1'
        · rename_i j ej
          split at e1'
          · rename_i hj
            cases e1'
            rw [Bool.and_eq_true] at hsc
            have h3 : RpL X.K G2 us ds := h2.sub af2.gg
            refine ⟨p, us, v2, j, rfl, rfl, SqL.of (af2.vis.sub _ _ (af2.gg _ _ h1)), sc_all h3 hsc.2, sc_flat r2 hsc.1, ?_, hj, ?_⟩
            · rw [idx_rp r2 hsc.1 h3 hsc.2]
              exact ej
            · exact q _ _ H2 G2 J2 g2 (af1.trans af2) si2 (.int _) w3
          · cases e1'
        · cases e1'
      · cases e1'
    | @tup p us ds h1 h2 =>
      refine .inr ⟨⟨p, us, rfl, af1.vis.sub.seqF h1⟩, .tuple ds, G1, J1, g1, st.go af1 si1, w1, fun v2 d2 H2 G2 J2 g2 af2 si2 r2 w2 => ?_⟩
      obtain ⟨n, e1, w3⟩ := of_need w2
      have e1' : (if (sc d2 && ds.all sc) = true then (match ds.findIdx? fun y => eqS y d2 with | some j => if j < 1000000 then some ((j : Nat) : Int) else none | none => none) else none) = some n := e1
      split at e1'
      · rename_i hsc
        split at e1'
        · rename_i j ej
          split at e1'
          · rename_i hj
            cases e1'
            rw [Bool.and_eq_true] at hsc
            have h3 : RpL X.K G2 us ds := h2.sub af2.gg
            refine ⟨p, us, v2, j, rfl, rfl, (af2.gg.trans af2.vis.sub).seq h1, sc_all h3 hsc.2, sc_flat r2 hsc.1, ?_, hj, ?_⟩
            · rw [idx_rp r2 hsc.1 h3 hsc.2]
              exact ej
            · exact q _ _ H2 G2 J2 g2 (af1.trans af2) si2 (.int _) w3
          · cases e1'
        · cases e1'
      · cases e1'
    | _ => cases e0⟩
theorem ce_scount {o e : Expr} {apos pos : Pos} {x : m β} {x2 : D → m β} {k : Int → m β} (he : ∀ d1, CE C X ρ e dv (x2 d1) (fun d2 => bnd (need (cntA d1 d2)) k)) (ho : CE C X ρ o dv x (fun d => bnd (need (isSq d)) fun _ => x2 d))
    (hpe : ∀ to te, PE X o to → PE X e te → PE X (.Call (.Attribute o "count" apos) [e] [] pos) (tBMA X.K (rCntV X.K) (rCntT X.K) to (tCons te tNil)) := by intro to te h1 h2; exact pe_bmA PySem.F.plainAttrs_list PySem.F.slot_list_count PySem.F.type_list_count mt_lcountV PySem.F.plainAttrs_tuple PySem.F.slot_tuple_count PySem.F.type_tuple_count mt_tcountV h1 (pa_cons h2 pa_nil)) :
    CE C X ρ (.Call (.Attribute o "count" apos) [e] [] pos) iv x k := fun Qf =>
  PE.imp (hpe _ _ (ho Qf) (PE.ex fun d => he d Qf)) fun σ H Q ⟨G, J, g, st, w, q⟩ => ⟨G, J, g, st, w, fun v1 d1 H1 G1 J1 g1 af1 si1 r1 w1 => by
    obtain ⟨_, e0, w1⟩ := of_need w1
    cases r1 with
    | @lst p us ds h1 h2 =>
      refine .inl ⟨ty_lst (af1.vis.sub _ _ h1), .list ds, G1, J1, g1, st.go af1 si1, w1, fun v2 d2 H2 G2 J2 g2 af2 si2 r2 w2 => ?_⟩
      obtain ⟨n, e1, w3⟩ := of_need w2
      have e1' : (if (sc d2 && ds.all sc) = true then some ((ds.countP fun y => eqS y d2 : Nat) : Int) else none) = some n := e1
      split at e1'
      · rename_i hsc
        cases e1'
        rw [Bool.and_eq_true] at hsc
        have h3 : RpL X.K G2 us ds := h2.sub af2.gg
        refine ⟨p, us, v2, rfl, rfl, SqL.of (af2.vis.sub _ _ (af2.gg _ _ h1)), sc_all h3 hsc.2, sc_flat r2 hsc.1, ?_⟩
        rw [count_rp r2 hsc.1 h3 hsc.2]
        exact q _ _ H2 G2 J2 g2 (af1.trans af2) si2 (.int _) w3
      · cases e1'
    | @tup p us ds h1 h2 =>
      refine .inr ⟨⟨p, us, rfl, af1.vis.sub.seqF h1⟩, .tuple ds, G1, J1, g1, st.go af1 si1, w1, fun v2 d2 H2 G2 J2 g2 af2 si2 r2 w2 => ?_⟩
      obtain ⟨n, e1, w3⟩ := of_need w2
      have e1' : (if (sc d2 && ds.all sc) = true then some ((ds.countP fun y => eqS y d2 : Nat) : Int) else none) = some n := e1
      split at e1'
      · rename_i hsc
        cases e1'
        rw [Bool.and_eq_true] at hsc
        have h3 : RpL X.K G2 us ds := h2.sub af2.gg
        refine ⟨p, us, v2, rfl, rfl, (af2.gg.trans af2.vis.sub).seq h1, sc_all h3 hsc.2, sc_flat r2 hsc.1, ?_⟩
        rw [count_rp r2 hsc.1 h3 hsc.2]
        exact q _ _ H2 G2 J2 g2 (af1.trans af2) si2 (.int _) w3
      · cases e1'
    | _ => cases e0⟩
end
end Cl

set_option Elab.async false
set_option linter.all false
set_option autoImplicit false
set_option maxRecDepth 100000
set_option maxHeartbeats 400000
/-! the clean layer, part YH: a list of one's own and data, given back together -/
namespace Cl
open PySem PySem.Spec PyProof.Rows L2
open MO
abbrev pvR : List D × D → R := fun a => R.p a.1 a.2
section
variable {γ : Type} {m : Type → Type} [PM γ m] {α α2 α3 β δ τ ω : Type} {C : Cc γ} {X : Cx} {ρ : En} {rest : List Stmt} {out : ω → En} {outL : τ → En} {x : m β} {kn : ω → m β} {kb kc : τ → m β}
/-- return (y, e), y a list of one's own -/
theorem cs_retP {y : Str} {e : Expr} {p1 pt pos : Pos} {k2} (i : Nat) {xs : List D} {kr : List D × D → m β} (hi : ρ[i]? = some (some (.own (.lst xs)))) (he : CE C X ρ e dv x (fun d => kr (xs, d))) (hp : PE X (.Name y p1) (tVar i) := by exact pv _)
    (hs1 : starEach [.Name y p1, e] X.env = (false, eval (.Name y p1) X.env) :: starEach [e] X.env := by rfl) (hs2 : starEach [e] X.env = (false, eval e X.env) :: starEach [] X.env := by rfl) :
    CS C X ρ [.Return (some (.Tuple [.Name y p1, e] k2 pt)) pos] out outL pvR x kn kr kb kc := fun Qf =>
  PSs.imp (pss_one (ps_ret (pe_tupF (pa_cons hp (pa_cons (he Qf) pa_nil hs2) hs1)))) fun E σ H ⟨G, J, g, st, w, f⟩ => by
    obtain ⟨p, h1, h2, h3, h4, vs, hv, rl⟩ := st.env.own i _ hi
    refine ⟨_, h1, G, J, g, st, w, fun v d H' G' J' g' af si rr w' => ⟨by have := sizeLine_eq; show 2 ≤ sizeLine; omega, fun t ob nt oc od => ?_⟩⟩
    have n := New.laid (o := .frz ob (.tup [.ref p, v])) af.vis.sub nt
    have st2 := (st.go af si).go (n.aft af.vis) (SIx.nw si n)
    obtain ⟨p', k1, k2, k3, k4, k5⟩ := st2.env.own i _ hi
    rw [h1] at k1; cases k1
    exact f.rt (xs, d) (.ref t) _ _ J' g' st2.aft st2.si ⟨t, p, v, rfl, .inl ⟨ob, upd_same, oc, od⟩, Rp.sub n.gg rr, k2, k3, k4, k5⟩ w'
/-- y, z = e, e such a pair -/
theorem cs_asgP {δ : Type} {rk : δ → R} {kr : δ → m β} {i j : Nat} {n1 n2 : Str} {e : Expr} {p1 p2 pt pos : Pos} {kt} {xr : List D × D → m β}
    (hr : ∀ a : List D × D, CS C X ((ρ.set i (some (.own (.lst a.1)))).set j (some (.val a.2))) rest out outL rk (xr a) kn kr kb kc) (he : CE C X ρ e pvR x xr)
    (hp1 : PG X (.Name n1 p1) (gName i)) (hp2 : PG X (.Name n2 p2) (gName j)) (hc : X.calm = true := by rfl)
    (hg1 : (assignEach [.Name n1 p1, .Name n2 p2] X.env).map (·.2) = assign (.Name n1 p1) X.env :: (assignEach [.Name n2 p2] X.env).map (·.2) := by rfl) (hg2 : (assignEach [.Name n2 p2] X.env).map (·.2) = assign (.Name n2 p2) X.env :: (assignEach [] X.env).map (·.2) := by rfl)
    (hn : (assignEach [.Name n1 p1, .Name n2 p2] X.env).length = 2 := by rfl) (hst : (assignEach [.Name n1 p1, .Name n2 p2] X.env).findIdx? (·.1) = none := by rfl)
    (hps : ∀ te g, PE X e te → PG X (.Tuple [.Name n1 p1, .Name n2 p2] kt pt) g → PS X (.Assign [.Tuple [.Name n1 p1, .Name n2 p2] kt pt] e pos) (tAsg te g) := by intro te g he hg; exact ps_asg he hg) :
    CS C X ρ (.Assign [.Tuple [.Name n1 p1, .Name n2 p2] kt pt] e pos :: rest) out outL rk x kn kr kb kc := fun Qf =>
  PSs.imp (pss_cons (hps _ _ (he Qf) (pg_tup hc (pgs_cons hp1 (pgs_cons hp2 pgs_nil hg2) hg1) hn hst)) (PSs.ex fun q : List D × D => hr q Qf)) fun E σ H ⟨G, J, g, st, w, f⟩ =>
    ⟨G, J, g, st, w, fun v a H' G' J' g' af si rr w' => by
      obtain ⟨t, p, v2, rfl, ht, hr2, hb, hg, hj, hc'⟩ := rr
      have st1 := st.setL (i := i) af si hb hg hj hc'
      exact ⟨t, [.ref p, v2], rfl, af.vis.sub.seq ht, rfl, .ref p, [v2], rfl, v2, [], rfl, rfl, a, G', J', g', ⟨st1.env.setV hr2, st1.aft, st1.si⟩, w', f.sub af.gg⟩⟩
end
end Cl

set_option Elab.async false
set_option linter.all false
set_option autoImplicit false
set_option maxRecDepth 100000
set_option maxHeartbeats 2000000
set_option pp.maxSteps 400
namespace LawX
section
open PySem PySem.Spec PyProof.Rows L2 Cl
open MO
abbrev prog : Program := (PySem.Challenge.rw_leftasleep_k02_whole_numbers_of_books).prog
def topS (i : Nat) : Stmt := (PySem.Challenge.pw_leftasleep_k02_whole_numbers_of_books).main.body.getD i (.Pass ⟨0, 0, 0, 0⟩)
def G_MAX_BOOKS : D := .int 3456
def G_ENTRIES : D := .tuple [.tuple [.str "note", .tuple [.str "ahead", .str "behind"]], .tuple [.str "call", .tuple [.str "kept", .str "lost"]], .tuple [.str "put", .tuple [.str "first", .str "last"]], .tuple [.str "many", .tuple [.str "one", .str "each", .str "all"]], .tuple [.str "woken", .tuple [.str "tries", .str "takes", .str "given"]], .tuple [.str "fails", .tuple [.str "back", .str "front"]], .tuple [.str "pass", .tuple [.str "never", .str "left", .str "always"]], .tuple [.str "quits", .tuple [.str "passes", .str "drops"]], .tuple [.str "comers", .tuple [.str "free", .str "behind"]], .tuple [.str "order", .tuple [.str "first", .str "any"]]]
theorem txt_Unfit : PySem.ErrX.Txt0 (inClass (topS 5) 0) := ⟨⟨_, _, _, _, _, rfl, rfl⟩, ⟨_, rfl, rfl⟩, rfl, rfl, rfl, by decide +kernel, rfl, rfl, rfl⟩
structure Wd (w : World) (K : PySem.W.Frag) (mg : Str → Option Value) : Prop where
  d_is_word : Dfd K mg "is_word" "is_word" (topS 8) ["words", "value"]
  d_book_error : Dfd K mg "book_error" "book_error" (topS 9) ["value"]
  d_number_of : Dfd K mg "number_of" "number_of" (topS 10) ["book"]
  d__law_jar : Dfd K mg "_law_jar" "_law_jar" (topS 13) ["script"]
  d__law_draw : Dfd K mg "_law_draw" "_law_draw" (topS 14) ["jar", "many"]
  d__law_pick : Dfd K mg "_law_pick" "_law_pick" (topS 15) ["jar", "row"]
  d__law_words : Dfd K mg "_law_words" "_law_words" (topS 16) []
  d__law_named : Dfd K mg "_law_named" "_law_named" (topS 18) ["k"]
  d__law_book : Dfd K mg "_law_book" "_law_book" (topS 17) ["jar"]
  d__law_odd : Dfd K mg "_law_odd" "_law_odd" (topS 19) ["jar"]
  d__law_number : Dfd K mg "_law_number" "_law_number" (topS 20) ["book"]
  d__law_is_number : Dfd K mg "_law_is_number" "_law_is_number" (topS 21) ["value", "low", "top"]
  d_is_within : Dfd K mg "is_within" "is_within" (topS 2) ["value", "least", "most"]
  d_book_of : Dfd K mg "book_of" "book_of" (topS 11) ["value"]
  d__law_heard : Dfd K mg "_law_heard" "_law_heard" (topS 22) ["value", "is_named"]
  d__law_of : Dfd K mg "_law_of" "_law_of" (topS 23) ["number"]
  d_law : Dfd K mg "law" "law" (topS 24) ["script"]
  b_bool : mg "bool" = none
  b_int : mg "int" = none
  b_isinstance : mg "isinstance" = none
  b_len : mg "len" = none
  b_list : mg "list" = none
  b_range : mg "range" = none
  b_repr : mg "repr" = none
  b_str : mg "str" = none
  b_tuple : mg "tuple" = none
  b_zip : mg "zip" = none
  g_MAX_BOOKS : Glo K mg "MAX_BOOKS" G_MAX_BOOKS
  g_ENTRIES : Glo K mg "ENTRIES" G_ENTRIES
  kw_book_of_0_value : KwB K mg "book_of" ["value"] 0 ["value"] [0]
  kw_number_of_0_book : KwB K mg "number_of" ["book"] 0 ["book"] [0]
  e_Unfit : Err0 prog K mg "Unfit" (inClass (topS 5) 0)
  x_Unfit : Catch K mg "Unfit"
  s_Unfit_SleepError : Sort1 K mg "Unfit" "SleepError"
variable {w : World} {K : PySem.W.Frag} {mg : Str → Option Value} {base : Heap}
abbrev s_is_word : Stmt := topS 8
theorem sc_is_word : FnScope ["words", "value"] ["words", "value"] (defScope s_is_word) := ⟨rfl, rfl, rfl, by decide +kernel, rfl, by decide +kernel, by decide +kernel⟩
def m_is_word : Ar [true, true] → P (Bool) := fun (d1, d2, ()) =>
  bnd ((if (isT "str" d2) = true then bnd (need (inF d2 d1)) fun b3 => pur b3 else pur false)) fun b4 => pur b4
theorem cal_is_word (W : Wd w K mg) : Cal prog w K mg base "is_word" 1 ["words", "value"] (spC K (S0) [true, true] (m_is_word) bv) :=
  cal_of (fun _ => lift .no) W.d_is_word sc_is_word rfl (.inl rfl) (fun f' cdv A outer s H G J E a hr hgd => by
    obtain ⟨d1, d2, ⟨⟩⟩ := a; exact cs_eq (cs_ret (ce_bnd (ce_and (ce_one (ce_cmp (op_inA (Room.u65 hr)) p2_in (fun _ => (ce_name (i := 0) (d := d1))) (ce_name (i := 1) (d := d2)))) (ce_isi kit_str W.b_isinstance W.b_str (by first | exact PySem.boot_str | exact PyProof.Rows.boot_str | exact L2.boot_str | decide +kernel) (ce_name (i := 1) (d := d2)))))) rfl)
abbrev s_book_error : Stmt := topS 9
theorem sc_book_error : FnScope ["value", "item", "name", "words"] ["value"] (defScope s_book_error) := ⟨rfl, rfl, rfl, by decide +kernel, rfl, by decide +kernel, by decide +kernel⟩
def m_book_error : Ar [true] → P (D) := fun (d1, ()) =>
  bnd ((if (!(isT "tuple" d1)) = true then pur true else bnd (need (lenF [d1])) fun i9 => bnd (need (lenF [G_ENTRIES])) fun i10 => bnd (need (neF (PyData.int i9) (PyData.int i10))) fun b11 => pur b11)) fun b12 => (if b12 = true then pur (.str "form") else bnd (need (zipF [G_ENTRIES, d1])) fun l8 => bnd (forL (δ := D) (τ := Unit) l8 () fun d5 t2 => bnd (need ((unT (unC (unT (unC some (un1 some))) (un1 some))) d5)) fun a4 => bnd (lift (callM [true, true] (m_is_word) [.v a4.1.2, .v a4.2])) fun b6 => (if (!b6) = true then pur (.rt (.tuple [(.str "entry"), a4.1.1])) else pur (.nx ()))) (lpK (fun t3 => pur .none) fun r7 => pur r7))
theorem cal_book_error (W : Wd w K mg) : Cal prog w K mg base "book_error" 2 ["value"] (spC K (S0) [true] (m_book_error) R.v) :=
  cal_of (fun _ => lift .no) W.d_book_error sc_book_error rfl (.inl rfl) (fun f' cdv A outer s H G J E a hr hgd => by
    obtain ⟨d1, ⟨⟩⟩ := a; exact cs_eq (cs_ifT (fun _ => (cs_ret ce_str)) (cs_for (outl := fun t2 : Unit => [some (.val d1), none, none, none]) (un := (unT (unC (unT (unC some (un1 some))) (un1 some)))) (outT := fun (t2 : Unit) (a4 : (((D × D)) × D)) => [some (.val d1), some (.val a4.2), some (.val a4.1.1), some (.val a4.1.2)]) (sl := [2, 3, 1]) (() : Unit) (fun t3 => (cs_ret ce_none)) (fun a4 t2 => (cs_ifT (fun _ => (cs_ret (ce_tup (cd_cons (fun _ => (cd_cons (fun _ => cd_nil) (ce_name (i := 2) (d := a4.1.1)))) ce_str)))) (cs_nil (a := ()) (show LeE [some (.val d1), none, none, none] [some (.val d1), some (.val a4.2), some (.val a4.1.1), some (.val a4.1.2)] from (le_same (le_none (le_none (le_none le_nil)))))) (ct_not (ct_val (ce_callP (cal_is_word W) (hr.mono (by decide)) hgd (ca_cons (rk := R.v) (fun _ => (ca_cons (rk := R.v) (fun _ => ca_nil) (ce_name (i := 1) (d := a4.2)))) (ce_name (i := 3) (d := a4.1.2)))))))) (fun t2 => (cg_tup (cgs_cons (cg_tup (cgs_cons (cg_name 2 (pg_name sc_book_error.nd rfl (by first | exact .inl rfl | exact .inr rfl))) fun _ => (cgs_one (cg_name 3 (pg_name sc_book_error.nd rfl (by first | exact .inl rfl | exact .inr rfl)))))) fun _ => (cgs_one (cg_name 1 (pg_name sc_book_error.nd rfl (by first | exact .inl rfl | exact .inr rfl))))))) (ci_zip W.b_zip (cd_cons (fun _ => (cd_cons (fun _ => cd_nil) (ce_name (i := 0) (d := d1)))) (ce_glob W.g_ENTRIES))) (show LeE [some (.val d1), none, none, none] [some (.val d1), none, none, none] from (le_same (le_none (le_none (le_none le_nil)))))) (ct_bnd (ct_w (cw_or (cw_or1 (ct_cmp (op_neA (Room.u64 hr)) p2_ne (fun _ => (ce_to PyData.int (ce_blt call_len pc_len W.b_len (by first | exact PySem.boot_len | exact PyProof.Rows.boot_len | exact L2.boot_len | decide +kernel) (cd_cons (fun _ => cd_nil) (ce_glob W.g_ENTRIES))))) (ce_to PyData.int (ce_blt call_len pc_len W.b_len (by first | exact PySem.boot_len | exact PyProof.Rows.boot_len | exact L2.boot_len | decide +kernel) (cd_cons (fun _ => cd_nil) (ce_name (i := 0) (d := d1))))))) (ct_not (ct_val (ce_isi kit_tuple W.b_isinstance W.b_tuple (by first | exact PySem.boot_tuple | exact PyProof.Rows.boot_tuple | exact L2.boot_tuple | decide +kernel) (ce_name (i := 0) (d := d1))))))))) rfl)
abbrev s_number_of : Stmt := topS 10
theorem sc_number_of : FnScope ["book", "number", "word", "name", "words"] ["book"] (defScope s_number_of) := ⟨rfl, rfl, rfl, by decide +kernel, rfl, by decide +kernel, by decide +kernel⟩
def m_number_of : Ar [true] → P (D) := fun (d1, ()) =>
  (fun d2 => bnd (need (zipF [G_ENTRIES, d1])) fun l12 => bnd (forP (τ := D) l12 d2 fun d6 t3 => bnd (need ((unT (unC (unT (unC some (un1 some))) (un1 some))) d6)) fun a5 => bnd (need (lenF [a5.1.2])) fun i8 => bnd (need (mulF t3 (PyData.int i8))) fun d9 => bnd (need (isSq a5.1.2)) fun _ => bnd (need (idxA a5.1.2 a5.2)) fun i10 => bnd (need (addF d9 (PyData.int i10))) fun d11 => (fun d7 => pur d7) d11) fun t4 => pur t4) (.int 0)
theorem cal_number_of (W : Wd w K mg) : Cal prog w K mg base "number_of" 1 ["book"] (spC K (S0) [true] (m_number_of) R.v) :=
  cal_of (fun _ => lift .no) W.d_number_of sc_number_of rfl (.inl rfl) (fun f' cdv A outer s H G J E a hr hgd => by
    obtain ⟨d1, ⟨⟩⟩ := a; exact cs_eq (cs_set (i := 1) (fun d2 => (cs_forP (outl := fun t3 : D => [some (.val d1), some (.val t3), none, none, none]) (un := (unT (unC (unT (unC some (un1 some))) (un1 some)))) (outT := fun (t3 : D) (a5 : (((D × D)) × D)) => [some (.val d1), some (.val t3), some (.val a5.2), some (.val a5.1.1), some (.val a5.1.2)]) (sl := [3, 4, 2]) (d2 : D) (fun t4 => (cs_ret (ce_name (i := 1) (d := t4)))) (fun a5 t3 => (cs_set (i := 1) (fun d7 => (cs_nil (a := d7) (show LeE [some (.val d1), some (.val d7), none, none, none] [some (.val d1), some (.val d7), some (.val a5.2), some (.val a5.1.1), some (.val a5.1.2)] from (le_same (le_same (le_none (le_none (le_none le_nil)))))))) (ce_op op_addA p2_add (fun _ => (ce_to PyData.int (ce_sindex (fun _ => (ce_name (i := 2) (d := a5.2))) (ce_name (i := 4) (d := a5.1.2))))) (ce_op op_mulA p2_mul (fun _ => (ce_to PyData.int (ce_blt call_len pc_len W.b_len (by first | exact PySem.boot_len | exact PyProof.Rows.boot_len | exact L2.boot_len | decide +kernel) (cd_cons (fun _ => cd_nil) (ce_name (i := 4) (d := a5.1.2)))))) (ce_name (i := 1) (d := t3)))) sc_number_of.nd)) (fun t3 => (cg_tup (cgs_cons (cg_tup (cgs_cons (cg_name 3 (pg_name sc_number_of.nd rfl (by first | exact .inl rfl | exact .inr rfl))) fun _ => (cgs_one (cg_name 4 (pg_name sc_number_of.nd rfl (by first | exact .inl rfl | exact .inr rfl)))))) fun _ => (cgs_one (cg_name 2 (pg_name sc_number_of.nd rfl (by first | exact .inl rfl | exact .inr rfl))))))) (ci_zip W.b_zip (cd_cons (fun _ => (cd_cons (fun _ => cd_nil) (ce_name (i := 0) (d := d1)))) (ce_glob W.g_ENTRIES))) (show LeE [some (.val d1), some (.val d2), none, none, none] [some (.val d1), some (.val d2), none, none, none] from (le_same (le_same (le_none (le_none (le_none le_nil)))))))) ce_int sc_number_of.nd) rfl)
abbrev s__law_jar : Stmt := topS 13
theorem sc__law_jar : FnScope ["script", "own", "far", "cells", "seal"] ["script"] (defScope s__law_jar) := ⟨rfl, rfl, rfl, by decide +kernel, rfl, by decide +kernel, by decide +kernel⟩
def m__law_jar (sc : Addr) (ns : List Int) : Ar [false] → M GH (Addr) := fun (a1, ()) =>
  bnd (need (asI (.int 63))) fun i12 => bnd (scM sc ns a1) fun l13 => bnd (need (items (.list (cutD l13 none (some i12))))) fun l14 => bnd (nox (compL l14 [] fun d4 => bnd (need (some d4)) fun a3 => (if true = true then bnd (α := D) (bnd (need (geF a3 (.int 0))) fun b9 => (if b9 = true then bnd (need (mulF (.int 2) a3)) fun d5 => pur d5 else bnd (need (negF (.int 2))) fun d6 => bnd (need (mulF d6 a3)) fun d7 => bnd (need (subF d7 (.int 1))) fun d8 => pur d8)) fun d10 => pur (some d10) else pur none))) fun l11 => (fun d2 => bnd (scM sc ns a1) fun i16 => bnd (need (mulF (.int 5) (PyData.int ((i16.length : Nat) : Int)))) fun d17 => bnd (need (addF (.int 15782) d17)) fun d18 => (fun d15 => bnd (need (items d2)) fun l42 => bnd (forP (τ := D) l42 d15 fun d22 t19 => bnd (need (some d22)) fun a21 => bnd (need (mulF t19 (.int 16807))) fun d24 => bnd (need (mulF a21 (.int 3))) fun d25 => bnd (need (addF d24 d25)) fun d26 => bnd (need (addF d26 (.int 5))) fun d27 => bnd (need (intF [d27])) fun i28 => bnd (need (modF (PyData.int i28) (.int 4294967279))) fun d29 => (fun d23 => pur d23) d29) fun t20 => bnd (need (items d2)) fun l35 => bnd (nox (compL l35 [] fun d31 => bnd (need (some d31)) fun a30 => bnd (need (powF (.int 10) (.int 18))) fun d32 => bnd (need (geF a30 d32)) fun b33 => (if b33 = true then pur (some a30) else pur none))) fun l34 => bnd (giveM l34) fun a36 => bnd (need (lenF [d2])) fun i38 => bnd (need (mulF (.int 7) (PyData.int i38))) fun d39 => bnd (need (addF d39 (.int 3))) fun d40 => bnd (need (addL d2 (.list [d40]))) fun l41 => bnd (nwM [(.inr "far", .o a36), (.inr "cells", .l (.lst l41)), (.inr "seal", .v t20), (.inr "count", .v (.int 0))]) fun a37 => pur a37) d18) (PyData.list l11)
theorem cal__law_jar (W : Wd w K mg) (sc : Addr) (ns : List Int) : Cal prog w K mg base "_law_jar" 1 ["script"] (spC K (SR K sc ns) [false] (m__law_jar sc ns) R.o) :=
  cal_of (fun _ => lift .no) W.d__law_jar sc__law_jar rfl (.inl rfl) (fun f' cdv A outer s H G J E a hr hgd => by
    obtain ⟨a1, ⟨⟩⟩ := a; exact cs_eq (cs_par (i := 3) (j := 4) (r1 := R.v) (r2 := R.v) (fun d2 d15 => (cs_forP (outl := fun t19 : D => [some (.obj a1), none, none, some (.val d2), some (.val t19)]) (un := some) (outT := fun (t19 : D) (a21 : D) => [some (.obj a1), some (.val a21), none, some (.val d2), some (.val t19)]) (sl := [1]) (d15 : D) (fun t20 => (cs_setC (i := 2) (un := some) (outT := fun a30 : D => [some (.obj a1), some (.val a30), none, some (.val d2), some (.val t20)]) (sl := [1]) (own := [("own", 1)]) (fun l34 => (cs_give 2 (xs := l34) rfl (fun a36 => (cs_ret (ce_dct (cdc_cons (fun _ => (cdc_cons (fun _ => (cdc_cons (fun _ => (cdc_cons (fun _ => cdc_nil) ce_int)) (ce_name (i := 4) (d := t20)))) (ce_opL op_addA p2_addL (fun _ => (ce_show (ce_lst (cd_cons (fun _ => cd_nil) (ce_op op_addA p2_add (fun _ => ce_int) (ce_op op_mulA p2_mul (fun _ => (ce_to PyData.int (ce_blt call_len pc_len W.b_len (by first | exact PySem.boot_len | exact PyProof.Rows.boot_len | exact L2.boot_len | decide +kernel) (cd_cons (fun _ => cd_nil) (ce_name (i := 3) (d := d2)))))) ce_int)))))) (ce_name (i := 3) (d := d2))))) (ce_obj (i := 2) (a := a36)))))))) (fun _ _ _ _ _ a30 => (ce_name (i := 1) (d := a30))) (fun _ _ _ _ _ a30 => (cts_one (ct_cmp op_ge (p2_cmpI _) (fun _ => (ce_op op_pow p2_pow (fun _ => ce_int) ce_int)) (ce_name (i := 1) (d := a30))))) (fun _ _ _ _ _ => (cg_name 1 (pg_name sc__law_jar.nd rfl (by first | exact .inl rfl | exact .inr rfl)))) (ci_seq (ce_name (i := 3) (d := d2))) sc__law_jar.nd (by exact ⟨rfl, of_decide_eq_true (by kernel_rfl), of_decide_eq_true (by kernel_rfl), of_decide_eq_true (by kernel_rfl), of_decide_eq_true (by kernel_rfl)⟩) rfl)) (fun a21 t19 => (cs_set (i := 4) (fun d23 => (cs_nil (a := d23) (show LeE [some (.obj a1), none, none, some (.val d2), some (.val d23)] [some (.obj a1), some (.val a21), none, some (.val d2), some (.val d23)] from (le_same (le_none (le_none (le_same (le_same le_nil)))))))) (ce_op op_mod p2_mod (fun _ => ce_int) (ce_to PyData.int (ce_ty call_intA pc_int W.b_int (by first | exact PySem.boot_int | exact PyProof.Rows.boot_int | exact L2.boot_int | decide +kernel) (cd_cons (fun _ => cd_nil) (ce_op op_addA p2_add (fun _ => ce_int) (ce_op op_addA p2_add (fun _ => (ce_op op_mulA p2_mul (fun _ => ce_int) (ce_name (i := 1) (d := a21)))) (ce_op op_mulA p2_mul (fun _ => ce_int) (ce_name (i := 4) (d := t19))))))))) sc__law_jar.nd)) (fun t19 => (cg_name 1 (pg_name sc__law_jar.nd rfl (by first | exact .inl rfl | exact .inr rfl)))) (ci_seq (ce_name (i := 3) (d := d2))) (show LeE [some (.obj a1), none, none, some (.val d2), some (.val d15)] [some (.obj a1), none, none, some (.val d2), some (.val d15)] from (le_same (le_none (le_none (le_same (le_same le_nil)))))))) (fun _ => (ce_op op_addA p2_add (fun _ => (ce_op op_mulA p2_mul (fun _ => (ce_to PyData.int (ce_scrLen W.b_len (ce_obj (i := 0) (a := a1))))) ce_int)) ce_int)) (ce_show (ce_comp (un := some) (outT := fun a3 : D => [some (.obj a1), some (.val a3), none, none, none]) (sl := [1]) (own := [("own", 1)]) (fun _ _ _ _ _ a3 => (ce_bnd (ce_if (ce_op op_mulA p2_mul (fun _ => (ce_name (i := 1) (d := a3))) ce_int) (ce_op op_sub p2_sub (fun _ => ce_int) (ce_op op_mulA p2_mul (fun _ => (ce_name (i := 1) (d := a3))) (ce_un un_neg p1_neg ce_int))) (ct_cmp op_ge (p2_cmpI _) (fun _ => ce_int) (ce_name (i := 1) (d := a3)))))) (fun _ _ _ _ _ a3 => cts_nil) (fun _ _ _ _ _ => (cg_name 1 (pg_name sc__law_jar.nd rfl (by first | exact .inl rfl | exact .inr rfl)))) (ci_seq (ce_show (ce_scrSl (fun _ => (co_some ce_int)) (ce_obj (i := 0) (a := a1))))) sc__law_jar.nd (by exact ⟨rfl, of_decide_eq_true (by kernel_rfl), of_decide_eq_true (by kernel_rfl), of_decide_eq_true (by kernel_rfl), of_decide_eq_true (by kernel_rfl)⟩))) sc__law_jar.nd) rfl)
abbrev s__law_draw : Stmt := topS 14
theorem sc__law_draw : FnScope ["jar", "many", "far", "mix", "whole", "count", "cells"] ["jar", "many"] (defScope s__law_draw) := ⟨rfl, rfl, rfl, by decide +kernel, rfl, by decide +kernel, by decide +kernel⟩
def m__law_draw : Ar [false, true] → M GH (D) := fun (a1, d2, ()) =>
  bnd (fldO a1 (.inr "far")) fun a3 => bnd (rdM a3 neNilF) fun b48 => (if b48 = true then bnd (mtM a3 pop0F) fun d5 => (fun d4 => jn (α := Unit) (fun k7 => bnd (need (geF d4 d2)) fun b10 => (if b10 = true then bnd (isL a3) fun _ => bnd (need (fdivF d4 d2)) fun d9 => bnd (mtM a3 (ins0F d9)) fun u8 => k7 () else k7 ())) fun t6 => bnd (need (intF [d4])) fun i11 => bnd (need (modF (PyData.int i11) d2)) fun d12 => pur d12) d5 else bnd (fldD a1 (.inr "count")) fun d13 => bnd (need (addF d13 (.int 1))) fun d14 => bnd (putM a1 (.inr "count") d14) fun _ => bnd (fldD a1 (.inr "count")) fun d16 => (fun d15 => bnd (fldO a1 (.inr "cells")) fun a18 => (fun a17 => bnd (fldD a1 (.inr "seal")) fun d20 => bnd (need (intF [d15])) fun i22 => bnd (rdM a17 lenL) fun i23 => bnd (need (modF (PyData.int i22) (PyData.int i23))) fun d24 => bnd (rdM a17 (atF d24)) fun d21 => bnd (need (intF [d21])) fun i25 => bnd (need (mulF (.int 7919) (PyData.int i25))) fun d26 => bnd (need (addF d20 d26)) fun d27 => bnd (need (mulF (.int 104729) d15)) fun d28 => bnd (need (addF d27 d28)) fun d29 => bnd (need (intF [d29])) fun i30 => bnd (need (modF (PyData.int i30) (.int 4294967291))) fun d31 => (fun d19 => bnd (need (mulF d19 (.int 22695477))) fun d33 => bnd (need (mulF d15 d15)) fun d34 => bnd (need (addF d33 d34)) fun d35 => bnd (need (addF d35 (.int 1))) fun d36 => bnd (need (intF [d36])) fun i37 => bnd (need (modF (PyData.int i37) (.int 4294967291))) fun d38 => (fun d32 => bnd (need (mulF d32 (.int 48271))) fun d40 => bnd (need (fdivF d32 (.int 65536))) fun d41 => bnd (need (addF d40 d41)) fun d42 => bnd (need (intF [d42])) fun i43 => bnd (need (modF (PyData.int i43) (.int 4294967279))) fun d44 => (fun d39 => bnd (need (fdivF d39 (.int 1024))) fun d45 => bnd (need (intF [d45])) fun i46 => bnd (need (modF (PyData.int i46) d2)) fun d47 => pur d47) d44) d38) d31) a18) d16)
theorem cal__law_draw (W : Wd w K mg) (sc : Addr) (ns : List Int) : Cal prog w K mg base "_law_draw" 1 ["jar", "many"] (spC K (SR K sc ns) [false, true] (m__law_draw) R.v) :=
  cal_of (fun _ => lift .no) W.d__law_draw sc__law_draw rfl (.inl rfl) (fun f' cdv A outer s H G J E a hr hgd => by
    obtain ⟨a1, d2, ⟨⟩⟩ := a; exact cs_eq (cs_setO (i := 2) (fun a3 => (cs_ifT (fun _ => (cs_set (i := 4) (fun d4 => (cs_ifJ (out1 := fun t6 : Unit => [some (.obj a1), some (.val d2), some (.obj a3), none, some (.val d4), none, none]) (fun t6 => (cs_ret (ce_op op_mod p2_mod (fun _ => (ce_name (i := 1) (d := d2))) (ce_to PyData.int (ce_ty call_intA pc_int W.b_int (by first | exact PySem.boot_int | exact PyProof.Rows.boot_int | exact L2.boot_int | decide +kernel) (cd_cons (fun _ => cd_nil) (ce_name (i := 4) (d := d4)))))))) (fun k7 => (cs_expr (cs_nil (a := ()) (show LeE [some (.obj a1), some (.val d2), some (.obj a3), none, some (.val d4), none, none] [some (.obj a1), some (.val d2), some (.obj a3), none, some (.val d4), none, none] from (le_same (le_same (le_same (le_none (le_same (le_none (le_none le_nil))))))))) (ce_insO (fun _ => (ce_op op_fdiv p2_fdiv (fun _ => (ce_name (i := 1) (d := d2))) (ce_name (i := 4) (d := d4)))) (ce_obj (i := 2) (a := a3))))) (fun k7 => (cs_nil (a := ()) (show LeE [some (.obj a1), some (.val d2), some (.obj a3), none, some (.val d4), none, none] [some (.obj a1), some (.val d2), some (.obj a3), none, some (.val d4), none, none] from (le_same (le_same (le_same (le_none (le_same (le_none (le_none le_nil)))))))))) (fun k7 => (ct_cmp op_ge (p2_cmpI _) (fun _ => (ce_name (i := 1) (d := d2))) (ce_name (i := 4) (d := d4)))))) (ce_pop0O (ce_obj (i := 2) (a := a3))) sc__law_draw.nd)) (cs_fldSet (Room.u1 hr) (cs_par (i := 5) (j := 6) (r1 := R.v) (r2 := R.o) (fun d15 a17 => (cs_set (i := 3) (fun d19 => (cs_set (i := 3) (fun d32 => (cs_set (i := 3) (fun d39 => (cs_ret (ce_op op_mod p2_mod (fun _ => (ce_name (i := 1) (d := d2))) (ce_to PyData.int (ce_ty call_intA pc_int W.b_int (by first | exact PySem.boot_int | exact PyProof.Rows.boot_int | exact L2.boot_int | decide +kernel) (cd_cons (fun _ => cd_nil) (ce_op op_fdiv p2_fdiv (fun _ => ce_int) (ce_name (i := 3) (d := d39))))))))) (ce_op op_mod p2_mod (fun _ => ce_int) (ce_to PyData.int (ce_ty call_intA pc_int W.b_int (by first | exact PySem.boot_int | exact PyProof.Rows.boot_int | exact L2.boot_int | decide +kernel) (cd_cons (fun _ => cd_nil) (ce_op op_addA p2_add (fun _ => (ce_op op_fdiv p2_fdiv (fun _ => ce_int) (ce_name (i := 3) (d := d32)))) (ce_op op_mulA p2_mul (fun _ => ce_int) (ce_name (i := 3) (d := d32)))))))) sc__law_draw.nd)) (ce_op op_mod p2_mod (fun _ => ce_int) (ce_to PyData.int (ce_ty call_intA pc_int W.b_int (by first | exact PySem.boot_int | exact PyProof.Rows.boot_int | exact L2.boot_int | decide +kernel) (cd_cons (fun _ => cd_nil) (ce_op op_addA p2_add (fun _ => ce_int) (ce_op op_addA p2_add (fun _ => (ce_op op_mulA p2_mul (fun _ => (ce_name (i := 5) (d := d15))) (ce_name (i := 5) (d := d15)))) (ce_op op_mulA p2_mul (fun _ => ce_int) (ce_name (i := 3) (d := d19))))))))) sc__law_draw.nd)) (ce_op op_mod p2_mod (fun _ => ce_int) (ce_to PyData.int (ce_ty call_intA pc_int W.b_int (by first | exact PySem.boot_int | exact PyProof.Rows.boot_int | exact L2.boot_int | decide +kernel) (cd_cons (fun _ => cd_nil) (ce_op op_addA p2_add (fun _ => (ce_op op_mulA p2_mul (fun _ => (ce_name (i := 5) (d := d15))) ce_int)) (ce_op op_addA p2_add (fun _ => (ce_op op_mulA p2_mul (fun _ => (ce_to PyData.int (ce_ty call_intA pc_int W.b_int (by first | exact PySem.boot_int | exact PyProof.Rows.boot_int | exact L2.boot_int | decide +kernel) (cd_cons (fun _ => cd_nil) (ce_ixO (Room.u1 hr) (fun _ => (ce_op op_mod p2_mod (fun _ => (ce_to PyData.int (ce_lenO W.b_len (ce_obj (i := 6) (a := a17))))) (ce_to PyData.int (ce_ty call_intA pc_int W.b_int (by first | exact PySem.boot_int | exact PyProof.Rows.boot_int | exact L2.boot_int | decide +kernel) (cd_cons (fun _ => cd_nil) (ce_name (i := 5) (d := d15))))))) (ce_obj (i := 6) (a := a17))))))) ce_int)) (ce_fldD (Room.u1 hr) (ce_obj (i := 0) (a := a1))))))))) sc__law_draw.nd)) (fun _ => (ce_fldO (Room.u1 hr) (ce_obj (i := 0) (a := a1)))) (ce_fldD (Room.u1 hr) (ce_obj (i := 0) (a := a1))) sc__law_draw.nd) (fun _ => (ce_obj (i := 0) (a := a1))) (ce_op op_addA p2_add (fun _ => ce_int) (ce_fldD (Room.u1 hr) (ce_obj (i := 0) (a := a1))))) (ct_neNil (Room.u64 hr) (ce_obj (i := 2) (a := a3))))) (ce_fldO (Room.u1 hr) (ce_obj (i := 0) (a := a1))) sc__law_draw.nd) rfl)
abbrev s__law_pick : Stmt := topS 15
theorem sc__law_pick : FnScope ["jar", "row"] ["jar", "row"] (defScope s__law_pick) := ⟨rfl, rfl, rfl, by decide +kernel, rfl, by decide +kernel, by decide +kernel⟩
def m__law_pick : Ar [false, true] → M GH (D) := fun (a1, d2, ()) =>
  bnd (need (lenF [d2])) fun i4 => bnd (nox (callM [false, true] (m__law_draw) [.o a1, .v (PyData.int i4)])) fun d3 => bnd (need (ixF d2 d3)) fun d5 => pur d5
theorem cal__law_pick (W : Wd w K mg) (sc : Addr) (ns : List Int) : Cal prog w K mg base "_law_pick" 2 ["jar", "row"] (spC K (SR K sc ns) [false, true] (m__law_pick) R.v) :=
  cal_of (fun _ => lift .no) W.d__law_pick sc__law_pick rfl (.inl rfl) (fun f' cdv A outer s H G J E a hr hgd => by
    obtain ⟨a1, d2, ⟨⟩⟩ := a; exact cs_eq (cs_ret (ce_ix (Room.u1 hr) (fun _ => (ce_callM (cal__law_draw W sc ns) (hr.mono (by decide)) hgd (ca_cons (rk := R.o) (fun _ => (ca_cons (rk := R.v) (fun _ => ca_nil) (ce_to PyData.int (ce_blt call_len pc_len W.b_len (by first | exact PySem.boot_len | exact PyProof.Rows.boot_len | exact L2.boot_len | decide +kernel) (cd_cons (fun _ => cd_nil) (ce_name (i := 1) (d := d2))))))) (ce_obj (i := 0) (a := a1))))) (ce_name (i := 1) (d := d2)))) rfl)
abbrev s__law_words : Stmt := topS 16
theorem sc__law_words : FnScope ["found"] [] (defScope s__law_words) := ⟨rfl, rfl, rfl, by decide +kernel, rfl, by decide +kernel, by decide +kernel⟩
def m__law_words : Ar [] → P (List D) := fun () =>
  (fun d1 => bnd (need (addL d1 (.list [(.tuple [(.str "many"), (.tuple [(.str "one"), (.str "each"), (.str "all")])]), (.tuple [(.str "woken"), (.tuple [(.str "tries"), (.str "takes"), (.str "given")])])]))) fun l3 => (fun d2 => bnd (need (addL d2 (.list [(.tuple [(.str "fails"), (.tuple [(.str "back"), (.str "front")])]), (.tuple [(.str "pass"), (.tuple [(.str "never"), (.str "left"), (.str "always")])])]))) fun l5 => (fun d4 => bnd (need (addL d4 (.list [(.tuple [(.str "quits"), (.tuple [(.str "passes"), (.str "drops")])]), (.tuple [(.str "comers"), (.tuple [(.str "free"), (.str "behind")])]), (.tuple [(.str "order"), (.tuple [(.str "first"), (.str "any")])])]))) fun l6 => pur l6) (PyData.list l5)) (PyData.list l3)) (.list [(.tuple [(.str "note"), (.tuple [(.str "ahead"), (.str "behind")])]), (.tuple [(.str "call"), (.tuple [(.str "kept"), (.str "lost")])]), (.tuple [(.str "put"), (.tuple [(.str "first"), (.str "last")])])])
theorem cal__law_words (W : Wd w K mg) : Cal prog w K mg base "_law_words" 1 [] (spC K (S0) [] (m__law_words) lv) :=
  cal_of (fun _ => lift .no) W.d__law_words sc__law_words rfl (.inl rfl) (fun f' cdv A outer s H G J E a hr hgd => by
    cases a; exact cs_eq (cs_set (i := 0) (fun d1 => (cs_set (i := 0) (fun d2 => (cs_set (i := 0) (fun d4 => (cs_ret (ce_opL op_addA p2_addL (fun _ => (ce_show (ce_lst (cd_cons (fun _ => (cd_cons (fun _ => (cd_cons (fun _ => cd_nil) (ce_tup (cd_cons (fun _ => (cd_cons (fun _ => cd_nil) (ce_tup (cd_cons (fun _ => (cd_cons (fun _ => cd_nil) ce_str)) ce_str)))) ce_str)))) (ce_tup (cd_cons (fun _ => (cd_cons (fun _ => cd_nil) (ce_tup (cd_cons (fun _ => (cd_cons (fun _ => cd_nil) ce_str)) ce_str)))) ce_str)))) (ce_tup (cd_cons (fun _ => (cd_cons (fun _ => cd_nil) (ce_tup (cd_cons (fun _ => (cd_cons (fun _ => cd_nil) ce_str)) ce_str)))) ce_str)))))) (ce_name (i := 0) (d := d4))))) (ce_show (ce_opL op_addA p2_addL (fun _ => (ce_show (ce_lst (cd_cons (fun _ => (cd_cons (fun _ => cd_nil) (ce_tup (cd_cons (fun _ => (cd_cons (fun _ => cd_nil) (ce_tup (cd_cons (fun _ => (cd_cons (fun _ => (cd_cons (fun _ => cd_nil) ce_str)) ce_str)) ce_str)))) ce_str)))) (ce_tup (cd_cons (fun _ => (cd_cons (fun _ => cd_nil) (ce_tup (cd_cons (fun _ => (cd_cons (fun _ => cd_nil) ce_str)) ce_str)))) ce_str)))))) (ce_name (i := 0) (d := d2)))) sc__law_words.nd)) (ce_show (ce_opL op_addA p2_addL (fun _ => (ce_show (ce_lst (cd_cons (fun _ => (cd_cons (fun _ => cd_nil) (ce_tup (cd_cons (fun _ => (cd_cons (fun _ => cd_nil) (ce_tup (cd_cons (fun _ => (cd_cons (fun _ => (cd_cons (fun _ => cd_nil) ce_str)) ce_str)) ce_str)))) ce_str)))) (ce_tup (cd_cons (fun _ => (cd_cons (fun _ => cd_nil) (ce_tup (cd_cons (fun _ => (cd_cons (fun _ => (cd_cons (fun _ => cd_nil) ce_str)) ce_str)) ce_str)))) ce_str)))))) (ce_name (i := 0) (d := d1)))) sc__law_words.nd)) (ce_show (ce_lst (cd_cons (fun _ => (cd_cons (fun _ => (cd_cons (fun _ => cd_nil) (ce_tup (cd_cons (fun _ => (cd_cons (fun _ => cd_nil) (ce_tup (cd_cons (fun _ => (cd_cons (fun _ => cd_nil) ce_str)) ce_str)))) ce_str)))) (ce_tup (cd_cons (fun _ => (cd_cons (fun _ => cd_nil) (ce_tup (cd_cons (fun _ => (cd_cons (fun _ => cd_nil) ce_str)) ce_str)))) ce_str)))) (ce_tup (cd_cons (fun _ => (cd_cons (fun _ => cd_nil) (ce_tup (cd_cons (fun _ => (cd_cons (fun _ => cd_nil) ce_str)) ce_str)))) ce_str))))) sc__law_words.nd) rfl)
abbrev s__law_named : Stmt := topS 18
theorem sc__law_named : FnScope ["k"] ["k"] (defScope s__law_named) := ⟨rfl, rfl, rfl, by decide +kernel, rfl, by decide +kernel, by decide +kernel⟩
def m__law_named : Ar [true] → P (D) := fun (d1, ()) =>
  bnd (need (eqF d1 (.int 0))) fun b4 => (if b4 = true then pur (.tuple [(.str "ahead"), (.str "kept"), (.str "first"), (.str "one"), (.str "tries"), (.str "back"), (.str "left"), (.str "passes"), (.str "free"), (.str "first")]) else bnd (need (eqF d1 (.int 1))) fun b3 => (if b3 = true then pur (.tuple [(.str "ahead"), (.str "kept"), (.str "first"), (.str "all"), (.str "tries"), (.str "back"), (.str "never"), (.str "drops"), (.str "free"), (.str "first")]) else bnd (need (eqF d1 (.int 2))) fun b2 => (if b2 = true then pur (.tuple [(.str "ahead"), (.str "kept"), (.str "first"), (.str "each"), (.str "given"), (.str "back"), (.str "left"), (.str "passes"), (.str "free"), (.str "any")]) else pur (.tuple [(.str "behind"), (.str "lost"), (.str "last"), (.str "one"), (.str "takes"), (.str "back"), (.str "never"), (.str "drops"), (.str "free"), (.str "first")]))))
theorem cal__law_named (W : Wd w K mg) : Cal prog w K mg base "_law_named" 1 ["k"] (spC K (S0) [true] (m__law_named) R.v) :=
  cal_of (fun _ => lift .no) W.d__law_named sc__law_named rfl (.inl rfl) (fun f' cdv A outer s H G J E a hr hgd => by
    obtain ⟨d1, ⟨⟩⟩ := a; exact cs_eq (cs_ifT (fun _ => (cs_ret (ce_tup (cd_cons (fun _ => (cd_cons (fun _ => (cd_cons (fun _ => (cd_cons (fun _ => (cd_cons (fun _ => (cd_cons (fun _ => (cd_cons (fun _ => (cd_cons (fun _ => (cd_cons (fun _ => (cd_cons (fun _ => cd_nil) ce_str)) ce_str)) ce_str)) ce_str)) ce_str)) ce_str)) ce_str)) ce_str)) ce_str)) ce_str)))) (cs_ifT (fun _ => (cs_ret (ce_tup (cd_cons (fun _ => (cd_cons (fun _ => (cd_cons (fun _ => (cd_cons (fun _ => (cd_cons (fun _ => (cd_cons (fun _ => (cd_cons (fun _ => (cd_cons (fun _ => (cd_cons (fun _ => (cd_cons (fun _ => cd_nil) ce_str)) ce_str)) ce_str)) ce_str)) ce_str)) ce_str)) ce_str)) ce_str)) ce_str)) ce_str)))) (cs_ifT (fun _ => (cs_ret (ce_tup (cd_cons (fun _ => (cd_cons (fun _ => (cd_cons (fun _ => (cd_cons (fun _ => (cd_cons (fun _ => (cd_cons (fun _ => (cd_cons (fun _ => (cd_cons (fun _ => (cd_cons (fun _ => (cd_cons (fun _ => cd_nil) ce_str)) ce_str)) ce_str)) ce_str)) ce_str)) ce_str)) ce_str)) ce_str)) ce_str)) ce_str)))) (cs_ret (ce_tup (cd_cons (fun _ => (cd_cons (fun _ => (cd_cons (fun _ => (cd_cons (fun _ => (cd_cons (fun _ => (cd_cons (fun _ => (cd_cons (fun _ => (cd_cons (fun _ => (cd_cons (fun _ => (cd_cons (fun _ => cd_nil) ce_str)) ce_str)) ce_str)) ce_str)) ce_str)) ce_str)) ce_str)) ce_str)) ce_str)) ce_str))) (ct_cmp (op_eqA (Room.u64 hr)) p2_eq (fun _ => ce_int) (ce_name (i := 0) (d := d1)))) (ct_cmp (op_eqA (Room.u64 hr)) p2_eq (fun _ => ce_int) (ce_name (i := 0) (d := d1)))) (ct_cmp (op_eqA (Room.u64 hr)) p2_eq (fun _ => ce_int) (ce_name (i := 0) (d := d1)))) rfl)
abbrev s__law_book : Stmt := topS 17
theorem sc__law_book : FnScope ["jar", "found", "spot", "name", "words"] ["jar"] (defScope s__law_book) := ⟨rfl, rfl, rfl, by decide +kernel, rfl, by decide +kernel, by decide +kernel⟩
def m__law_book : Ar [false] → M GH (D) := fun (a1, ()) =>
  bnd (nox (callM [false, true] (m__law_draw) [.o a1, .v (.int 3)])) fun d23 => bnd (need (eqF d23 (.int 0))) fun b24 => (if b24 = true then bnd (nox (callM [false, true] (m__law_draw) [.o a1, .v (.int 4)])) fun d4 => bnd (lift (callM [true] (m__law_named) [.v d4])) fun d3 => bnd (need (itemsF [d3])) fun l5 => (fun l2 => bnd (nox (callM [false, true] (m__law_draw) [.o a1, .v (.int 10)])) fun d7 => (fun d6 => bnd (lift (m__law_words ())) fun l10 => bnd (need (ixF (PyData.list l10) d6)) fun d11 => bnd (need (ixF d11 (.int 1))) fun d12 => bnd (need (itemsF [d12])) fun l13 => bnd (nox (callM [false, true] (m__law_pick) [.o a1, .v (PyData.list l13)])) fun d9 => bnd (need (setF l2 d6 d9)) fun l8 => bnd (need (itemsF [(PyData.list l8)])) fun l14 => pur (PyData.tuple l14)) d7) l5 else bnd (lift (m__law_words ())) fun l20 => bnd (need (items (PyData.list l20))) fun l21 => bnd (nox (compL l21 [] fun d16 => bnd (need ((unT (unC some (un1 some))) d16)) fun a15 => (if true = true then bnd (need (itemsF [a15.2])) fun l18 => bnd (nox (callM [false, true] (m__law_pick) [.o a1, .v (PyData.list l18)])) fun d17 => pur (some d17) else pur none))) fun l19 => bnd (need (itemsF [(PyData.list l19)])) fun l22 => pur (PyData.tuple l22))
theorem cal__law_book (W : Wd w K mg) (sc : Addr) (ns : List Int) : Cal prog w K mg base "_law_book" 3 ["jar"] (spC K (SR K sc ns) [false] (m__law_book) R.v) :=
  cal_of (fun _ => lift .no) W.d__law_book sc__law_book rfl (.inl rfl) (fun f' cdv A outer s H G J E a hr hgd => by
    obtain ⟨a1, ⟨⟩⟩ := a; exact cs_eq (cs_ifT (fun _ => (cs_setL (i := 1) (cc := fun l => .lst l) (fun l2 => (cs_set (i := 2) (fun d6 => (cs_setI 1 (xs := l2) rfl (fun l8 => (cs_show 1 (c := .lst l8) rfl (cs_ret (ce_to PyData.tuple (ce_ty call_tuple_ofF pc_tuple W.b_tuple (by first | exact PySem.boot_tuple | exact PyProof.Rows.boot_tuple | exact L2.boot_tuple | decide +kernel) (cd_cons (fun _ => cd_nil) (ce_name (i := 1) (d := (PyData.list l8))))))))) (fun _ => (ce_name (i := 2) (d := d6))) (ce_callM (cal__law_pick W sc ns) (hr.mono (by decide)) hgd (ca_cons (rk := R.o) (fun _ => (ca_cons (rk := R.v) (fun _ => ca_nil) (ce_show (ce_tyL call_list_of pcl_list W.b_list (by first | exact PySem.boot_list | exact PyProof.Rows.boot_list | exact L2.boot_list | decide +kernel) (cd_cons (fun _ => cd_nil) (ce_ix (Room.u1 hr) (fun _ => ce_int) (ce_ix (Room.u1 hr) (fun _ => (ce_name (i := 2) (d := d6))) (ce_show (ce_callP0 (cal__law_words W) (hr.mono (by decide)) hgd))))))))) (ce_obj (i := 0) (a := a1)))))) (ce_callM (cal__law_draw W sc ns) (hr.mono (by decide)) hgd (ca_cons (rk := R.o) (fun _ => (ca_cons (rk := R.v) (fun _ => ca_nil) ce_int)) (ce_obj (i := 0) (a := a1)))) sc__law_book.nd)) (ce_tyL call_list_of pcl_list W.b_list (by first | exact PySem.boot_list | exact PyProof.Rows.boot_list | exact L2.boot_list | decide +kernel) (cd_cons (fun _ => cd_nil) (ce_callP (cal__law_named W) (hr.mono (by decide)) hgd (ca_cons (rk := R.v) (fun _ => ca_nil) (ce_callM (cal__law_draw W sc ns) (hr.mono (by decide)) hgd (ca_cons (rk := R.o) (fun _ => (ca_cons (rk := R.v) (fun _ => ca_nil) ce_int)) (ce_obj (i := 0) (a := a1)))))))) sc__law_book.nd)) (cs_ret (ce_to PyData.tuple (ce_ty call_tuple_ofF pc_tuple W.b_tuple (by first | exact PySem.boot_tuple | exact PyProof.Rows.boot_tuple | exact L2.boot_tuple | decide +kernel) (cd_cons (fun _ => cd_nil) (ce_show (ce_comp (un := (unT (unC some (un1 some)))) (outT := fun a15 : (D × D) => [some (.obj a1), none, none, some (.val a15.1), some (.val a15.2)]) (sl := [3, 4]) (own := [("name", 3), ("words", 4)]) (fun _ _ _ _ _ a15 => (ce_callM (cal__law_pick W sc ns) (hr.mono (by decide)) hgd (ca_cons (rk := R.o) (fun _ => (ca_cons (rk := R.v) (fun _ => ca_nil) (ce_show (ce_tyL call_list_of pcl_list W.b_list (by first | exact PySem.boot_list | exact PyProof.Rows.boot_list | exact L2.boot_list | decide +kernel) (cd_cons (fun _ => cd_nil) (ce_name (i := 4) (d := a15.2))))))) (ce_obj (i := 0) (a := a1))))) (fun _ _ _ _ _ a15 => cts_nil) (fun _ _ _ _ _ => (cg_tup (cgs_cons (cg_name 3 (pg_name sc__law_book.nd rfl (by first | exact .inl rfl | exact .inr rfl))) fun _ => (cgs_one (cg_name 4 (pg_name sc__law_book.nd rfl (by first | exact .inl rfl | exact .inr rfl))))))) (ci_seq (ce_show (ce_callP0 (cal__law_words W) (hr.mono (by decide)) hgd))) sc__law_book.nd (by exact ⟨rfl, of_decide_eq_true (by kernel_rfl), of_decide_eq_true (by kernel_rfl), of_decide_eq_true (by kernel_rfl), of_decide_eq_true (by kernel_rfl)⟩))))))) (ct_cmp (op_eqA (Room.u64 hr)) p2_eq (fun _ => ce_int) (ce_callM (cal__law_draw W sc ns) (hr.mono (by decide)) hgd (ca_cons (rk := R.o) (fun _ => (ca_cons (rk := R.v) (fun _ => ca_nil) ce_int)) (ce_obj (i := 0) (a := a1)))))) rfl)
abbrev s__law_odd : Stmt := topS 19
theorem sc__law_odd : FnScope ["jar", "found"] ["jar"] (defScope s__law_odd) := ⟨rfl, rfl, rfl, by decide +kernel, rfl, by decide +kernel, by decide +kernel⟩
def m__law_odd : Ar [false] → M GH (D) := fun (a1, ()) =>
  bnd (need (negF (.int 1))) fun d3 => bnd (need (powF (.int 10) (.int 40))) fun d4 => (fun d2 => bnd (need (addL d2 (.list [(.dict [(.str "a", (.int 1))]), (.tuple [(.tuple []), (.int 1)]), (.tuple [(.str "take"), (.int 1)]), (.tuple [(.tuple [(.str "take"), (.int 1)])]), (.tuple [(.str "like"), (.str "staying")])]))) fun l6 => bnd (nox (callM [false, true] (m__law_pick) [.o a1, .v (PyData.list l6)])) fun d5 => pur d5) (.list [.none, (.bool true), (.bool false), (.int 0), (.int 1), d3, d4, (.str ""), (.str "note"), (.str "ahead"), (.str "kept"), (.str "take"), (.tuple []), (.list []), (.dict []), (.tuple [(.int 1)]), (.list [(.int 1), (.tuple [])])])
theorem cal__law_odd (W : Wd w K mg) (sc : Addr) (ns : List Int) : Cal prog w K mg base "_law_odd" 3 ["jar"] (spC K (SR K sc ns) [false] (m__law_odd) R.v) :=
  cal_of (fun _ => lift .no) W.d__law_odd sc__law_odd rfl (.inl rfl) (fun f' cdv A outer s H G J E a hr hgd => by
    obtain ⟨a1, ⟨⟩⟩ := a; exact cs_eq (cs_set (i := 1) (fun d2 => (cs_ret (ce_callM (cal__law_pick W sc ns) (hr.mono (by decide)) hgd (ca_cons (rk := R.o) (fun _ => (ca_cons (rk := R.v) (fun _ => ca_nil) (ce_show (ce_opL op_addA p2_addL (fun _ => (ce_show (ce_lst (cd_cons (fun _ => (cd_cons (fun _ => (cd_cons (fun _ => (cd_cons (fun _ => (cd_cons (fun _ => cd_nil) (ce_tup (cd_cons (fun _ => (cd_cons (fun _ => cd_nil) ce_str)) ce_str)))) (ce_tup (cd_cons (fun _ => cd_nil) (ce_tup (cd_cons (fun _ => (cd_cons (fun _ => cd_nil) ce_int)) ce_str)))))) (ce_tup (cd_cons (fun _ => (cd_cons (fun _ => cd_nil) ce_int)) ce_str)))) (ce_tup (cd_cons (fun _ => (cd_cons (fun _ => cd_nil) ce_int)) (ce_tup cd_nil))))) (ce_dctD (cdd_cons (fun _ => cdd_nil) ce_int)))))) (ce_name (i := 1) (d := d2)))))) (ce_obj (i := 0) (a := a1)))))) (ce_show (ce_lst (cd_cons (fun _ => (cd_cons (fun _ => (cd_cons (fun _ => (cd_cons (fun _ => (cd_cons (fun _ => (cd_cons (fun _ => (cd_cons (fun _ => (cd_cons (fun _ => (cd_cons (fun _ => (cd_cons (fun _ => (cd_cons (fun _ => (cd_cons (fun _ => (cd_cons (fun _ => (cd_cons (fun _ => (cd_cons (fun _ => (cd_cons (fun _ => (cd_cons (fun _ => cd_nil) (ce_show (ce_lst (cd_cons (fun _ => (cd_cons (fun _ => cd_nil) (ce_tup cd_nil))) ce_int))))) (ce_tup (cd_cons (fun _ => cd_nil) ce_int)))) ce_dct0)) (ce_show (ce_lst cd_nil)))) (ce_tup cd_nil))) ce_str)) ce_str)) ce_str)) ce_str)) ce_str)) (ce_op op_pow p2_pow (fun _ => ce_int) ce_int))) (ce_un un_neg p1_neg ce_int))) ce_int)) ce_int)) (ce_bd ce_boolB))) (ce_bd ce_boolB))) ce_none))) sc__law_odd.nd) rfl)
abbrev s__law_number : Stmt := topS 20
theorem sc__law_number : FnScope ["book", "found", "word", "entry"] ["book"] (defScope s__law_number) := ⟨rfl, rfl, rfl, by decide +kernel, rfl, by decide +kernel, by decide +kernel⟩
def m__law_number : Ar [true] → P (D) := fun (d1, ()) =>
  (fun d2 => bnd (lift (m__law_words ())) fun l14 => bnd (need (zipF [d1, (PyData.list l14)])) fun l15 => bnd (forP (τ := D) l15 d2 fun d6 t3 => bnd (need ((unT (unC some (un1 some))) d6)) fun a5 => bnd (need (ixF a5.2 (.int 1))) fun d8 => bnd (need (lenF [d8])) fun i9 => bnd (need (mulF t3 (PyData.int i9))) fun d10 => bnd (need (ixF a5.2 (.int 1))) fun d11 => bnd (need (isSq d11)) fun _ => bnd (need (idxA d11 a5.1)) fun i12 => bnd (need (addF d10 (PyData.int i12))) fun d13 => (fun d7 => pur d7) d13) fun t4 => pur t4) (.int 0)
theorem cal__law_number (W : Wd w K mg) : Cal prog w K mg base "_law_number" 2 ["book"] (spC K (S0) [true] (m__law_number) R.v) :=
  cal_of (fun _ => lift .no) W.d__law_number sc__law_number rfl (.inl rfl) (fun f' cdv A outer s H G J E a hr hgd => by
    obtain ⟨d1, ⟨⟩⟩ := a; exact cs_eq (cs_set (i := 1) (fun d2 => (cs_forP (outl := fun t3 : D => [some (.val d1), some (.val t3), none, none]) (un := (unT (unC some (un1 some)))) (outT := fun (t3 : D) (a5 : (D × D)) => [some (.val d1), some (.val t3), some (.val a5.1), some (.val a5.2)]) (sl := [2, 3]) (d2 : D) (fun t4 => (cs_ret (ce_name (i := 1) (d := t4)))) (fun a5 t3 => (cs_set (i := 1) (fun d7 => (cs_nil (a := d7) (show LeE [some (.val d1), some (.val d7), none, none] [some (.val d1), some (.val d7), some (.val a5.1), some (.val a5.2)] from (le_same (le_same (le_none (le_none le_nil))))))) (ce_op op_addA p2_add (fun _ => (ce_to PyData.int (ce_sindex (fun _ => (ce_name (i := 2) (d := a5.1))) (ce_ix (Room.u1 hr) (fun _ => ce_int) (ce_name (i := 3) (d := a5.2)))))) (ce_op op_mulA p2_mul (fun _ => (ce_to PyData.int (ce_blt call_len pc_len W.b_len (by first | exact PySem.boot_len | exact PyProof.Rows.boot_len | exact L2.boot_len | decide +kernel) (cd_cons (fun _ => cd_nil) (ce_ix (Room.u1 hr) (fun _ => ce_int) (ce_name (i := 3) (d := a5.2))))))) (ce_name (i := 1) (d := t3)))) sc__law_number.nd)) (fun t3 => (cg_tup (cgs_cons (cg_name 2 (pg_name sc__law_number.nd rfl (by first | exact .inl rfl | exact .inr rfl))) fun _ => (cgs_one (cg_name 3 (pg_name sc__law_number.nd rfl (by first | exact .inl rfl | exact .inr rfl))))))) (ci_zip W.b_zip (cd_cons (fun _ => (cd_cons (fun _ => cd_nil) (ce_show (ce_callP0 (cal__law_words W) (hr.mono (by decide)) hgd)))) (ce_name (i := 0) (d := d1)))) (show LeE [some (.val d1), some (.val d2), none, none] [some (.val d1), some (.val d2), none, none] from (le_same (le_same (le_none (le_none le_nil))))))) ce_int sc__law_number.nd) rfl)
abbrev s__law_is_number : Stmt := topS 21
theorem sc__law_is_number : FnScope ["value", "low", "top"] ["value", "low", "top"] (defScope s__law_is_number) := ⟨rfl, rfl, rfl, by decide +kernel, rfl, by decide +kernel, by decide +kernel⟩
def m__law_is_number : Ar [true, true, true] → P (Bool) := fun (d1, d2, d3, ()) =>
  bnd ((if (isT "int" d1) = true then (if (!(isT "bool" d1)) = true then bnd (bnd (need (leF d2 d1)) fun b5 => (if b5 = true then bnd (need (leF d1 d3)) fun b4 => pur b4 else pur false)) fun b6 => pur b6 else pur false) else pur false)) fun b7 => pur b7
theorem cal__law_is_number (W : Wd w K mg) : Cal prog w K mg base "_law_is_number" 1 ["value", "low", "top"] (spC K (S0) [true, true, true] (m__law_is_number) bv) :=
  cal_of (fun _ => lift .no) W.d__law_is_number sc__law_is_number rfl (.inl rfl) (fun f' cdv A outer s H G J E a hr hgd => by
    obtain ⟨d1, d2, d3, ⟨⟩⟩ := a; exact cs_eq (cs_ret (ce_bnd (ce_and (ce_and (ce_one (ce_bnd (ce_chain op_le op_le (p2_cmpI _) (p2_cmpI _) (fun _ => (ce_name (i := 2) (d := d3))) (fun _ => (ce_name (i := 0) (d := d1))) (ce_name (i := 1) (d := d2))))) (ce_not (ce_isi kit_bool W.b_isinstance W.b_bool (by first | exact PySem.boot_bool | exact PyProof.Rows.boot_bool | exact L2.boot_bool | decide +kernel) (ce_name (i := 0) (d := d1))))) (ce_isi kit_int W.b_isinstance W.b_int (by first | exact PySem.boot_int | exact PyProof.Rows.boot_int | exact L2.boot_int | decide +kernel) (ce_name (i := 0) (d := d1)))))) rfl)
abbrev s_is_within : Stmt := topS 2
theorem sc_is_within : FnScope ["value", "least", "most"] ["value", "least", "most"] (defScope s_is_within) := ⟨rfl, rfl, rfl, by decide +kernel, rfl, by decide +kernel, by decide +kernel⟩
def m_is_within : Ar [true, true, true] → P (Bool) := fun (d1, d2, d3, ()) =>
  bnd ((if (isT "int" d1) = true then (if (!(isT "bool" d1)) = true then bnd (bnd (need (leF d2 d1)) fun b5 => (if b5 = true then bnd (need (leF d1 d3)) fun b4 => pur b4 else pur false)) fun b6 => pur b6 else pur false) else pur false)) fun b7 => pur b7
theorem cal_is_within (W : Wd w K mg) : Cal prog w K mg base "is_within" 1 ["value", "least", "most"] (spC K (S0) [true, true, true] (m_is_within) bv) :=
  cal_of (fun _ => lift .no) W.d_is_within sc_is_within rfl (.inl rfl) (fun f' cdv A outer s H G J E a hr hgd => by
    obtain ⟨d1, d2, d3, ⟨⟩⟩ := a; exact cs_eq (cs_ret (ce_bnd (ce_and (ce_and (ce_one (ce_bnd (ce_chain op_le op_le (p2_cmpI _) (p2_cmpI _) (fun _ => (ce_name (i := 2) (d := d3))) (fun _ => (ce_name (i := 0) (d := d1))) (ce_name (i := 1) (d := d2))))) (ce_not (ce_isi kit_bool W.b_isinstance W.b_bool (by first | exact PySem.boot_bool | exact PyProof.Rows.boot_bool | exact L2.boot_bool | decide +kernel) (ce_name (i := 0) (d := d1))))) (ce_isi kit_int W.b_isinstance W.b_int (by first | exact PySem.boot_int | exact PyProof.Rows.boot_int | exact L2.boot_int | decide +kernel) (ce_name (i := 0) (d := d1)))))) rfl)
abbrev s_book_of : Stmt := topS 11
theorem sc_book_of : FnScope ["value", "found", "left", "name", "words"] ["value"] (defScope s_book_of) := ⟨rfl, rfl, rfl, by decide +kernel, rfl, by decide +kernel, by decide +kernel⟩
def m_book_of : Ar [true] → P (D) := fun (d1, ()) =>
  bnd (need (subF G_MAX_BOOKS (.int 1))) fun d19 => bnd (nox (lift (callM [true, true, true] (m_is_within) [.v d1, .v (.int 0), .v d19]))) fun b18 => (if (!b18) = true then lift (.ex ⟨"Unfit", []⟩) else (fun d2 => (fun d3 => bnd (need (revF G_ENTRIES)) fun d16 => bnd (need (items d16)) fun l17 => bnd (forP (τ := D × D) l17 (d2, d3) fun d7 t4 => bnd (need ((unT (unC some (un1 some))) d7)) fun a6 => bnd (need (lenF [a6.2])) fun i9 => bnd (need (modF t4.2 (PyData.int i9))) fun d10 => bnd (need (ixF a6.2 d10)) fun d11 => bnd (need (addF (.tuple [d11]) t4.1)) fun d12 => (fun d8 => bnd (need (lenF [a6.2])) fun i14 => bnd (need (fdivF t4.2 (PyData.int i14))) fun d15 => (fun d13 => pur (d8, d13)) d15) d12) fun t5 => pur t5.1) d1) (.tuple []))
theorem cal_book_of (W : Wd w K mg) : CalX prog w K mg base "book_of" 2 ["value"] (spX K mg S0 [true] m_book_of R.v) :=
  cal_ofX (fun _ => lift .no) W.d_book_of sc_book_of rfl (.inl rfl) (fun f' cdv A outer s H G J E EX a hr hgd tk po => by
    obtain ⟨d1, ⟨⟩⟩ := a; exact cs_eq (cs_ifT (fun _ => (cs_rai0 W.e_Unfit hr tk (show LeE [none, none, none, none, none] [some (.val d1), none, none, none, none] from (le_none (le_none (le_none (le_none (le_none le_nil)))))))) (cs_par (i := 1) (j := 2) (r1 := R.v) (r2 := R.v) (fun d2 d3 => (cs_forP (hp := po) (outl := fun t4 : D × D => [some (.val d1), some (.val t4.1), some (.val t4.2), none, none]) (un := (unT (unC some (un1 some)))) (outT := fun (t4 : D × D) (a6 : (D × D)) => [some (.val d1), some (.val t4.1), some (.val t4.2), some (.val a6.1), some (.val a6.2)]) (sl := [3, 4]) ((d2, d3) : D × D) (fun t5 => (cs_ret (ce_name (i := 1) (d := t5.1)))) (fun a6 t4 => (cs_set (i := 1) (fun d8 => (cs_set (i := 2) (fun d13 => (cs_nil (a := (d8, d13)) (show LeE [some (.val d1), some (.val d8), some (.val d13), none, none] [some (.val d1), some (.val d8), some (.val d13), some (.val a6.1), some (.val a6.2)] from (le_same (le_same (le_same (le_none (le_none le_nil)))))))) (ce_op op_fdiv p2_fdiv (fun _ => (ce_to PyData.int (ce_blt call_len pc_len W.b_len (by first | exact PySem.boot_len | exact PyProof.Rows.boot_len | exact L2.boot_len | decide +kernel) (cd_cons (fun _ => cd_nil) (ce_name (i := 4) (d := a6.2)))))) (ce_name (i := 2) (d := t4.2))) sc_book_of.nd)) (ce_op op_addA p2_add (fun _ => (ce_name (i := 1) (d := t4.1))) (ce_tup (cd_cons (fun _ => cd_nil) (ce_ix (Room.u1 hr) (fun _ => (ce_op op_mod p2_mod (fun _ => (ce_to PyData.int (ce_blt call_len pc_len W.b_len (by first | exact PySem.boot_len | exact PyProof.Rows.boot_len | exact L2.boot_len | decide +kernel) (cd_cons (fun _ => cd_nil) (ce_name (i := 4) (d := a6.2)))))) (ce_name (i := 2) (d := t4.2)))) (ce_name (i := 4) (d := a6.2)))))) sc_book_of.nd)) (fun t4 => (cg_tup (cgs_cons (cg_name 3 (pg_name sc_book_of.nd rfl (by first | exact .inl rfl | exact .inr rfl))) fun _ => (cgs_one (cg_name 4 (pg_name sc_book_of.nd rfl (by first | exact .inl rfl | exact .inr rfl))))))) (ci_seq (ce_rev (ce_glob W.g_ENTRIES))) (show LeE [some (.val d1), some (.val d2), some (.val d3), none, none] [some (.val d1), some (.val d2), some (.val d3), none, none] from (le_same (le_same (le_same (le_none (le_none le_nil)))))))) (fun _ => (ce_name (i := 0) (d := d1))) (ce_tup cd_nil) sc_book_of.nd) (ct_not (ct_val (ce_callPn (cal_is_within W) (hr.mono (by decide)) hgd (ca_cons (rk := R.v) (fun _ => (ca_cons (rk := R.v) (fun _ => (ca_cons (rk := R.v) (fun _ => ca_nil) (ce_op op_sub p2_sub (fun _ => ce_int) (ce_glob W.g_MAX_BOOKS)))) ce_int)) (ce_name (i := 0) (d := d1))))))) rfl)
abbrev s__law_heard : Stmt := topS 22
theorem sc__law_heard : FnScope ["value", "is_named", "fault"] ["value", "is_named"] (defScope s__law_heard) := ⟨rfl, rfl, rfl, by decide +kernel, rfl, by decide +kernel, by decide +kernel⟩
def m__law_heard : Ar [true, true] → P (List D) := fun (d1, d2, ()) =>
  bnd (trx (α := Lp (List D) (Unit)) (bnd (α := D) (bnd (need (asB d2)) fun b16 => (if b16 = true then bnd (lift (callM [true] m_book_of (pick (R.v .none) [0] [.v d1]))) fun d14 => pur d14 else bnd (lift (callM [true] (m_book_of) [.v d1])) fun d15 => pur d15)) fun d17 => pur (.rt [(.str "told"), d17])) (catchX "Unfit" fun fs3 => pur (.rt [(.str "unfit"), (.bool true)]))) (lpK (fun t13 => lift .no) fun r18 => pur r18)
theorem cal__law_heard (W : Wd w K mg) : Cal prog w K mg base "_law_heard" 3 ["value", "is_named"] (spC K (S0) [true, true] (m__law_heard) lv) :=
  cal_of (fun _ => lift .no) W.d__law_heard sc__law_heard rfl (.inl rfl) (fun f' cdv A outer s H G J E a hr hgd => by
    obtain ⟨d1, d2, ⟨⟩⟩ := a; exact cs_eq (cs_try (i := 2) (ρh := [some (.val d1), some (.val d2), none]) (outT := fun t13 : Unit => [none, none, none]) W.x_Unfit (fun t13 => cs_never) (fun _ _ _ _ tk5 po6 => (cs_ret (ce_lst (cd_cons (fun _ => (cd_cons (fun _ => cd_nil) (ce_bnd (ce_if (ce_callXK0 (cal_book_of W) tk5 (show LeE [some (.val d1), some (.val d2), none] [some (.val d1), some (.val d2), none] from (le_same (le_same (le_none le_nil)))) W.kw_book_of_0_value (hr.mono (by decide)) hgd (ck_cons (rk := R.v) (fun _ => ck_nil) (ce_name (i := 0) (d := d1)))) (ce_callX (cal_book_of W) tk5 (show LeE [some (.val d1), some (.val d2), none] [some (.val d1), some (.val d2), none] from (le_same (le_same (le_none le_nil)))) (hr.mono (by decide)) hgd (ca_cons (rk := R.v) (fun _ => ca_nil) (ce_name (i := 0) (d := d1)))) (ct_val (ce_asB (ce_name (i := 1) (d := d2)))))))) ce_str)))) (fun fs3 C7 a4 _ _ _ _ hC8 hE9 hz10 hf11 xv12 => (cs_ret (ce_lst (cd_cons (fun _ => (cd_cons (fun _ => cd_nil) (ce_bd (ce_xis (i := 2) W.x_Unfit W.s_Unfit_SleepError hz10 hf11 xv12 W.b_isinstance)))) ce_str)))) sc__law_heard.nd) rfl)
abbrev s__law_of : Stmt := topS 23
theorem sc__law_of : FnScope ["number", "found", "name", "words"] ["number"] (defScope s__law_of) := ⟨rfl, rfl, rfl, by decide +kernel, rfl, by decide +kernel, by decide +kernel⟩
def m__law_of : Ar [true] → P (D) := fun (d1, ()) =>
  (fun l2 => bnd (lift (m__law_words ())) fun l17 => bnd (need (revLF (PyData.list l17))) fun l18 => bnd (need (items (PyData.list l18))) fun l19 => bnd (forP (τ := D × List D) l19 (d1, l2) fun d6 t3 => bnd (need ((unT (unC some (un1 some))) d6)) fun a5 => bnd (need (lenF [a5.2])) fun i8 => bnd (need (modF t3.1 (PyData.int i8))) fun d9 => bnd (need (ixF a5.2 d9)) fun d10 => bnd (need (appF t3.2 d10)) fun l7 => bnd (need (lenF [a5.2])) fun i12 => bnd (need (fdivF t3.1 (PyData.int i12))) fun d13 => bnd (need (intF [d13])) fun i14 => (fun d11 => pur (d11, l7)) (PyData.int i14)) fun t4 => bnd (need (revLF (PyData.list t4.2))) fun l15 => bnd (need (itemsF [(PyData.list l15)])) fun l16 => pur (PyData.tuple l16)) []
theorem cal__law_of (W : Wd w K mg) : Cal prog w K mg base "_law_of" 2 ["number"] (spC K (S0) [true] (m__law_of) R.v) :=
  cal_of (fun _ => lift .no) W.d__law_of sc__law_of rfl (.inl rfl) (fun f' cdv A outer s H G J E a hr hgd => by
    obtain ⟨d1, ⟨⟩⟩ := a; exact cs_eq (cs_setL (i := 1) (cc := fun l => .lst l) (fun l2 => (cs_forP (outl := fun t3 : D × List D => [some (.val t3.1), some (.own (.lst t3.2)), none, none]) (un := (unT (unC some (un1 some)))) (outT := fun (t3 : D × List D) (a5 : (D × D)) => [some (.val t3.1), some (.own (.lst t3.2)), some (.val a5.1), some (.val a5.2)]) (sl := [2, 3]) ((d1, l2) : D × List D) (fun t4 => (cs_show 1 (c := .lst t4.2) rfl (cs_ret (ce_to PyData.tuple (ce_ty call_tuple_ofF pc_tuple W.b_tuple (by first | exact PySem.boot_tuple | exact PyProof.Rows.boot_tuple | exact L2.boot_tuple | decide +kernel) (cd_cons (fun _ => cd_nil) (ce_show (ce_revL (ce_name (i := 1) (d := (PyData.list t4.2))))))))))) (fun a5 t3 => (cs_append 1 (xs := t3.2) rfl (fun l7 => (cs_set (i := 0) (fun d11 => (cs_nil (a := (d11, l7)) (show LeE [some (.val d11), some (.own (.lst l7)), none, none] [some (.val d11), some (.own (.lst l7)), some (.val a5.1), some (.val a5.2)] from (le_same (le_same (le_none (le_none le_nil))))))) (ce_to PyData.int (ce_ty call_intA pc_int W.b_int (by first | exact PySem.boot_int | exact PyProof.Rows.boot_int | exact L2.boot_int | decide +kernel) (cd_cons (fun _ => cd_nil) (ce_op op_fdiv p2_fdiv (fun _ => (ce_to PyData.int (ce_blt call_len pc_len W.b_len (by first | exact PySem.boot_len | exact PyProof.Rows.boot_len | exact L2.boot_len | decide +kernel) (cd_cons (fun _ => cd_nil) (ce_name (i := 3) (d := a5.2)))))) (ce_name (i := 0) (d := t3.1)))))) sc__law_of.nd)) (ce_ix (Room.u1 hr) (fun _ => (ce_op op_mod p2_mod (fun _ => (ce_to PyData.int (ce_blt call_len pc_len W.b_len (by first | exact PySem.boot_len | exact PyProof.Rows.boot_len | exact L2.boot_len | decide +kernel) (cd_cons (fun _ => cd_nil) (ce_name (i := 3) (d := a5.2)))))) (ce_name (i := 0) (d := t3.1)))) (ce_name (i := 3) (d := a5.2))))) (fun t3 => (cg_tup (cgs_cons (cg_name 2 (pg_name sc__law_of.nd rfl (by first | exact .inl rfl | exact .inr rfl))) fun _ => (cgs_one (cg_name 3 (pg_name sc__law_of.nd rfl (by first | exact .inl rfl | exact .inr rfl))))))) (ci_seq (ce_show (ce_revL (ce_show (ce_callP0 (cal__law_words W) (hr.mono (by decide)) hgd))))) (show LeE [some (.val d1), some (.own (.lst l2)), none, none] [some (.val d1), some (.own (.lst l2)), none, none] from (le_same (le_same (le_none (le_none le_nil))))))) (ce_lst cd_nil) sc__law_of.nd) rfl)
abbrev s_law : Stmt := topS 24
theorem sc_law : FnScope ["script", "jar", "turn", "book", "some", "near", "came", "value", "due", "number", "stood"] ["script"] (defScope s_law) := ⟨rfl, rfl, rfl, by decide +kernel, rfl, by decide +kernel, by decide +kernel⟩
def m_law (sc : Addr) (ns : List Int) : Ar [false] → M GH (Bool) := fun (a1, ()) =>
  bnd (nox (callM [false] (m__law_jar sc ns) [.o a1])) fun a2 => bnd (need (rng1 [(.int 12)])) fun l73 => bnd (forL (δ := Bool) (τ := Unit) l73 () fun d6 t3 => bnd (need (some d6)) fun a5 => bnd (α := D) (bnd (need (gtF a5 (.int 3))) fun b10 => (if b10 = true then bnd (nox (callM [false] (m__law_book) [.o a2])) fun d8 => pur d8 else bnd (lift (callM [true] (m__law_named) [.v a5])) fun d9 => pur d9)) fun d11 => (fun d7 => bnd (lift (callM [true] (m__law_number) [.v d7])) fun d13 => (fun d12 => bnd (need (reprD [d7])) fun s15 => (fun d14 => bnd (bnd (lift (callM [true] (m_number_of) [.v d7])) fun d66 => bnd (lift (callM [true] m_number_of (pick (R.v .none) [0] [.v d7]))) fun d67 => bnd (need (reprD [(.list [d66, d67])])) fun s68 => bnd (need (reprD [(.list [d12, d12])])) fun s69 => bnd (need (neF (PyData.str s68) (PyData.str s69))) fun b70 => (if b70 = true then pur true else bnd (need (reprD [d7])) fun s64 => bnd (need (neF (PyData.str s64) d14)) fun b65 => pur b65)) fun b71 => (if b71 = true then pur (.rt false) else bnd (bnd (need (modF a5 (.int 2))) fun d58 => bnd (need (eqF d58 (.int 0))) fun b59 => bnd (lift (callM [true, true] (m__law_heard) [.v d12, .v (.bool b59)])) fun l57 => bnd (need (reprD [(PyData.list l57)])) fun s60 => bnd (need (reprD [(.list [(.str "told"), d7])])) fun s61 => bnd (need (neF (PyData.str s60) (PyData.str s61))) fun b62 => (if b62 = true then pur true else bnd (lift (callM [true] (m__law_of) [.v d12])) fun d55 => bnd (need (neF d55 d7)) fun b56 => pur b56)) fun b63 => (if b63 = true then pur (.rt false) else bnd (nox (callM [false, true] (m__law_draw) [.o a2, .v (.int 3456)])) fun d17 => (fun d16 => bnd (α := D) (bnd (need (ltF d12 (.int 3455))) fun b21 => (if b21 = true then bnd (need (addF d12 (.int 1))) fun d19 => pur d19 else bnd (nox (callM [false, true] (m__law_pick) [.o a2, .v d16])) fun d20 => pur d20)) fun d22 => (fun d18 => bnd (lift (callM [true, true] (m__law_heard) [.v d18, .v (.bool false)])) fun l24 => (fun d23 => bnd (need (reprD [d23])) fun s51 => bnd (lift (callM [true] (m__law_of) [.v d18])) fun d52 => bnd (need (reprD [(.list [(.str "told"), d52])])) fun s53 => bnd (need (neF (PyData.str s51) (PyData.str s53))) fun b54 => (if b54 = true then pur (.rt false) else bnd (bnd (need (ixF d23 (.int 1))) fun d48 => bnd (lift (callM [true] (m_book_error) [.v d48])) fun d47 => bnd (need (notNF d47 .none)) fun b49 => (if b49 = true then pur true else bnd (need (ixF d23 (.int 1))) fun d45 => bnd (lift (callM [true] (m_number_of) [.v d45])) fun d44 => bnd (need (neF d44 d18)) fun b46 => pur b46)) fun b50 => (if b50 = true then pur (.rt false) else bnd (need (negF (.int 1))) fun d27 => bnd (need (powF (.int 10) (.int 60))) fun d28 => bnd (need (powF (.int 10) (.int 60))) fun d29 => bnd (need (negF d29)) fun d30 => bnd (nox (callM [false] (m__law_odd) [.o a2])) fun d31 => bnd (nox (callM [false, true] (m__law_pick) [.o a2, .v (.list [d27, (.int 3456), (.bool true), (.bool false), (.str "0"), d28, d30, (.tuple [(.int 0)]), .none, d31])])) fun d26 => (fun d25 => (fun d32 => jn (α := D) (fun k34 => bnd (lift (callM [true, true, true] (m__law_is_number) [.v d25, .v (.int 0), .v (.int 3455)])) fun b37 => (if b37 = true then bnd (lift (callM [true] (m__law_of) [.v d25])) fun d36 => (fun d35 => k34 d35) (.list [(.str "told"), d36]) else k34 d32)) fun t33 => bnd (need (modF a5 (.int 2))) fun d39 => bnd (need (eqF d39 (.int 1))) fun b40 => bnd (lift (callM [true, true] (m__law_heard) [.v d25, .v (.bool b40)])) fun l38 => bnd (need (reprD [(PyData.list l38)])) fun s41 => bnd (need (reprD [t33])) fun s42 => bnd (need (neF (PyData.str s41) (PyData.str s42))) fun b43 => (if b43 = true then pur (.rt false) else pur (.nx ()))) (.list [(.str "unfit"), (.bool true)])) d26))) (PyData.list l24)) d22) (.list [(.int 0), (.int 3455), (.int 3454), (.int 1), d17])))) (PyData.str s15)) d13) d11) (lpK (fun t4 => pur true) fun r72 => pur r72)
theorem cal_law (W : Wd w K mg) (sc : Addr) (ns : List Int) : Cal prog w K mg base "law" 4 ["script"] (spC K (SR K sc ns) [false] (m_law sc ns) bv) :=
  cal_of (fun _ => lift .no) W.d_law sc_law rfl (.inl rfl) (fun f' cdv A outer s H G J E a hr hgd => by
    obtain ⟨a1, ⟨⟩⟩ := a; exact cs_eq (cs_setO (i := 1) (fun a2 => (cs_for (outl := fun t3 : Unit => [some (.obj a1), some (.obj a2), none, none, none, none, none, none, none, none, none]) (un := some) (outT := fun (t3 : Unit) (a5 : D) => [some (.obj a1), some (.obj a2), some (.val a5), none, none, none, none, none, none, none, none]) (sl := [2]) (() : Unit) (fun t4 => (cs_ret ce_boolB)) (fun a5 t3 => (cs_set (i := 3) (fun d7 => (cs_par (i := 9) (j := 10) (r1 := R.v) (r2 := R.v) (fun d12 d14 => (cs_ifT (fun _ => (cs_ret ce_boolB)) (cs_ifT (fun _ => (cs_ret ce_boolB)) (cs_set (i := 4) (fun d16 => (cs_set (i := 5) (fun d18 => (cs_set (i := 6) (fun d23 => (cs_ifT (fun _ => (cs_ret ce_boolB)) (cs_ifT (fun _ => (cs_ret ce_boolB)) (cs_set (i := 7) (fun d25 => (cs_set (i := 8) (fun d32 => (cs_ifJ (out1 := fun t33 : D => [some (.obj a1), some (.obj a2), some (.val a5), some (.val d7), some (.val d16), some (.val d18), some (.val d23), some (.val d25), some (.val t33), some (.val d12), some (.val d14)]) (fun t33 => (cs_ifT (fun _ => (cs_ret ce_boolB)) (cs_nil (a := ()) (show LeE [some (.obj a1), some (.obj a2), none, none, none, none, none, none, none, none, none] [some (.obj a1), some (.obj a2), some (.val a5), some (.val d7), some (.val d16), some (.val d18), some (.val d23), some (.val d25), some (.val t33), some (.val d12), some (.val d14)] from (le_same (le_same (le_none (le_none (le_none (le_none (le_none (le_none (le_none (le_none (le_none le_nil))))))))))))) (ct_cmp (op_neA (Room.u64 hr)) p2_ne (fun _ => (ce_to PyData.str (ce_blt (call_reprD (by exact hgd) (by have q := Room.u65 hr; exact q)) pc_reprD W.b_repr (by first | exact PySem.boot_repr | exact PyProof.Rows.boot_repr | exact L2.boot_repr | decide +kernel) (cd_cons (fun _ => cd_nil) (ce_name (i := 8) (d := t33)))))) (ce_to PyData.str (ce_blt (call_reprD (by exact hgd) (by have q := Room.u65 hr; exact q)) pc_reprD W.b_repr (by first | exact PySem.boot_repr | exact PyProof.Rows.boot_repr | exact L2.boot_repr | decide +kernel) (cd_cons (fun _ => cd_nil) (ce_show (ce_callP (cal__law_heard W) (hr.mono (by decide)) hgd (ca_cons (rk := R.v) (fun _ => (ca_cons (rk := R.v) (fun _ => ca_nil) (ce_bd (ce_cmp (op_eqA (Room.u64 hr)) p2_eq (fun _ => ce_int) (ce_op op_mod p2_mod (fun _ => ce_int) (ce_name (i := 2) (d := a5))))))) (ce_name (i := 7) (d := d25))))))))))) (fun k34 => (cs_set (i := 8) (fun d35 => (cs_nil (a := d35) (show LeE [some (.obj a1), some (.obj a2), some (.val a5), some (.val d7), some (.val d16), some (.val d18), some (.val d23), some (.val d25), some (.val d35), some (.val d12), some (.val d14)] [some (.obj a1), some (.obj a2), some (.val a5), some (.val d7), some (.val d16), some (.val d18), some (.val d23), some (.val d25), some (.val d35), some (.val d12), some (.val d14)] from (le_same (le_same (le_same (le_same (le_same (le_same (le_same (le_same (le_same (le_same (le_same le_nil)))))))))))))) (ce_show (ce_lst (cd_cons (fun _ => (cd_cons (fun _ => cd_nil) (ce_callP (cal__law_of W) (hr.mono (by decide)) hgd (ca_cons (rk := R.v) (fun _ => ca_nil) (ce_name (i := 7) (d := d25)))))) ce_str))) sc_law.nd)) (fun k34 => (cs_nil (a := d32) (show LeE [some (.obj a1), some (.obj a2), some (.val a5), some (.val d7), some (.val d16), some (.val d18), some (.val d23), some (.val d25), some (.val d32), some (.val d12), some (.val d14)] [some (.obj a1), some (.obj a2), some (.val a5), some (.val d7), some (.val d16), some (.val d18), some (.val d23), some (.val d25), some (.val d32), some (.val d12), some (.val d14)] from (le_same (le_same (le_same (le_same (le_same (le_same (le_same (le_same (le_same (le_same (le_same le_nil)))))))))))))) (fun k34 => (ct_val (ce_callP (cal__law_is_number W) (hr.mono (by decide)) hgd (ca_cons (rk := R.v) (fun _ => (ca_cons (rk := R.v) (fun _ => (ca_cons (rk := R.v) (fun _ => ca_nil) ce_int)) ce_int)) (ce_name (i := 7) (d := d25)))))))) (ce_show (ce_lst (cd_cons (fun _ => (cd_cons (fun _ => cd_nil) (ce_bd ce_boolB))) ce_str))) sc_law.nd)) (ce_callM (cal__law_pick W sc ns) (hr.mono (by decide)) hgd (ca_cons (rk := R.o) (fun _ => (ca_cons (rk := R.v) (fun _ => ca_nil) (ce_show (ce_lst (cd_cons (fun _ => (cd_cons (fun _ => (cd_cons (fun _ => (cd_cons (fun _ => (cd_cons (fun _ => (cd_cons (fun _ => (cd_cons (fun _ => (cd_cons (fun _ => (cd_cons (fun _ => (cd_cons (fun _ => cd_nil) (ce_callM (cal__law_odd W sc ns) (hr.mono (by decide)) hgd (ca_cons (rk := R.o) (fun _ => ca_nil) (ce_obj (i := 1) (a := a2)))))) ce_none)) (ce_tup (cd_cons (fun _ => cd_nil) ce_int)))) (ce_un un_neg p1_neg (ce_op op_pow p2_pow (fun _ => ce_int) ce_int)))) (ce_op op_pow p2_pow (fun _ => ce_int) ce_int))) ce_str)) (ce_bd ce_boolB))) (ce_bd ce_boolB))) ce_int)) (ce_un un_neg p1_neg ce_int)))))) (ce_obj (i := 1) (a := a2)))) sc_law.nd) (ct_bnd (ct_w (cw_or (cw_or1 (ct_cmp (op_neA (Room.u64 hr)) p2_ne (fun _ => (ce_name (i := 5) (d := d18))) (ce_callP (cal_number_of W) (hr.mono (by decide)) hgd (ca_cons (rk := R.v) (fun _ => ca_nil) (ce_ix (Room.u1 hr) (fun _ => ce_int) (ce_name (i := 6) (d := d23))))))) (ct_cmp op_notN p2_notN (fun _ => ce_none) (ce_callP (cal_book_error W) (hr.mono (by decide)) hgd (ca_cons (rk := R.v) (fun _ => ca_nil) (ce_ix (Room.u1 hr) (fun _ => ce_int) (ce_name (i := 6) (d := d23)))))))))) (ct_cmp (op_neA (Room.u64 hr)) p2_ne (fun _ => (ce_to PyData.str (ce_blt (call_reprD (by exact hgd) (by have q := Room.u65 hr; exact q)) pc_reprD W.b_repr (by first | exact PySem.boot_repr | exact PyProof.Rows.boot_repr | exact L2.boot_repr | decide +kernel) (cd_cons (fun _ => cd_nil) (ce_show (ce_lst (cd_cons (fun _ => (cd_cons (fun _ => cd_nil) (ce_callP (cal__law_of W) (hr.mono (by decide)) hgd (ca_cons (rk := R.v) (fun _ => ca_nil) (ce_name (i := 5) (d := d18)))))) ce_str))))))) (ce_to PyData.str (ce_blt (call_reprD (by exact hgd) (by have q := Room.u65 hr; exact q)) pc_reprD W.b_repr (by first | exact PySem.boot_repr | exact PyProof.Rows.boot_repr | exact L2.boot_repr | decide +kernel) (cd_cons (fun _ => cd_nil) (ce_name (i := 6) (d := d23)))))))) (ce_show (ce_callP (cal__law_heard W) (hr.mono (by decide)) hgd (ca_cons (rk := R.v) (fun _ => (ca_cons (rk := R.v) (fun _ => ca_nil) (ce_bd ce_boolB))) (ce_name (i := 5) (d := d18))))) sc_law.nd)) (ce_bnd (ce_if (ce_op op_addA p2_add (fun _ => ce_int) (ce_name (i := 9) (d := d12))) (ce_callM (cal__law_pick W sc ns) (hr.mono (by decide)) hgd (ca_cons (rk := R.o) (fun _ => (ca_cons (rk := R.v) (fun _ => ca_nil) (ce_name (i := 4) (d := d16)))) (ce_obj (i := 1) (a := a2)))) (ct_cmp op_lt (p2_cmpI _) (fun _ => ce_int) (ce_name (i := 9) (d := d12))))) sc_law.nd)) (ce_show (ce_lst (cd_cons (fun _ => (cd_cons (fun _ => (cd_cons (fun _ => (cd_cons (fun _ => (cd_cons (fun _ => cd_nil) (ce_callM (cal__law_draw W sc ns) (hr.mono (by decide)) hgd (ca_cons (rk := R.o) (fun _ => (ca_cons (rk := R.v) (fun _ => ca_nil) ce_int)) (ce_obj (i := 1) (a := a2)))))) ce_int)) ce_int)) ce_int)) ce_int))) sc_law.nd) (ct_bnd (ct_w (cw_or (cw_or1 (ct_cmp (op_neA (Room.u64 hr)) p2_ne (fun _ => (ce_name (i := 3) (d := d7))) (ce_callP (cal__law_of W) (hr.mono (by decide)) hgd (ca_cons (rk := R.v) (fun _ => ca_nil) (ce_name (i := 9) (d := d12)))))) (ct_cmp (op_neA (Room.u64 hr)) p2_ne (fun _ => (ce_to PyData.str (ce_blt (call_reprD (by exact hgd) (by have q := Room.u65 hr; exact q)) pc_reprD W.b_repr (by first | exact PySem.boot_repr | exact PyProof.Rows.boot_repr | exact L2.boot_repr | decide +kernel) (cd_cons (fun _ => cd_nil) (ce_show (ce_lst (cd_cons (fun _ => (cd_cons (fun _ => cd_nil) (ce_name (i := 3) (d := d7)))) ce_str))))))) (ce_to PyData.str (ce_blt (call_reprD (by exact hgd) (by have q := Room.u65 hr; exact q)) pc_reprD W.b_repr (by first | exact PySem.boot_repr | exact PyProof.Rows.boot_repr | exact L2.boot_repr | decide +kernel) (cd_cons (fun _ => cd_nil) (ce_show (ce_callP (cal__law_heard W) (hr.mono (by decide)) hgd (ca_cons (rk := R.v) (fun _ => (ca_cons (rk := R.v) (fun _ => ca_nil) (ce_bd (ce_cmp (op_eqA (Room.u64 hr)) p2_eq (fun _ => ce_int) (ce_op op_mod p2_mod (fun _ => ce_int) (ce_name (i := 2) (d := a5))))))) (ce_name (i := 9) (d := d12))))))))))))) (ct_bnd (ct_w (cw_or (cw_or1 (ct_cmp (op_neA (Room.u64 hr)) p2_ne (fun _ => (ce_name (i := 10) (d := d14))) (ce_to PyData.str (ce_blt (call_reprD (by exact hgd) (by have q := Room.u65 hr; exact q)) pc_reprD W.b_repr (by first | exact PySem.boot_repr | exact PyProof.Rows.boot_repr | exact L2.boot_repr | decide +kernel) (cd_cons (fun _ => cd_nil) (ce_name (i := 3) (d := d7))))))) (ct_cmp (op_neA (Room.u64 hr)) p2_ne (fun _ => (ce_to PyData.str (ce_blt (call_reprD (by exact hgd) (by have q := Room.u65 hr; exact q)) pc_reprD W.b_repr (by first | exact PySem.boot_repr | exact PyProof.Rows.boot_repr | exact L2.boot_repr | decide +kernel) (cd_cons (fun _ => cd_nil) (ce_show (ce_lst (cd_cons (fun _ => (cd_cons (fun _ => cd_nil) (ce_name (i := 9) (d := d12)))) (ce_name (i := 9) (d := d12))))))))) (ce_to PyData.str (ce_blt (call_reprD (by exact hgd) (by have q := Room.u65 hr; exact q)) pc_reprD W.b_repr (by first | exact PySem.boot_repr | exact PyProof.Rows.boot_repr | exact L2.boot_repr | decide +kernel) (cd_cons (fun _ => cd_nil) (ce_show (ce_lst (cd_cons (fun _ => (cd_cons (fun _ => cd_nil) (ce_callPK0 (cal_number_of W) W.kw_number_of_0_book (hr.mono (by decide)) hgd (ck_cons (rk := R.v) (fun _ => ck_nil) (ce_name (i := 3) (d := d7)))))) (ce_callP (cal_number_of W) (hr.mono (by decide)) hgd (ca_cons (rk := R.v) (fun _ => ca_nil) (ce_name (i := 3) (d := d7)))))))))))))))) (fun _ => (ce_to PyData.str (ce_blt (call_reprD (by exact hgd) (by have q := Room.u65 hr; exact q)) pc_reprD W.b_repr (by first | exact PySem.boot_repr | exact PyProof.Rows.boot_repr | exact L2.boot_repr | decide +kernel) (cd_cons (fun _ => cd_nil) (ce_name (i := 3) (d := d7)))))) (ce_callP (cal__law_number W) (hr.mono (by decide)) hgd (ca_cons (rk := R.v) (fun _ => ca_nil) (ce_name (i := 3) (d := d7)))) sc_law.nd)) (ce_bnd (ce_if (ce_callM (cal__law_book W sc ns) (hr.mono (by decide)) hgd (ca_cons (rk := R.o) (fun _ => ca_nil) (ce_obj (i := 1) (a := a2)))) (ce_callP (cal__law_named W) (hr.mono (by decide)) hgd (ca_cons (rk := R.v) (fun _ => ca_nil) (ce_name (i := 2) (d := a5)))) (ct_cmp op_gt (p2_cmpI _) (fun _ => ce_int) (ce_name (i := 2) (d := a5))))) sc_law.nd)) (fun t3 => (cg_name 2 (pg_name sc_law.nd rfl (by first | exact .inl rfl | exact .inr rfl)))) (ci_range1 W.b_range (cd_cons (fun _ => cd_nil) ce_int)) (show LeE [some (.obj a1), some (.obj a2), none, none, none, none, none, none, none, none, none] [some (.obj a1), some (.obj a2), none, none, none, none, none, none, none, none, none] from (le_same (le_same (le_none (le_none (le_none (le_none (le_none (le_none (le_none (le_none (le_none le_nil)))))))))))))) (ce_callM (cal__law_jar W sc ns) (hr.mono (by decide)) hgd (ca_cons (rk := R.o) (fun _ => ca_nil) (ce_obj (i := 0) (a := a1)))) sc_law.nd) rfl)
theorem wd_mk {h : Heap} (X : K.In h) (G : h.Ns mainGlobals mg)
    {f0 : Addr} {od0 an0 : Option Addr} {sl0 : Array (Option Value)} {oc0 kV0 dc0 pm0 cd0 ct0 : Value}
    (a0 : PySem.W.nsIn K mainGlobals "is_word" = some (some (.ref f0))) (l0 : K.lookup f0 = some ⟨oc0, od0, .func (PySem.W.fnOf "is_word" "is_word" (defArgs (topS 8)) (defBody (topS 8)) (defScope (topS 8)) .none kV0 dc0 pm0 an0 cd0 ct0), sl0⟩) (c0 : PySem.W.codeIn K cd0 "is_word" = true) (k0 : PySem.W.keepIn K (.ref f0) = true)
    {f1 : Addr} {od1 an1 : Option Addr} {sl1 : Array (Option Value)} {oc1 kV1 dc1 pm1 cd1 ct1 : Value}
    (a1 : PySem.W.nsIn K mainGlobals "book_error" = some (some (.ref f1))) (l1 : K.lookup f1 = some ⟨oc1, od1, .func (PySem.W.fnOf "book_error" "book_error" (defArgs (topS 9)) (defBody (topS 9)) (defScope (topS 9)) .none kV1 dc1 pm1 an1 cd1 ct1), sl1⟩) (c1 : PySem.W.codeIn K cd1 "book_error" = true) (k1 : PySem.W.keepIn K (.ref f1) = true)
    {f2 : Addr} {od2 an2 : Option Addr} {sl2 : Array (Option Value)} {oc2 kV2 dc2 pm2 cd2 ct2 : Value}
    (a2 : PySem.W.nsIn K mainGlobals "number_of" = some (some (.ref f2))) (l2 : K.lookup f2 = some ⟨oc2, od2, .func (PySem.W.fnOf "number_of" "number_of" (defArgs (topS 10)) (defBody (topS 10)) (defScope (topS 10)) .none kV2 dc2 pm2 an2 cd2 ct2), sl2⟩) (c2 : PySem.W.codeIn K cd2 "number_of" = true) (k2 : PySem.W.keepIn K (.ref f2) = true)
    {f3 : Addr} {od3 an3 : Option Addr} {sl3 : Array (Option Value)} {oc3 kV3 dc3 pm3 cd3 ct3 : Value}
    (a3 : PySem.W.nsIn K mainGlobals "_law_jar" = some (some (.ref f3))) (l3 : K.lookup f3 = some ⟨oc3, od3, .func (PySem.W.fnOf "_law_jar" "_law_jar" (defArgs (topS 13)) (defBody (topS 13)) (defScope (topS 13)) .none kV3 dc3 pm3 an3 cd3 ct3), sl3⟩) (c3 : PySem.W.codeIn K cd3 "_law_jar" = true) (k3 : PySem.W.keepIn K (.ref f3) = true)
    {f4 : Addr} {od4 an4 : Option Addr} {sl4 : Array (Option Value)} {oc4 kV4 dc4 pm4 cd4 ct4 : Value}
    (a4 : PySem.W.nsIn K mainGlobals "_law_draw" = some (some (.ref f4))) (l4 : K.lookup f4 = some ⟨oc4, od4, .func (PySem.W.fnOf "_law_draw" "_law_draw" (defArgs (topS 14)) (defBody (topS 14)) (defScope (topS 14)) .none kV4 dc4 pm4 an4 cd4 ct4), sl4⟩) (c4 : PySem.W.codeIn K cd4 "_law_draw" = true) (k4 : PySem.W.keepIn K (.ref f4) = true)
    {f5 : Addr} {od5 an5 : Option Addr} {sl5 : Array (Option Value)} {oc5 kV5 dc5 pm5 cd5 ct5 : Value}
    (a5 : PySem.W.nsIn K mainGlobals "_law_pick" = some (some (.ref f5))) (l5 : K.lookup f5 = some ⟨oc5, od5, .func (PySem.W.fnOf "_law_pick" "_law_pick" (defArgs (topS 15)) (defBody (topS 15)) (defScope (topS 15)) .none kV5 dc5 pm5 an5 cd5 ct5), sl5⟩) (c5 : PySem.W.codeIn K cd5 "_law_pick" = true) (k5 : PySem.W.keepIn K (.ref f5) = true)
    {f6 : Addr} {od6 an6 : Option Addr} {sl6 : Array (Option Value)} {oc6 kV6 dc6 pm6 cd6 ct6 : Value}
    (a6 : PySem.W.nsIn K mainGlobals "_law_words" = some (some (.ref f6))) (l6 : K.lookup f6 = some ⟨oc6, od6, .func (PySem.W.fnOf "_law_words" "_law_words" (defArgs (topS 16)) (defBody (topS 16)) (defScope (topS 16)) .none kV6 dc6 pm6 an6 cd6 ct6), sl6⟩) (c6 : PySem.W.codeIn K cd6 "_law_words" = true) (k6 : PySem.W.keepIn K (.ref f6) = true)
    {f7 : Addr} {od7 an7 : Option Addr} {sl7 : Array (Option Value)} {oc7 kV7 dc7 pm7 cd7 ct7 : Value}
    (a7 : PySem.W.nsIn K mainGlobals "_law_named" = some (some (.ref f7))) (l7 : K.lookup f7 = some ⟨oc7, od7, .func (PySem.W.fnOf "_law_named" "_law_named" (defArgs (topS 18)) (defBody (topS 18)) (defScope (topS 18)) .none kV7 dc7 pm7 an7 cd7 ct7), sl7⟩) (c7 : PySem.W.codeIn K cd7 "_law_named" = true) (k7 : PySem.W.keepIn K (.ref f7) = true)
    {f8 : Addr} {od8 an8 : Option Addr} {sl8 : Array (Option Value)} {oc8 kV8 dc8 pm8 cd8 ct8 : Value}
    (a8 : PySem.W.nsIn K mainGlobals "_law_book" = some (some (.ref f8))) (l8 : K.lookup f8 = some ⟨oc8, od8, .func (PySem.W.fnOf "_law_book" "_law_book" (defArgs (topS 17)) (defBody (topS 17)) (defScope (topS 17)) .none kV8 dc8 pm8 an8 cd8 ct8), sl8⟩) (c8 : PySem.W.codeIn K cd8 "_law_book" = true) (k8 : PySem.W.keepIn K (.ref f8) = true)
    {f9 : Addr} {od9 an9 : Option Addr} {sl9 : Array (Option Value)} {oc9 kV9 dc9 pm9 cd9 ct9 : Value}
    (a9 : PySem.W.nsIn K mainGlobals "_law_odd" = some (some (.ref f9))) (l9 : K.lookup f9 = some ⟨oc9, od9, .func (PySem.W.fnOf "_law_odd" "_law_odd" (defArgs (topS 19)) (defBody (topS 19)) (defScope (topS 19)) .none kV9 dc9 pm9 an9 cd9 ct9), sl9⟩) (c9 : PySem.W.codeIn K cd9 "_law_odd" = true) (k9 : PySem.W.keepIn K (.ref f9) = true)
    {f10 : Addr} {od10 an10 : Option Addr} {sl10 : Array (Option Value)} {oc10 kV10 dc10 pm10 cd10 ct10 : Value}
    (a10 : PySem.W.nsIn K mainGlobals "_law_number" = some (some (.ref f10))) (l10 : K.lookup f10 = some ⟨oc10, od10, .func (PySem.W.fnOf "_law_number" "_law_number" (defArgs (topS 20)) (defBody (topS 20)) (defScope (topS 20)) .none kV10 dc10 pm10 an10 cd10 ct10), sl10⟩) (c10 : PySem.W.codeIn K cd10 "_law_number" = true) (k10 : PySem.W.keepIn K (.ref f10) = true)
    {f11 : Addr} {od11 an11 : Option Addr} {sl11 : Array (Option Value)} {oc11 kV11 dc11 pm11 cd11 ct11 : Value}
    (a11 : PySem.W.nsIn K mainGlobals "_law_is_number" = some (some (.ref f11))) (l11 : K.lookup f11 = some ⟨oc11, od11, .func (PySem.W.fnOf "_law_is_number" "_law_is_number" (defArgs (topS 21)) (defBody (topS 21)) (defScope (topS 21)) .none kV11 dc11 pm11 an11 cd11 ct11), sl11⟩) (c11 : PySem.W.codeIn K cd11 "_law_is_number" = true) (k11 : PySem.W.keepIn K (.ref f11) = true)
    {f12 : Addr} {od12 an12 : Option Addr} {sl12 : Array (Option Value)} {oc12 kV12 dc12 pm12 cd12 ct12 : Value}
    (a12 : PySem.W.nsIn K mainGlobals "is_within" = some (some (.ref f12))) (l12 : K.lookup f12 = some ⟨oc12, od12, .func (PySem.W.fnOf "is_within" "is_within" (defArgs (topS 2)) (defBody (topS 2)) (defScope (topS 2)) .none kV12 dc12 pm12 an12 cd12 ct12), sl12⟩) (c12 : PySem.W.codeIn K cd12 "is_within" = true) (k12 : PySem.W.keepIn K (.ref f12) = true)
    {f13 : Addr} {od13 an13 : Option Addr} {sl13 : Array (Option Value)} {oc13 kV13 dc13 pm13 cd13 ct13 : Value}
    (a13 : PySem.W.nsIn K mainGlobals "book_of" = some (some (.ref f13))) (l13 : K.lookup f13 = some ⟨oc13, od13, .func (PySem.W.fnOf "book_of" "book_of" (defArgs (topS 11)) (defBody (topS 11)) (defScope (topS 11)) .none kV13 dc13 pm13 an13 cd13 ct13), sl13⟩) (c13 : PySem.W.codeIn K cd13 "book_of" = true) (k13 : PySem.W.keepIn K (.ref f13) = true)
    {f14 : Addr} {od14 an14 : Option Addr} {sl14 : Array (Option Value)} {oc14 kV14 dc14 pm14 cd14 ct14 : Value}
    (a14 : PySem.W.nsIn K mainGlobals "_law_heard" = some (some (.ref f14))) (l14 : K.lookup f14 = some ⟨oc14, od14, .func (PySem.W.fnOf "_law_heard" "_law_heard" (defArgs (topS 22)) (defBody (topS 22)) (defScope (topS 22)) .none kV14 dc14 pm14 an14 cd14 ct14), sl14⟩) (c14 : PySem.W.codeIn K cd14 "_law_heard" = true) (k14 : PySem.W.keepIn K (.ref f14) = true)
    {f15 : Addr} {od15 an15 : Option Addr} {sl15 : Array (Option Value)} {oc15 kV15 dc15 pm15 cd15 ct15 : Value}
    (a15 : PySem.W.nsIn K mainGlobals "_law_of" = some (some (.ref f15))) (l15 : K.lookup f15 = some ⟨oc15, od15, .func (PySem.W.fnOf "_law_of" "_law_of" (defArgs (topS 23)) (defBody (topS 23)) (defScope (topS 23)) .none kV15 dc15 pm15 an15 cd15 ct15), sl15⟩) (c15 : PySem.W.codeIn K cd15 "_law_of" = true) (k15 : PySem.W.keepIn K (.ref f15) = true)
    {f16 : Addr} {od16 an16 : Option Addr} {sl16 : Array (Option Value)} {oc16 kV16 dc16 pm16 cd16 ct16 : Value}
    (a16 : PySem.W.nsIn K mainGlobals "law" = some (some (.ref f16))) (l16 : K.lookup f16 = some ⟨oc16, od16, .func (PySem.W.fnOf "law" "law" (defArgs (topS 24)) (defBody (topS 24)) (defScope (topS 24)) .none kV16 dc16 pm16 an16 cd16 ct16), sl16⟩) (c16 : PySem.W.codeIn K cd16 "law" = true) (k16 : PySem.W.keepIn K (.ref f16) = true)
    (z_bool : PySem.W.nsIn K mainGlobals "bool" = some none)
    (z_int : PySem.W.nsIn K mainGlobals "int" = some none)
    (z_isinstance : PySem.W.nsIn K mainGlobals "isinstance" = some none)
    (z_len : PySem.W.nsIn K mainGlobals "len" = some none)
    (z_list : PySem.W.nsIn K mainGlobals "list" = some none)
    (z_range : PySem.W.nsIn K mainGlobals "range" = some none)
    (z_repr : PySem.W.nsIn K mainGlobals "repr" = some none)
    (z_str : PySem.W.nsIn K mainGlobals "str" = some none)
    (z_tuple : PySem.W.nsIn K mainGlobals "tuple" = some none)
    (z_zip : PySem.W.nsIn K mainGlobals "zip" = some none)
    {u_MAX_BOOKS : Value} (y_MAX_BOOKS : PySem.W.nsIn K mainGlobals "MAX_BOOKS" = some (some u_MAX_BOOKS)) (v_MAX_BOOKS : kData K 8 u_MAX_BOOKS = some G_MAX_BOOKS)
    {u_ENTRIES : Value} (y_ENTRIES : PySem.W.nsIn K mainGlobals "ENTRIES" = some (some u_ENTRIES)) (v_ENTRIES : kData K 8 u_ENTRIES = some G_ENTRIES)
    {C_SleepError : Addr}
    (ea_SleepError : PySem.W.nsIn K mainGlobals "SleepError" = some (some (.ref C_SleepError)))
    (eb_SleepError : PySem.W.hasDictIn K C_SleepError = true)
    (ec_SleepError : PySem.W.typeIn K (.ref C_SleepError) = some (.type "type"))
    {C_Unfit : Addr}
    (ea_Unfit : PySem.W.nsIn K mainGlobals "Unfit" = some (some (.ref C_Unfit)))
    (eb_Unfit : PySem.W.hasDictIn K C_Unfit = true)
    (ec_Unfit : PySem.W.typeIn K (.ref C_Unfit) = some (.type "type"))
    (ed_Unfit : PySem.W.subIn K (.ref C_Unfit) (.type "BaseException") = some true)
    (ee_Unfit : PySem.W.findIn K (.ref C_Unfit) "__getattribute__" = some (some (.builtin "BaseException.__getattribute__")))
    (ef_Unfit : PySem.W.findIn K (.ref C_Unfit) "__getattr__" = some none)
    (eg_Unfit : PySem.W.findIn K (.ref C_Unfit) "__class__" = some (some (.builtin "object.__class__")))
    (eh_Unfit : PySem.W.mroIn K C_Unfit (.type "object") = some true)
    (ei_Unfit : PySem.W.subIn K (.ref C_Unfit) (.ref C_Unfit) = some true)
    {nm_Unfit q_Unfit u_Unfit fl_Unfit : Str} {N_Unfit f_Unfit o_Unfit cc_Unfit : Addr} {bs_Unfit bm_Unfit su_Unfit : List Value} {sn_Unfit : List Str} {ab_Unfit : Bool} {co_Unfit : Option Bool} {dd_Unfit an_Unfit od_Unfit cdd_Unfit cld_Unfit : Option Addr} {k0_Unfit k1_Unfit k2_Unfit k3_Unfit k5_Unfit : Option Value}
    {kV_Unfit doc_Unfit pm_Unfit ct_Unfit oc_Unfit ccl_Unfit cl_Unfit : Value} {osl_Unfit ccs_Unfit csl_Unfit : Array (Option Value)} {vs_Unfit : Array Value} {tf_Unfit : Tok}
    (ej_Unfit : K.lookup C_Unfit = some (excClassObj nm_Unfit q_Unfit C_Unfit N_Unfit bs_Unfit bm_Unfit true sn_Unfit su_Unfit ab_Unfit co_Unfit dd_Unfit k0_Unfit k1_Unfit k2_Unfit k3_Unfit k5_Unfit "ValueError.__new__"))
    (ek_Unfit_R : PySem.HandSPX.refsVE bm_Unfit = true)
    (el_Unfit : PySem.W.findIn K (.ref C_Unfit) "__setattr__" = some (some (.builtin "object.__setattr__")))
    (em_Unfit : PySem.W.keepIn K (.ref C_Unfit) = true)
    (en_Unfit : PySem.W.findIn K (.ref C_Unfit) "__init__" = some (some (.ref f_Unfit)))
    (eo_Unfit : PySem.W.typeIn K (.ref f_Unfit) = some (.type "function"))
    (ep_Unfit : K.lookup f_Unfit = some ⟨oc_Unfit, od_Unfit, .func (PySem.W.ksFn "__init__" u_Unfit (defArgs (inClass (topS 5) 0)) (defBody (inClass (topS 5) 0)) (defScope (inClass (topS 5) 0)) .none kV_Unfit doc_Unfit pm_Unfit an_Unfit (.ref o_Unfit) ct_Unfit cc_Unfit), osl_Unfit⟩)
    (eq_Unfit : PySem.W.codeIn K (.ref o_Unfit) u_Unfit = true)
    (er_Unfit : K.lookup o_Unfit = some ⟨ccl_Unfit, cdd_Unfit, .fields vs_Unfit, ccs_Unfit⟩)
    (es_Unfit_R : vs_Unfit[2]? = some (.str fl_Unfit tf_Unfit))
    (et_Unfit_R : ((prog.main.file : Str) == fl_Unfit) = true)
    (eu_Unfit : K.lookup cc_Unfit = some ⟨cl_Unfit, cld_Unfit, .cell (some (.ref C_Unfit)), csl_Unfit⟩)
    (ev_Unfit_K : PySem.W.ks_superIn K C_Unfit C_Unfit "__init__" = some (some (.builtin "ValueError.__init__")))
    (ew_Unfit : PySem.W.subIn K (.ref C_Unfit) (.type "ValueError") = some true)
    (ex_Unfit : PySem.W.mroIn K C_Unfit (.ref C_Unfit) = some true)
    (ez_Unfit_SleepError : PySem.W.subIn K (.ref C_Unfit) (.ref C_SleepError) = some true)
    (fa : PySem.W.nsIn K cStatics "thirdparty.any" = some none)
    (fb_R : (prog.main.scope.names.lookup ("super" : Str)).isSome = false)
    (fc : PySem.W.nsIn K mainGlobals "super" = some none)
    (fd : PySem.W.specialIn K (.builtin "object.__class__") "__get__" = some (some (.builtin "getset_descriptor.__get__")))
    (fe : PySem.W.takesIn K (.builtin "object.__class__") = some true)
    : Wd w K mg := by
  have D0 : Dfd K mg "is_word" "is_word" (topS 8) ["words", "value"] := dfd_mk X G a0 l0 c0 k0 (fun _ _ _ _ _ _ us hl => match us, hl with | [_, _], _ => rfl)
  have D1 : Dfd K mg "book_error" "book_error" (topS 9) ["value"] := dfd_mk X G a1 l1 c1 k1 (fun _ _ _ _ _ _ us hl => match us, hl with | [_], _ => rfl)
  have D2 : Dfd K mg "number_of" "number_of" (topS 10) ["book"] := dfd_mk X G a2 l2 c2 k2 (fun _ _ _ _ _ _ us hl => match us, hl with | [_], _ => rfl)
  have D3 : Dfd K mg "_law_jar" "_law_jar" (topS 13) ["script"] := dfd_mk X G a3 l3 c3 k3 (fun _ _ _ _ _ _ us hl => match us, hl with | [_], _ => rfl)
  have D4 : Dfd K mg "_law_draw" "_law_draw" (topS 14) ["jar", "many"] := dfd_mk X G a4 l4 c4 k4 (fun _ _ _ _ _ _ us hl => match us, hl with | [_, _], _ => rfl)
  have D5 : Dfd K mg "_law_pick" "_law_pick" (topS 15) ["jar", "row"] := dfd_mk X G a5 l5 c5 k5 (fun _ _ _ _ _ _ us hl => match us, hl with | [_, _], _ => rfl)
  have D6 : Dfd K mg "_law_words" "_law_words" (topS 16) [] := dfd_mk X G a6 l6 c6 k6 (fun _ _ _ _ _ _ us hl => match us, hl with | [], _ => rfl)
  have D7 : Dfd K mg "_law_named" "_law_named" (topS 18) ["k"] := dfd_mk X G a7 l7 c7 k7 (fun _ _ _ _ _ _ us hl => match us, hl with | [_], _ => rfl)
  have D8 : Dfd K mg "_law_book" "_law_book" (topS 17) ["jar"] := dfd_mk X G a8 l8 c8 k8 (fun _ _ _ _ _ _ us hl => match us, hl with | [_], _ => rfl)
  have D9 : Dfd K mg "_law_odd" "_law_odd" (topS 19) ["jar"] := dfd_mk X G a9 l9 c9 k9 (fun _ _ _ _ _ _ us hl => match us, hl with | [_], _ => rfl)
  have D10 : Dfd K mg "_law_number" "_law_number" (topS 20) ["book"] := dfd_mk X G a10 l10 c10 k10 (fun _ _ _ _ _ _ us hl => match us, hl with | [_], _ => rfl)
  have D11 : Dfd K mg "_law_is_number" "_law_is_number" (topS 21) ["value", "low", "top"] := dfd_mk X G a11 l11 c11 k11 (fun _ _ _ _ _ _ us hl => match us, hl with | [_, _, _], _ => rfl)
  have D12 : Dfd K mg "is_within" "is_within" (topS 2) ["value", "least", "most"] := dfd_mk X G a12 l12 c12 k12 (fun _ _ _ _ _ _ us hl => match us, hl with | [_, _, _], _ => rfl)
  have D13 : Dfd K mg "book_of" "book_of" (topS 11) ["value"] := dfd_mk X G a13 l13 c13 k13 (fun _ _ _ _ _ _ us hl => match us, hl with | [_], _ => rfl)
  have D14 : Dfd K mg "_law_heard" "_law_heard" (topS 22) ["value", "is_named"] := dfd_mk X G a14 l14 c14 k14 (fun _ _ _ _ _ _ us hl => match us, hl with | [_, _], _ => rfl)
  have D15 : Dfd K mg "_law_of" "_law_of" (topS 23) ["number"] := dfd_mk X G a15 l15 c15 k15 (fun _ _ _ _ _ _ us hl => match us, hl with | [_], _ => rfl)
  have D16 : Dfd K mg "law" "law" (topS 24) ["script"] := dfd_mk X G a16 l16 c16 k16 (fun _ _ _ _ _ _ us hl => match us, hl with | [_], _ => rfl)
  exact ⟨D0, D1, D2, D3, D4, D5, D6, D7, D8, D9, D10, D11, D12, D13, D14, D15, D16, PySem.W.mg_none_of X G z_bool, PySem.W.mg_none_of X G z_int, PySem.W.mg_none_of X G z_isinstance, PySem.W.mg_none_of X G z_len, PySem.W.mg_none_of X G z_list, PySem.W.mg_none_of X G z_range, PySem.W.mg_none_of X G z_repr, PySem.W.mg_none_of X G z_str, PySem.W.mg_none_of X G z_tuple, PySem.W.mg_none_of X G z_zip, glo_mk X G y_MAX_BOOKS 8 v_MAX_BOOKS, glo_mk X G y_ENTRIES 8 v_ENTRIES, kwb_of D13 (fun _ _ _ _ _ _ us ws hu hw => match us, ws, hu, hw with | [], [_], _, _ => rfl), kwb_of D2 (fun _ _ _ _ _ _ us ws hu hw => match us, ws, hu, hw with | [], [_], _, _ => rfl), err0_mk X G (errk_mk (st := (inClass (topS 5) 0)) ej_Unfit ek_Unfit_R el_Unfit ed_Unfit ec_Unfit em_Unfit ee_Unfit ef_Unfit eb_Unfit en_Unfit eo_Unfit ep_Unfit eq_Unfit er_Unfit es_Unfit_R et_Unfit_R eu_Unfit ev_Unfit_K ew_Unfit ex_Unfit fa fb_R (fun _ _ _ _ _ _ _ _ us hl => match us, hl with | [_], _ => rfl)) txt_Unfit ea_Unfit fc, catch_mk X G ea_Unfit ee_Unfit ef_Unfit ed_Unfit eb_Unfit eg_Unfit fd fe eh_Unfit ec_Unfit ei_Unfit, sort_mk X G ea_Unfit ea_SleepError eb_SleepError ec_SleepError ez_Unfit_SleepError⟩
end
-- CASES a0 l0 c0 k0 a1 l1 c1 k1 a2 l2 c2 k2 a3 l3 c3 k3 a4 l4 c4 k4 a5 l5 c5 k5 a6 l6 c6 k6 a7 l7 c7 k7 a8 l8 c8 k8 a9 l9 c9 k9 a10 l10 c10 k10 a11 l11 c11 k11 a12 l12 c12 k12 a13 l13 c13 k13 a14 l14 c14 k14 a15 l15 c15 k15 a16 l16 c16 k16 z_bool z_int z_isinstance z_len z_list z_range z_repr z_str z_tuple z_zip y_MAX_BOOKS v_MAX_BOOKS y_ENTRIES v_ENTRIES ea_SleepError eb_SleepError ec_SleepError ea_Unfit eb_Unfit ec_Unfit ed_Unfit ee_Unfit ef_Unfit eg_Unfit eh_Unfit ei_Unfit ej_Unfit ek_Unfit_R el_Unfit em_Unfit en_Unfit eo_Unfit ep_Unfit eq_Unfit er_Unfit es_Unfit_R et_Unfit_R eu_Unfit ev_Unfit_K ew_Unfit ex_Unfit ez_Unfit_SleepError fa fb_R fc fd fe
-- LEVEL 4
end LawX

set_option Elab.async false
set_option linter.all false
set_option autoImplicit false
set_option maxRecDepth 100000
set_option maxHeartbeats 400000
set_option pp.maxSteps 600
namespace LawX
open PySem PySem.Spec PyProof.Rows L2 Cl
open MO
theorem w_jn {γ α β : Type} {f : (α → M γ β) → M γ β} {k : α → M γ β} {g : γ} {Q : β → γ → Prop} {E : Xc → γ → Prop} (h : (f k).wp g Q E) : (jn f k).wp g Q E := h
/-- the drawing object, good for m draws more -/
def Jar (m : Nat) (g : GH) (p : Addr) : Prop := ∃ (q c : Addr) (fs cs : List Int) (sl0 cnt : Int), g p = some (.dct [(.inr "far", .r q), (.inr "cells", .r c), (.inr "seal", .d (.int sl0)), (.inr "count", .d (.int cnt))]) ∧
  g q = some (.lst (fs.map PyData.int)) ∧ g c = some (.lst (cs.map PyData.int)) ∧ cs ≠ [] ∧ q ≠ c ∧ fs.length ≤ 64 ∧ 0 ≤ cnt ∧ cnt + m ≤ 1000000000000
theorem atI_mod {cs : List Int} (h : cs ≠ []) (k : Int) : ∃ v, atF (.int (k % (cs.length : Nat))) (cs.map PyData.int) = some (.int v) := by
  have hl : 0 < cs.length := List.length_pos_iff.mpr h
  have h1 : 0 ≤ k % (cs.length : Nat) := Int.emod_nonneg _ (by omega)
  have h2 : k % (cs.length : Nat) < (cs.length : Nat) := Int.emod_lt_of_pos _ (by omega)
  generalize hj : k % (cs.length : Nat) = j at h1 h2
  show ∃ v, atI (cs.map PyData.int) j = some (.int v)
  unfold atI ixN
  rw [if_pos h1, if_pos (by rw [List.length_map]; exact h2)]
  have h3 : j.toNat < cs.length := by omega
  refine ⟨cs[j.toNat], ?_⟩
  show (cs.map PyData.int)[j.toNat]? = _
  rw [List.getElem?_map, List.getElem?_eq_getElem h3]
  rfl
theorem draw_ok {m : Nat} {g : GH} {p : Addr} {n : Int} {Q : D → GH → Prop} {E : Xc → GH → Prop} (h : Jar (m + 1) g p) (h0 : 0 < n) (h1 : n < 1073741824) (hq : ∀ i g', Jar m g' p → 0 ≤ i → i < n → Q (.int i) g') :
    (m__law_draw (p, .int n, ())).wp g Q E := by
  obtain ⟨q, c, fs, cs, sl0, cnt, e1, e2, e3, e4, e5, e6, e7, e8⟩ := h
  have npq : p ≠ q := fun z => by rw [z, e2] at e1; cases e1
  have npc : p ≠ c := fun z => by rw [z, e3] at e1; cases e1
  refine w_fldO e1 rfl ?_
  refine w_rd e2 (neNil_ints fs) ?_
  cases fs with
  | cons f fs =>
    refine w_mt e2 (x := .int f) (ds' := fs.map PyData.int) rfl (flatL_ints fs) ?_
    have last : ∀ (ys : List Int) (g2 : GH), ys.length ≤ 64 → g2 q = some (.lst (ys.map PyData.int)) → (∀ b, b ≠ q → g2 b = g b) → Jar m g2 p := fun ys g2 hy h2 h3 =>
      ⟨q, c, ys, cs, sl0, cnt, by rw [h3 p npq]; exact e1, h2, by rw [h3 c (Ne.symm e5)]; exact e3, e4, e5, hy, e7, by omega⟩
    rw [List.length_cons] at e6
    refine w_jn (w_need (a := decide (n ≤ f)) rfl (w_ite (fun _ => ?_) (fun _ => ?_)))
    · refine w_isL gset_same ?_
      refine w_need (fdivF_i ⟨h0, h1⟩) ?_
      refine w_mt gset_same (x := .none) (ds' := (f / n :: fs).map PyData.int) ?_ (flatL_ints _) ?_
      · unfold ins0F
        rw [if_pos (by rw [List.length_map]; have := sizeLine_eq; omega)]
        rfl
      · refine w_need intF_i (w_need (modF_i h0) (hq _ _ (last (f / n :: fs) _ (by rw [List.length_cons]; omega) gset_same fun b hb => by rw [gset_ne hb, gset_ne hb]) (Int.emod_nonneg _ (by omega)) (Int.emod_lt_of_pos _ h0)))
    · refine w_need intF_i (w_need (modF_i h0) (hq _ _ (last fs _ (by omega) gset_same fun b hb => by rw [gset_ne hb]) (Int.emod_nonneg _ (by omega)) (Int.emod_lt_of_pos _ h0)))
  | nil =>
    refine w_fldD e1 rfl ?_
    refine w_need addF_i ?_
    refine w_put e1 (by have := sizeLine_eq; show 4 < sizeLine; omega) rfl ?_
    have e1' : gset g p (.dct (putR [(.inr "far", .r q), (.inr "cells", .r c), (.inr "seal", .d (.int sl0)), (.inr "count", .d (.int cnt))] (.inr "count") (.d (.int (cnt + 1))))) p = some (.dct [(.inr "far", .r q), (.inr "cells", .r c), (.inr "seal", .d (.int sl0)), (.inr "count", .d (.int (cnt + 1)))]) := gset_same
    have e3' : gset g p (.dct (putR [(.inr "far", .r q), (.inr "cells", .r c), (.inr "seal", .d (.int sl0)), (.inr "count", .d (.int cnt))] (.inr "count") (.d (.int (cnt + 1))))) c = some (.lst (cs.map PyData.int)) := by rw [gset_ne (Ne.symm npc)]; exact e3
    have e2' : gset g p (.dct (putR [(.inr "far", .r q), (.inr "cells", .r c), (.inr "seal", .d (.int sl0)), (.inr "count", .d (.int cnt))] (.inr "count") (.d (.int (cnt + 1))))) q = some (.lst (([] : List Int).map PyData.int)) := by rw [gset_ne (Ne.symm npq)]; exact e2
    generalize gset g p _ = g1 at e1' e2' e3' ⊢
    have jr : Jar m g1 p := ⟨q, c, [], cs, sl0, cnt + 1, e1', e2', e3', e4, e5, by decide, by omega, by omega⟩
    refine w_fldD e1' rfl ?_
    refine w_fldO e1' rfl ?_
    refine w_fldD e1' rfl ?_
    refine w_need intF_i ?_
    refine w_rd e3' rfl ?_
    rw [List.length_map]
    have hl : 0 < (cs.length : Int) := by have := List.length_pos_iff.mpr e4; omega
    refine w_need (modF_i hl) ?_
    obtain ⟨v, hv⟩ := atI_mod e4 (cnt + 1)
    refine w_rd e3' hv ?_
    refine w_need intF_i (w_need (mulF_l (by decide) (by decide)) (w_need addF_i (w_need (mulF_l (by decide) (by decide)) (w_need addF_i (w_need intF_i (w_need (modF_i (by decide)) ?_))))))
    refine w_need (mulF_r (by decide) (by decide)) (w_need (mulF_l (by omega) (by omega)) (w_need addF_i (w_need addF_i (w_need intF_i (w_need (modF_i (by decide)) ?_)))))
    refine w_need (mulF_r (by decide) (by decide)) (w_need (fdivF_i ⟨by decide, by decide⟩) (w_need addF_i (w_need intF_i (w_need (modF_i (by decide)) ?_))))
    exact w_need (fdivF_i ⟨by decide, by decide⟩) (w_need intF_i (w_need (modF_i h0) (hq _ _ jr (Int.emod_nonneg _ (by omega)) (Int.emod_lt_of_pos _ h0))))
theorem ints_of : ∀ {xs : List D}, (∀ d ∈ xs, ∃ k, d = .int k) → ∃ ks : List Int, xs = ks.map PyData.int
  | [], _ => ⟨[], rfl⟩
  | d :: xs, h => by
    obtain ⟨k, rfl⟩ := h d List.mem_cons_self
    obtain ⟨ks, rfl⟩ := ints_of fun e he => h e (List.mem_cons_of_mem _ he)
    exact ⟨k :: ks, rfl⟩
theorem all2_ints {S : D → D → Prop} (hS : ∀ d e, S d e → ∃ k, e = .int k) : ∀ {ds es : List D}, All2 S ds es → (∃ ks : List Int, es = ks.map PyData.int) ∧ es.length = ds.length
  | _, _, .nil => ⟨⟨[], rfl⟩, rfl⟩
  | _, _, .cons h t => by
    obtain ⟨k, rfl⟩ := hS _ _ h
    obtain ⟨⟨ks, rfl⟩, e⟩ := all2_ints hS t
    exact ⟨⟨k :: ks, rfl⟩, by rw [List.length_cons, List.length_cons, e]⟩
theorem cut_ints (ns : List Int) (hi : Option Int) : ∃ ks : List Int, Cl.cutD (ns.map PyData.int) none hi = ks.map PyData.int ∧ ks.length ≤ ns.length := by
  unfold Cl.cutD
  rw [← List.map_drop, ← List.map_take]
  exact ⟨_, rfl, by rw [List.length_take, List.length_drop]; omega⟩
theorem jar_ok {sc : Addr} {ns : List Int} {g : GH} {Q : Addr → GH → Prop} {E : Xc → GH → Prop} (hl : ns.length ≤ 63) (hq : ∀ p g', Jar 1000000000000 g' p → Q p g') : (m__law_jar sc ns (sc, ())).wp g Q E := by
  have big := sizeLine_eq
  refine w_need rfl (w_sc (w_need rfl ?_))
  obtain ⟨ks, ek, hk⟩ := cut_ints ns (some 63)
  rw [ek]
  refine w_nox (M.mono _ (w_compL (fun g' => g' = g) (fun _ e => ∃ k, e = .int k) (fun d hd g' hg => ?_) (by rw [List.length_map, List.length_nil]; omega) rfl) fun xs g' hx => ?_)
  · obtain ⟨k, _, rfl⟩ := List.mem_map.mp hd
    refine w_need rfl (w_ite (fun _ => ?_) (fun z => absurd rfl z))
    refine w_bnd (w_need (a := decide (0 ≤ k)) rfl (w_ite (fun _ => ?_) (fun _ => ?_)))
    · exact w_need (mulF_l (by decide) (by decide)) (w_pur (w_pur ⟨_, rfl, ⟨_, rfl⟩, hg⟩))
    · exact w_need (a := .int (-2)) rfl (w_need (mulF_l (by decide) (by decide)) (w_need subF_i (w_pur (w_pur ⟨_, rfl, ⟨_, rfl⟩, hg⟩))))
  obtain ⟨rfl, es, rfl, al⟩ := hx
  obtain ⟨⟨cs, rfl⟩, hc⟩ := all2_ints (fun _ _ z => z) al
  rw [List.length_map, List.length_map] at hc
  try rw [List.nil_append]
  refine w_sc (w_need (mulF_l (by decide) (by decide)) (w_need addF_i (w_need rfl ?_)))
  refine w_bnd (M.mono _ (w_forP (fun t g2 => (∃ k, t = .int k) ∧ g2 = g') (fun d hd t g2 ht => ?_) ⟨⟨_, rfl⟩, rfl⟩) fun t g2 ht => ?_)
  · obtain ⟨k, _, rfl⟩ := List.mem_map.mp hd
    obtain ⟨⟨j, rfl⟩, rfl⟩ := ht
    exact w_need rfl (w_need (mulF_r (by decide) (by decide)) (w_need (mulF_r (by decide) (by decide)) (w_need addF_i (w_need addF_i (w_need intF_i (w_need (modF_i (by decide)) (w_pur ⟨⟨_, rfl⟩, rfl⟩)))))))
  obtain ⟨⟨sl0, rfl⟩, rfl⟩ := ht
  refine w_need rfl (w_nox (M.mono _ (w_compF (fun g3 => g3 = g2) (fun e => ∃ k, e = .int k) (fun d hd g3 hg => ?_) (by rw [List.length_map, List.length_nil]; omega) (fun _ z => by simp at z) rfl) fun xs g3 hx => ?_))
  · obtain ⟨k, _, rfl⟩ := List.mem_map.mp hd
    refine w_need rfl (w_need (a := .int 1000000000000000000) rfl (w_need (a := decide (1000000000000000000 ≤ k)) rfl (w_ite (fun _ => ?_) (fun _ => ?_))))
    · exact w_pur ⟨fun e z => by cases z; exact ⟨k, rfl⟩, hg⟩
    · exact w_pur ⟨(fun e z => by cases z), hg⟩
  obtain ⟨rfl, hxs, hxl⟩ := hx
  obtain ⟨fs, rfl⟩ := ints_of hxs
  rw [List.length_map, List.length_map, List.length_nil] at hxl
  refine w_give (flatL_ints fs) fun q hq0 => ?_
  refine w_need rfl (w_need (mulF_l (by decide) (by decide)) (w_need addF_i ?_))
  refine w_need (a := (cs ++ [7 * (((cs.map PyData.int).length : Nat) : Int) + 3]).map PyData.int) ?_ ?_
  · show (if (cs.map PyData.int).length + 1 ≤ sizeLine then some (cs.map PyData.int ++ [.int (7 * (((cs.map PyData.int).length : Nat) : Int) + 3)]) else none) = _
    rw [if_pos (by rw [List.length_map]; omega), List.map_append]
    rfl
  refine w_nw (show ([.inr "far", .inr "cells", .inr "seal", .inr "count"] : List Key).Nodup by decide) (show 4 ≤ 15 by decide) ?_
  refine ⟨flatL_ints _, fun c hc0 => ⟨rfl, rfl, fun p hp => ?_⟩⟩
  refine w_pur (hq p _ ⟨q, c, fs, cs ++ [7 * (((cs.map PyData.int).length : Nat) : Int) + 3], sl0, 0, gset_same, ?_, ?_, by simp, ?_, by omega, by omega, by omega⟩)
  all_goals
    have ncq : c ≠ q := fun z => by rw [z, gset_same] at hc0; cases hc0
    have npc : p ≠ c := fun z => by rw [z, gset_same] at hp; cases hp
    have npq : p ≠ q := fun z => by rw [z, gset_ne (Ne.symm ncq), gset_same] at hp; cases hp
  · rw [gset_ne (Ne.symm npq), gset_ne (Ne.symm ncq), gset_same]
  · rw [gset_ne (Ne.symm npc), gset_same]
  · exact Ne.symm ncq
theorem len_ok {xs : List D} : lenF [.list xs] = some (xs.length : Nat) := rfl
theorem pick_ok {m : Nat} {g : GH} {p : Addr} {xs : List D} {Q : D → GH → Prop} {E : Xc → GH → Prop} (h : Jar (m + 1) g p) (h0 : xs ≠ []) (h1 : xs.length ≤ 100000) (hq : ∀ x g', x ∈ xs → Jar m g' p → Q x g') :
    (m__law_pick (p, .list xs, ())).wp g Q E := by
  have hp := List.length_pos_iff.mpr h0
  have e1 : ((xs.length : Nat) : Int) < 1073741824 := by omega
  have e2 : 0 < ((xs.length : Nat) : Int) := by omega
  refine w_need len_ok ?_
  refine w_call (f := m__law_draw) (a := (p, .int (xs.length : Nat), ())) rfl ?_
  refine draw_ok h e2 e1 fun i g' jr hi hi2 => ?_
  have h3 : i.toNat < xs.length := by omega
  obtain ⟨x, hx⟩ : ∃ x, xs[i.toNat]? = some x := ⟨_, List.getElem?_eq_getElem h3⟩
  have e3 : ixF (.list xs) (.int i) = some x := by
    show (ixN xs.length i).bind (fun j => xs[j]?) = some x
    unfold ixN
    rw [if_pos hi, if_pos hi2]
    exact hx
  exact w_need e3 (w_pur (hq x g' (List.mem_of_getElem? hx) jr))
end LawX

set_option Elab.async false
set_option linter.all false
set_option autoImplicit false
set_option maxRecDepth 100000
set_option maxHeartbeats 400000
set_option pp.maxSteps 600
namespace LawX
open PySem PySem.Spec PyProof.Rows L2 Cl
open MO
section
variable {γ α β δ τ : Type} {E : Xc → γ → Prop}
theorem w_forLn (I : Nat → τ → γ → Prop) (B : τ → γ → Prop) (Rr : δ → γ → Prop) {f : D → τ → M γ (Lp δ τ)} : ∀ {ds : List D} {t : τ} {g : γ},
    (∀ d ∈ ds, ∀ n t g, I (n + 1) t g → (f d t).wp g (fun r g' => match r with | .nx t => I n t g' | .bk t => B t g' | .rt r => Rr r g') E) → I ds.length t g →
    (forL ds t f : M γ (Lp δ τ)).wp g (fun r g' => match r with | .nx t => I 0 t g' | .bk t => B t g' | .rt r => Rr r g') E
  | [], t, g, _, h => h
  | d :: ds, t, g, hs, h => (f d t).mono (hs d List.mem_cons_self ds.length t g h) fun r g' h' => by
    cases r with
    | nx t' => exact w_forLn I B Rr (fun d hd => hs d (List.mem_cons_of_mem _ hd)) h'
    | bk t' => exact h'
    | rt r => exact h'
theorem w_compLn (I : Nat → γ → Prop) (S : D → D → Prop) {f : D → M γ (Option D)} : ∀ {ds acc : List D} {g : γ},
    (∀ d ∈ ds, ∀ n g, I (n + 1) g → (f d).wp g (fun o g' => ∃ e, o = some e ∧ S d e ∧ I n g') E) → acc.length + ds.length ≤ sizeLine → I ds.length g →
    (compL ds acc f : M γ (List D)).wp g (fun xs g' => I 0 g' ∧ ∃ es, xs = acc ++ es ∧ All2 S ds es) E
  | [], acc, g, _, _, h => ⟨h, [], (List.append_nil _).symm, .nil⟩
  | d :: ds, acc, g, hs, hl, h => (f d).mono (hs d List.mem_cons_self ds.length g h) fun o g' h' => by
    obtain ⟨e, rfl, h1, h2⟩ := h'
    rw [List.length_cons] at hl
    dsimp only
    refine w_need (a := acc ++ [e]) (by unfold appF; rw [if_pos (by omega)]) ?_
    refine M.mono _ (w_compLn I S (ds := ds) (acc := acc ++ [e]) (fun d hd => hs d (List.mem_cons_of_mem _ hd)) (by rw [List.length_append, List.length_singleton]; omega) h2) fun xs g2 h3 => ?_
    obtain ⟨h4, es, e1, e2⟩ := h3
    exact ⟨h4, e :: es, by rw [e1, List.append_assoc]; rfl, .cons h1 e2⟩
end
theorem Jar.mono {m n : Nat} {g : GH} {p : Addr} (h : Jar n g p) (l : m ≤ n) : Jar m g p := by
  obtain ⟨q, c, fs, cs, sl0, cnt, e1, e2, e3, e4, e5, e6, e7, e8⟩ := h
  exact ⟨q, c, fs, cs, sl0, cnt, e1, e2, e3, e4, e5, e6, e7, by omega⟩

inductive Bk : D → Prop
  | mk {w0 w1 w2 w3 w4 w5 w6 w7 w8 w9 : Str} (h0 : w0 ∈ (["ahead", "behind"] : List Str)) (h1 : w1 ∈ (["kept", "lost"] : List Str)) (h2 : w2 ∈ (["first", "last"] : List Str)) (h3 : w3 ∈ (["one", "each", "all"] : List Str)) (h4 : w4 ∈ (["tries", "takes", "given"] : List Str)) (h5 : w5 ∈ (["back", "front"] : List Str)) (h6 : w6 ∈ (["never", "left", "always"] : List Str)) (h7 : w7 ∈ (["passes", "drops"] : List Str)) (h8 : w8 ∈ (["free", "behind"] : List Str)) (h9 : w9 ∈ (["first", "any"] : List Str)) : Bk (.tuple [.str w0, .str w1, .str w2, .str w3, .str w4, .str w5, .str w6, .str w7, .str w8, .str w9])
theorem words_ok : m__law_words () = .ok [.tuple [.str "note", .tuple [.str "ahead", .str "behind"]], .tuple [.str "call", .tuple [.str "kept", .str "lost"]], .tuple [.str "put", .tuple [.str "first", .str "last"]], .tuple [.str "many", .tuple [.str "one", .str "each", .str "all"]], .tuple [.str "woken", .tuple [.str "tries", .str "takes", .str "given"]], .tuple [.str "fails", .tuple [.str "back", .str "front"]], .tuple [.str "pass", .tuple [.str "never", .str "left", .str "always"]], .tuple [.str "quits", .tuple [.str "passes", .str "drops"]], .tuple [.str "comers", .tuple [.str "free", .str "behind"]], .tuple [.str "order", .tuple [.str "first", .str "any"]]] := by kernel_rfl
theorem named_ok {k : Int} (h0 : 0 ≤ k) (h1 : k < 4) : ∃ b, m__law_named (.int k, ()) = .ok b ∧ Bk b := by
  have : k = 0 ∨ k = 1 ∨ k = 2 ∨ k = 3 := by omega
  rcases this with rfl | rfl | rfl | rfl
  all_goals exact ⟨_, rfl, .mk (by decide +kernel) (by decide +kernel) (by decide +kernel) (by decide +kernel) (by decide +kernel) (by decide +kernel) (by decide +kernel) (by decide +kernel) (by decide +kernel) (by decide +kernel)⟩
def SW (d e : D) : Prop := match d with
  | .tuple [_, .tuple xs] => e ∈ xs
  | _ => False
theorem str_of {x : D} {ys : List Str} (h : x ∈ ys.map PyData.str) : ∃ w, w ∈ ys ∧ x = .str w := by
  obtain ⟨w, hw, e⟩ := List.mem_map.mp h
  exact ⟨w, hw, e.symm⟩
theorem ten {j : Int} (h0 : 0 ≤ j) (h1 : j < 10) : j = 0 ∨ j = 1 ∨ j = 2 ∨ j = 3 ∨ j = 4 ∨ j = 5 ∨ j = 6 ∨ j = 7 ∨ j = 8 ∨ j = 9 := by omega
theorem book_ok {m : Nat} {g : GH} {p : Addr} {Q : D → GH → Prop} {E : Xc → GH → Prop} (h : Jar (m + 20) g p) (hq : ∀ b g', Bk b → Jar m g' p → Q b g') : (m__law_book (p, ())).wp g Q E := by
  refine w_call (f := m__law_draw) (a := (p, .int 3, ())) rfl (draw_ok (m := m + 19) h (by decide) (by decide) fun i g1 j1 hi hi2 => ?_)
  refine w_need (a := (i == 0)) rfl (w_ite (fun _ => ?_) (fun _ => ?_))
  · refine w_call (f := m__law_draw) (a := (p, .int 4, ())) rfl (draw_ok (m := m + 18) j1 (by decide) (by decide) fun k g2 j2 hk hk2 => ?_)
    obtain ⟨b, eb, hb⟩ := named_ok hk hk2
    refine w_callP (a := (.int k, ())) rfl eb ?_
    cases hb with
    | @mk w0 w1 w2 w3 w4 w5 w6 w7 w8 w9 h0 h1 h2 h3 h4 h5 h6 h7 h8 h9 =>
      refine w_need rfl ?_
      refine w_call (f := m__law_draw) (a := (p, .int 10, ())) rfl (draw_ok (m := m + 17) j2 (by decide) (by decide) fun s g3 j3 hs hs2 => ?_)
      refine w_lift words_ok ?_
      rcases ten hs hs2 with rfl | rfl | rfl | rfl | rfl | rfl | rfl | rfl | rfl | rfl
      · refine w_need rfl (w_need rfl (w_need rfl (w_call (f := m__law_pick) (a := (p, .list [.str "ahead", .str "behind"], ())) rfl (pick_ok (m := m + 16) j3 (by intro z; cases z) (show 2 ≤ 100000 by decide) fun x g4 hx j4 => ?_))))
        obtain ⟨w, hw, rfl⟩ := str_of (ys := ["ahead", "behind"]) hx
        exact w_need rfl (w_need rfl (w_pur (hq _ g4 (.mk hw h1 h2 h3 h4 h5 h6 h7 h8 h9) (j4.mono (by omega)))))
      · refine w_need rfl (w_need rfl (w_need rfl (w_call (f := m__law_pick) (a := (p, .list [.str "kept", .str "lost"], ())) rfl (pick_ok (m := m + 16) j3 (by intro z; cases z) (show 2 ≤ 100000 by decide) fun x g4 hx j4 => ?_))))
        obtain ⟨w, hw, rfl⟩ := str_of (ys := ["kept", "lost"]) hx
        exact w_need rfl (w_need rfl (w_pur (hq _ g4 (.mk h0 hw h2 h3 h4 h5 h6 h7 h8 h9) (j4.mono (by omega)))))
      · refine w_need rfl (w_need rfl (w_need rfl (w_call (f := m__law_pick) (a := (p, .list [.str "first", .str "last"], ())) rfl (pick_ok (m := m + 16) j3 (by intro z; cases z) (show 2 ≤ 100000 by decide) fun x g4 hx j4 => ?_))))
        obtain ⟨w, hw, rfl⟩ := str_of (ys := ["first", "last"]) hx
        exact w_need rfl (w_need rfl (w_pur (hq _ g4 (.mk h0 h1 hw h3 h4 h5 h6 h7 h8 h9) (j4.mono (by omega)))))
      · refine w_need rfl (w_need rfl (w_need rfl (w_call (f := m__law_pick) (a := (p, .list [.str "one", .str "each", .str "all"], ())) rfl (pick_ok (m := m + 16) j3 (by intro z; cases z) (show 3 ≤ 100000 by decide) fun x g4 hx j4 => ?_))))
        obtain ⟨w, hw, rfl⟩ := str_of (ys := ["one", "each", "all"]) hx
        exact w_need rfl (w_need rfl (w_pur (hq _ g4 (.mk h0 h1 h2 hw h4 h5 h6 h7 h8 h9) (j4.mono (by omega)))))
      · refine w_need rfl (w_need rfl (w_need rfl (w_call (f := m__law_pick) (a := (p, .list [.str "tries", .str "takes", .str "given"], ())) rfl (pick_ok (m := m + 16) j3 (by intro z; cases z) (show 3 ≤ 100000 by decide) fun x g4 hx j4 => ?_))))
        obtain ⟨w, hw, rfl⟩ := str_of (ys := ["tries", "takes", "given"]) hx
        exact w_need rfl (w_need rfl (w_pur (hq _ g4 (.mk h0 h1 h2 h3 hw h5 h6 h7 h8 h9) (j4.mono (by omega)))))
      · refine w_need rfl (w_need rfl (w_need rfl (w_call (f := m__law_pick) (a := (p, .list [.str "back", .str "front"], ())) rfl (pick_ok (m := m + 16) j3 (by intro z; cases z) (show 2 ≤ 100000 by decide) fun x g4 hx j4 => ?_))))
        obtain ⟨w, hw, rfl⟩ := str_of (ys := ["back", "front"]) hx
        exact w_need rfl (w_need rfl (w_pur (hq _ g4 (.mk h0 h1 h2 h3 h4 hw h6 h7 h8 h9) (j4.mono (by omega)))))
      · refine w_need rfl (w_need rfl (w_need rfl (w_call (f := m__law_pick) (a := (p, .list [.str "never", .str "left", .str "always"], ())) rfl (pick_ok (m := m + 16) j3 (by intro z; cases z) (show 3 ≤ 100000 by decide) fun x g4 hx j4 => ?_))))
        obtain ⟨w, hw, rfl⟩ := str_of (ys := ["never", "left", "always"]) hx
        exact w_need rfl (w_need rfl (w_pur (hq _ g4 (.mk h0 h1 h2 h3 h4 h5 hw h7 h8 h9) (j4.mono (by omega)))))
      · refine w_need rfl (w_need rfl (w_need rfl (w_call (f := m__law_pick) (a := (p, .list [.str "passes", .str "drops"], ())) rfl (pick_ok (m := m + 16) j3 (by intro z; cases z) (show 2 ≤ 100000 by decide) fun x g4 hx j4 => ?_))))
        obtain ⟨w, hw, rfl⟩ := str_of (ys := ["passes", "drops"]) hx
        exact w_need rfl (w_need rfl (w_pur (hq _ g4 (.mk h0 h1 h2 h3 h4 h5 h6 hw h8 h9) (j4.mono (by omega)))))
      · refine w_need rfl (w_need rfl (w_need rfl (w_call (f := m__law_pick) (a := (p, .list [.str "free", .str "behind"], ())) rfl (pick_ok (m := m + 16) j3 (by intro z; cases z) (show 2 ≤ 100000 by decide) fun x g4 hx j4 => ?_))))
        obtain ⟨w, hw, rfl⟩ := str_of (ys := ["free", "behind"]) hx
        exact w_need rfl (w_need rfl (w_pur (hq _ g4 (.mk h0 h1 h2 h3 h4 h5 h6 h7 hw h9) (j4.mono (by omega)))))
      · refine w_need rfl (w_need rfl (w_need rfl (w_call (f := m__law_pick) (a := (p, .list [.str "first", .str "any"], ())) rfl (pick_ok (m := m + 16) j3 (by intro z; cases z) (show 2 ≤ 100000 by decide) fun x g4 hx j4 => ?_))))
        obtain ⟨w, hw, rfl⟩ := str_of (ys := ["first", "any"]) hx
        exact w_need rfl (w_need rfl (w_pur (hq _ g4 (.mk h0 h1 h2 h3 h4 h5 h6 h7 h8 hw) (j4.mono (by omega)))))
  · refine w_lift words_ok (w_need rfl ?_)
    refine w_nox (M.mono _ (w_compLn (fun n g' => Jar (m + n) g' p) SW (fun d hd n g' hg => ?_) (by have := sizeLine_eq; show 0 + 10 ≤ sizeLine; omega) (j1.mono (show m + 10 ≤ m + 19 by omega))) fun xs g2 hx => ?_)
    · simp only [List.mem_cons, List.not_mem_nil, or_false] at hd
      rcases hd with rfl | rfl | rfl | rfl | rfl | rfl | rfl | rfl | rfl | rfl
      · exact w_need rfl (w_ite (fun _ => w_need rfl (w_call (f := m__law_pick) (a := (p, .list [.str "ahead", .str "behind"], ())) rfl (pick_ok (m := m + n) hg (by intro z; cases z) (show 2 ≤ 100000 by decide) fun x g4 hx j4 => w_pur ⟨x, rfl, hx, j4⟩))) (fun z => absurd rfl z))
      · exact w_need rfl (w_ite (fun _ => w_need rfl (w_call (f := m__law_pick) (a := (p, .list [.str "kept", .str "lost"], ())) rfl (pick_ok (m := m + n) hg (by intro z; cases z) (show 2 ≤ 100000 by decide) fun x g4 hx j4 => w_pur ⟨x, rfl, hx, j4⟩))) (fun z => absurd rfl z))
      · exact w_need rfl (w_ite (fun _ => w_need rfl (w_call (f := m__law_pick) (a := (p, .list [.str "first", .str "last"], ())) rfl (pick_ok (m := m + n) hg (by intro z; cases z) (show 2 ≤ 100000 by decide) fun x g4 hx j4 => w_pur ⟨x, rfl, hx, j4⟩))) (fun z => absurd rfl z))
      · exact w_need rfl (w_ite (fun _ => w_need rfl (w_call (f := m__law_pick) (a := (p, .list [.str "one", .str "each", .str "all"], ())) rfl (pick_ok (m := m + n) hg (by intro z; cases z) (show 3 ≤ 100000 by decide) fun x g4 hx j4 => w_pur ⟨x, rfl, hx, j4⟩))) (fun z => absurd rfl z))
      · exact w_need rfl (w_ite (fun _ => w_need rfl (w_call (f := m__law_pick) (a := (p, .list [.str "tries", .str "takes", .str "given"], ())) rfl (pick_ok (m := m + n) hg (by intro z; cases z) (show 3 ≤ 100000 by decide) fun x g4 hx j4 => w_pur ⟨x, rfl, hx, j4⟩))) (fun z => absurd rfl z))
      · exact w_need rfl (w_ite (fun _ => w_need rfl (w_call (f := m__law_pick) (a := (p, .list [.str "back", .str "front"], ())) rfl (pick_ok (m := m + n) hg (by intro z; cases z) (show 2 ≤ 100000 by decide) fun x g4 hx j4 => w_pur ⟨x, rfl, hx, j4⟩))) (fun z => absurd rfl z))
      · exact w_need rfl (w_ite (fun _ => w_need rfl (w_call (f := m__law_pick) (a := (p, .list [.str "never", .str "left", .str "always"], ())) rfl (pick_ok (m := m + n) hg (by intro z; cases z) (show 3 ≤ 100000 by decide) fun x g4 hx j4 => w_pur ⟨x, rfl, hx, j4⟩))) (fun z => absurd rfl z))
      · exact w_need rfl (w_ite (fun _ => w_need rfl (w_call (f := m__law_pick) (a := (p, .list [.str "passes", .str "drops"], ())) rfl (pick_ok (m := m + n) hg (by intro z; cases z) (show 2 ≤ 100000 by decide) fun x g4 hx j4 => w_pur ⟨x, rfl, hx, j4⟩))) (fun z => absurd rfl z))
      · exact w_need rfl (w_ite (fun _ => w_need rfl (w_call (f := m__law_pick) (a := (p, .list [.str "free", .str "behind"], ())) rfl (pick_ok (m := m + n) hg (by intro z; cases z) (show 2 ≤ 100000 by decide) fun x g4 hx j4 => w_pur ⟨x, rfl, hx, j4⟩))) (fun z => absurd rfl z))
      · exact w_need rfl (w_ite (fun _ => w_need rfl (w_call (f := m__law_pick) (a := (p, .list [.str "first", .str "any"], ())) rfl (pick_ok (m := m + n) hg (by intro z; cases z) (show 2 ≤ 100000 by decide) fun x g4 hx j4 => w_pur ⟨x, rfl, hx, j4⟩))) (fun z => absurd rfl z))
    · obtain ⟨j2, es, rfl, al⟩ := hx
      cases al with | cons s0 al =>
      cases al with | cons s1 al =>
      cases al with | cons s2 al =>
      cases al with | cons s3 al =>
      cases al with | cons s4 al =>
      cases al with | cons s5 al =>
      cases al with | cons s6 al =>
      cases al with | cons s7 al =>
      cases al with | cons s8 al =>
      cases al with | cons s9 al =>
      cases al
      obtain ⟨w0, h0, rfl⟩ := str_of (ys := ["ahead", "behind"]) s0
      obtain ⟨w1, h1, rfl⟩ := str_of (ys := ["kept", "lost"]) s1
      obtain ⟨w2, h2, rfl⟩ := str_of (ys := ["first", "last"]) s2
      obtain ⟨w3, h3, rfl⟩ := str_of (ys := ["one", "each", "all"]) s3
      obtain ⟨w4, h4, rfl⟩ := str_of (ys := ["tries", "takes", "given"]) s4
      obtain ⟨w5, h5, rfl⟩ := str_of (ys := ["back", "front"]) s5
      obtain ⟨w6, h6, rfl⟩ := str_of (ys := ["never", "left", "always"]) s6
      obtain ⟨w7, h7, rfl⟩ := str_of (ys := ["passes", "drops"]) s7
      obtain ⟨w8, h8, rfl⟩ := str_of (ys := ["free", "behind"]) s8
      obtain ⟨w9, h9, rfl⟩ := str_of (ys := ["first", "any"]) s9
      exact w_need rfl (w_pur (hq _ g2 (.mk h0 h1 h2 h3 h4 h5 h6 h7 h8 h9) j2))
end LawX

set_option Elab.async false
set_option linter.all false
set_option autoImplicit false
set_option maxRecDepth 1000000
set_option maxHeartbeats 4000000
namespace LawX
open PySem PySem.Spec PyProof.Rows L2 Cl
open MO
theorem p_need {α β : Type} {o : Option α} {a : α} {k : α → P β} {r : β} (e : o = some a) (h : k a = .ok r) : bnd (need o : P α) k = .ok r := by subst e; exact h
theorem p_bnd {α β : Type} {x : P α} {a : α} {k : α → P β} {r : β} (e : x = .ok a) (h : k a = .ok r) : bnd x k = .ok r := by subst e; exact h
theorem p_lift {α β : Type} {x : P α} {a : α} {k : α → P β} {r : β} (e : x = .ok a) (h : k a = .ok r) : bnd (lift x : P α) k = .ok r := by subst e; exact h
theorem p_nox {α β : Type} {x : P α} {a : α} {k : α → P β} {r : β} (e : x = .ok a) (h : k a = .ok r) : bnd (nox x) k = .ok r := by subst e; exact h
/-! ### books by their numbers -/
def wAt (ys : List Str) (k : Nat) : Str := ys.getD k ""
def BL (n : Nat) : List Str := [wAt ["ahead", "behind"] (n / 1728 % 2), wAt ["kept", "lost"] (n / 864 % 2), wAt ["first", "last"] (n / 432 % 2), wAt ["one", "each", "all"] (n / 144 % 3), wAt ["tries", "takes", "given"] (n / 48 % 3),
  wAt ["back", "front"] (n / 24 % 2), wAt ["never", "left", "always"] (n / 8 % 3), wAt ["passes", "drops"] (n / 4 % 2), wAt ["free", "behind"] (n / 2 % 2), wAt ["first", "any"] (n % 2)]
def bk (n : Nat) : D := .tuple ((BL n).map PyData.str)
theorem idx_of : ∀ {ys : List Str} {w : Str}, w ∈ ys → ∃ i, i < ys.length ∧ w = wAt ys i := fun {ys w} h => by
  obtain ⟨i, hi, e⟩ := List.mem_iff_getElem.mp h
  refine ⟨i, hi, ?_⟩
  unfold wAt
  rw [List.getD_eq_getElem?_getD, List.getElem?_eq_getElem hi, e]
  rfl
theorem bk_of {b : D} (h : Bk b) : ∃ n, n < 3456 ∧ b = bk n := by
  cases h with
  | @mk w0 w1 w2 w3 w4 w5 w6 w7 w8 w9 h0 h1 h2 h3 h4 h5 h6 h7 h8 h9 =>
    obtain ⟨i0, l0, rfl⟩ := idx_of h0
    obtain ⟨i1, l1, rfl⟩ := idx_of h1
    obtain ⟨i2, l2, rfl⟩ := idx_of h2
    obtain ⟨i3, l3, rfl⟩ := idx_of h3
    obtain ⟨i4, l4, rfl⟩ := idx_of h4
    obtain ⟨i5, l5, rfl⟩ := idx_of h5
    obtain ⟨i6, l6, rfl⟩ := idx_of h6
    obtain ⟨i7, l7, rfl⟩ := idx_of h7
    obtain ⟨i8, l8, rfl⟩ := idx_of h8
    obtain ⟨i9, l9, rfl⟩ := idx_of h9
    have l0 : i0 < 2 := l0
    have l1 : i1 < 2 := l1
    have l2 : i2 < 2 := l2
    have l3 : i3 < 3 := l3
    have l4 : i4 < 3 := l4
    have l5 : i5 < 2 := l5
    have l6 : i6 < 3 := l6
    have l7 : i7 < 2 := l7
    have l8 : i8 < 2 := l8
    have l9 : i9 < 2 := l9
    obtain ⟨n, e⟩ : ∃ n, n = i0 * 1728 + i1 * 864 + i2 * 432 + i3 * 144 + i4 * 48 + i5 * 24 + i6 * 8 + i7 * 4 + i8 * 2 + i9 := ⟨_, rfl⟩
    refine ⟨n, by omega, ?_⟩
    unfold bk BL
    rw [show n / 1728 % 2 = i0 by omega, show n / 864 % 2 = i1 by omega, show n / 432 % 2 = i2 by omega, show n / 144 % 3 = i3 by omega, show n / 48 % 3 = i4 by omega, show n / 24 % 2 = i5 by omega,
      show n / 8 % 3 = i6 by omega, show n / 4 % 2 = i7 by omega, show n / 2 % 2 = i8 by omega, show n % 2 = i9 by omega]
    rfl
/-! ### what the defs tell of them -/
def wT (ys : List Str) : D := .tuple (ys.map PyData.str)
def eE (e : Str × List Str) : D := .tuple [.str e.1, wT e.2]
def WS : List (Str × List Str) := [("note", ["ahead", "behind"]), ("call", ["kept", "lost"]), ("put", ["first", "last"]), ("many", ["one", "each", "all"]), ("woken", ["tries", "takes", "given"]), ("fails", ["back", "front"]), ("pass", ["never", "left", "always"]), ("quits", ["passes", "drops"]), ("comers", ["free", "behind"]), ("order", ["first", "any"])]
theorem ents : G_ENTRIES = .tuple (WS.map eE) := rfl
theorem wordsL : m__law_words () = .ok (WS.map eE) := words_ok
theorem idx_all : (WS.map (·.2)).all (fun ys => decide (ys.length ≤ 3) && decide (2 ≤ ys.length) && (List.range ys.length).all fun i => idxA (wT ys) (.str (wAt ys i)) == some ((i : Nat) : Int)) = true := by decide +kernel
theorem idx_ok {e : Str × List Str} (he : e ∈ WS) {i : Nat} (hi : i < e.2.length) : idxA (wT e.2) (.str (wAt e.2 i)) = some ((i : Nat) : Int) := by
  have c := List.all_eq_true.mp idx_all e.2 (List.mem_map_of_mem he)
  rw [Bool.and_eq_true] at c
  have := List.all_eq_true.mp c.2 i (List.mem_range.mpr hi)
  exact eq_of_beq this
theorem len_ws {e : Str × List Str} (he : e ∈ WS) : 2 ≤ e.2.length ∧ e.2.length ≤ 3 := by
  have c := List.all_eq_true.mp idx_all e.2 (List.mem_map_of_mem he)
  rw [Bool.and_eq_true, Bool.and_eq_true] at c
  exact ⟨of_decide_eq_true c.1.2, of_decide_eq_true c.1.1⟩
theorem len_wT (ys : List Str) : lenF [wT ys] = some ((ys.length : Nat) : Int) := by
  show some (((ys.map PyData.str).length : Nat) : Int) = _
  rw [List.length_map]
theorem mul_n (n : Int) (k : Nat) (hk : k ≤ 3) : mulF (.int n) (.int ((k : Nat) : Int)) = some (.int (n * ((k : Nat) : Int))) := by
  show (if CMul n ((k : Nat) : Int) then some (PyData.int _) else none) = _
  rw [if_pos (.inr ⟨by omega, by omega⟩)]
/-- the number of a row of places -/
def numL : List ((Str × List Str) × Nat) → Int → Int
  | [], n => n
  | (e, i) :: r, n => numL r (n * ((e.2.length : Nat) : Int) + ((i : Nat) : Int))
theorem loopN {f : D → D → P D} {it : (Str × List Str) × Nat → D} (hf : ∀ e i n, e ∈ WS → i < e.2.length → f (it (e, i)) (.int n) = .ok (.int (n * ((e.2.length : Nat) : Int) + ((i : Nat) : Int)))) :
    ∀ (l : List ((Str × List Str) × Nat)) (n : Int), (∀ x ∈ l, x.1 ∈ WS ∧ x.2 < x.1.2.length) → (forP (l.map it) (.int n) f : P D) = .ok (.int (numL l n))
  | [], n, _ => rfl
  | (e, i) :: r, n, h => by
    have h0 := h (e, i) List.mem_cons_self
    show P.bnd (f (it (e, i)) (.int n)) (fun t => forP (r.map it) t f) = _
    rw [hf e i n h0.1 h0.2]
    exact loopN hf r _ fun x hx => h x (List.mem_cons_of_mem _ hx)
def ixs (n : Nat) : List ((Str × List Str) × Nat) := [(("note", ["ahead", "behind"]), n / 1728 % 2), (("call", ["kept", "lost"]), n / 864 % 2), (("put", ["first", "last"]), n / 432 % 2), (("many", ["one", "each", "all"]), n / 144 % 3), (("woken", ["tries", "takes", "given"]), n / 48 % 3), (("fails", ["back", "front"]), n / 24 % 2), (("pass", ["never", "left", "always"]), n / 8 % 3), (("quits", ["passes", "drops"]), n / 4 % 2), (("comers", ["free", "behind"]), n / 2 % 2), (("order", ["first", "any"]), n % 2)]
theorem ixs_ok (n : Nat) : ∀ x ∈ ixs n, x.1 ∈ WS ∧ x.2 < x.1.2.length := by
  intro x hx
  unfold ixs at hx
  simp only [List.mem_cons, List.not_mem_nil, or_false] at hx
  unfold WS
  rcases hx with rfl | rfl | rfl | rfl | rfl | rfl | rfl | rfl | rfl | rfl
  all_goals refine ⟨by simp only [List.mem_cons, true_or, or_true], ?_⟩
  all_goals first | exact Nat.mod_lt _ (by decide)
theorem num_ixs {n : Nat} (h : n < 3456) : numL (ixs n) 0 = ((n : Nat) : Int) := by
  unfold ixs
  simp only [numL, List.length_cons, List.length_nil]
  omega
theorem p_steps {x y : P D} (h : x = y) : (P.bnd x fun t => P.ok t) = y := by subst h; cases x <;> rfl
theorem number_ok {n : Nat} (h : n < 3456) : m_number_of (bk n, ()) = .ok (.int ((n : Nat) : Int)) := by
  unfold m_number_of
  have z : zipF [G_ENTRIES, bk n] = some ((ixs n).map fun x => .tuple [eE x.1, .str (wAt x.1.2 x.2)]) := rfl
  dsimp only
  refine p_need z (p_bnd (loopN (it := fun x => .tuple [eE x.1, .str (wAt x.1.2 x.2)]) (fun e i n he hi => ?_) (ixs n) 0 (ixs_ok n)) ?_)
  · have l := len_ws he
    refine p_need (a := ((.str e.1, wT e.2), .str (wAt e.2 i))) rfl (p_need (len_wT e.2) (p_need (mul_n _ _ l.2) (p_need (a := ()) rfl (p_need (idx_ok he hi) (p_need rfl rfl)))))
  · show P.ok _ = _
    rw [num_ixs h]
theorem law_number_ok {n : Nat} (h : n < 3456) : m__law_number (bk n, ()) = .ok (.int ((n : Nat) : Int)) := by
  unfold m__law_number
  have z : zipF [bk n, .list (WS.map eE)] = some ((ixs n).map fun x => .tuple [.str (wAt x.1.2 x.2), eE x.1]) := rfl
  dsimp only
  refine p_lift wordsL (p_need z (p_bnd (loopN (it := fun x => .tuple [.str (wAt x.1.2 x.2), eE x.1]) (fun e i n he hi => ?_) (ixs n) 0 (ixs_ok n)) ?_))
  · have l := len_ws he
    refine p_need (a := (.str (wAt e.2 i), eE e)) rfl (p_need (a := wT e.2) rfl (p_need (len_wT e.2) (p_need (mul_n _ _ l.2) (p_need (a := wT e.2) rfl (p_need (a := ()) rfl (p_need (idx_ok he hi) (p_need rfl rfl)))))))
  · show P.ok _ = _
    rw [num_ixs h]
/-- the words of a number, the last first -/
def goB : List (Str × List Str) → Nat → List Str → List Str
  | [], _, acc => acc
  | e :: r, m, acc => goB r (m / e.2.length) (wAt e.2 (m % e.2.length) :: acc)
theorem go_bk {n : Nat} (h : n < 3456) : goB WS.reverse n [] = BL n := by
  unfold WS BL
  simp only [List.reverse_cons, List.reverse_nil, List.nil_append, List.cons_append, goB, List.length_cons, List.length_nil, Nat.zero_add, Nat.reduceAdd]
  rw [show n / 2 / 2 / 2 / 3 / 2 / 3 / 3 / 2 / 2 % 2 = n / 1728 % 2 by omega, show n / 2 / 2 / 2 / 3 / 2 / 3 / 3 / 2 % 2 = n / 864 % 2 by omega, show n / 2 / 2 / 2 / 3 / 2 / 3 / 3 % 2 = n / 432 % 2 by omega,
    show n / 2 / 2 / 2 / 3 / 2 / 3 % 3 = n / 144 % 3 by omega, show n / 2 / 2 / 2 / 3 / 2 % 3 = n / 48 % 3 by omega, show n / 2 / 2 / 2 / 3 % 2 = n / 24 % 2 by omega, show n / 2 / 2 / 2 % 3 = n / 8 % 3 by omega, show n / 2 / 2 % 2 = n / 4 % 2 by omega]
theorem ix_wT {e : Str × List Str} {k : Nat} (h : k < e.2.length) : ixF (wT e.2) (.int ((k : Nat) : Int)) = some (.str (wAt e.2 k)) := by
  show (ixN (e.2.map PyData.str).length ((k : Nat) : Int)).bind (fun j => (e.2.map PyData.str)[j]?) = _
  unfold ixN
  rw [List.length_map, if_pos (by omega), if_pos (by omega)]
  show (e.2.map PyData.str)[k]? = _
  rw [List.getElem?_map]
  unfold wAt
  rw [List.getD_eq_getElem?_getD, List.getElem?_eq_getElem h]
  rfl
theorem mod_n {m k : Nat} (hk : 2 ≤ k) : modF (.int ((m : Nat) : Int)) (.int ((k : Nat) : Int)) = some (.int ((m % k : Nat) : Int)) := by
  rw [modF_i (by omega)]
  rfl
theorem div_n {m k : Nat} (hk : 2 ≤ k) (hk3 : k ≤ 3) (hm : m < 1000000) : fdivF (.int ((m : Nat) : Int)) (.int ((k : Nat) : Int)) = some (.int ((m / k : Nat) : Int)) := by
  rw [fdivF_i ⟨by omega, by omega⟩]
  rfl
theorem cons_acc (y : Str) (acc : List Str) (h : acc.length ≤ 20) : addF (.tuple [.str y]) (.tuple (acc.map PyData.str)) = some (.tuple ((y :: acc).map PyData.str)) := by
  have big := sizeLine_eq
  show (if 1 + (acc.map PyData.str).length ≤ sizeLine then some (PyData.tuple ([.str y] ++ acc.map PyData.str)) else none) = _
  rw [List.length_map, if_pos (by omega)]
  rfl
theorem loopB {f : D → D × D → P (D × D)} (hf : ∀ e m acc, e ∈ WS → m < 1000000 → acc.length ≤ 20 → f (eE e) (.tuple (acc.map PyData.str), .int ((m : Nat) : Int)) = .ok (.tuple ((wAt e.2 (m % e.2.length) :: acc).map PyData.str), .int ((m / e.2.length : Nat) : Int))) :
    ∀ (l : List (Str × List Str)) (m : Nat) (acc : List Str), (∀ e ∈ l, e ∈ WS) → m < 1000000 → acc.length + l.length ≤ 20 → ∃ m' : Nat, (forP (l.map eE) (.tuple (acc.map PyData.str), .int ((m : Nat) : Int)) f : P (D × D)) = .ok (.tuple ((goB l m acc).map PyData.str), .int ((m' : Nat) : Int))
  | [], m, acc, _, _, _ => ⟨m, rfl⟩
  | e :: r, m, acc, h, hm, hl => by
    rw [List.length_cons] at hl
    obtain ⟨m', e'⟩ := loopB hf r (m / e.2.length) (wAt e.2 (m % e.2.length) :: acc) (fun x hx => h x (List.mem_cons_of_mem _ hx)) (Nat.lt_of_le_of_lt (Nat.div_le_self _ _) hm) (by rw [List.length_cons]; omega)
    refine ⟨m', ?_⟩
    show P.bnd (f (eE e) _) (fun t => forP (r.map eE) t f) = _
    rw [hf e m acc (h e List.mem_cons_self) hm (by omega)]
    exact e'
theorem is_within_ok {n : Nat} (h : n < 3456) : m_is_within (.int ((n : Nat) : Int), .int 0, .int 3455, ()) = .ok true := by
  have e1 : leF (.int 0) (.int ((n : Nat) : Int)) = some true := by
    show some (decide ((0 : Int) ≤ ((n : Nat) : Int))) = _
    rw [decide_eq_true (by omega)]
  have e2 : leF (.int ((n : Nat) : Int)) (.int 3455) = some true := by
    show some (decide (((n : Nat) : Int) ≤ 3455)) = _
    rw [decide_eq_true (by omega)]
  unfold m_is_within
  refine p_bnd (a := true) ?_ rfl
  show (if (true : Bool) = true then (if (true : Bool) = true then _ else _) else _) = _
  rw [if_pos rfl, if_pos rfl]
  refine p_bnd (a := true) (p_need e1 ?_) rfl
  rw [if_pos rfl]
  exact p_need e2 rfl
theorem book_of_ok {n : Nat} (h : n < 3456) : m_book_of (.int ((n : Nat) : Int), ()) = .ok (bk n) := by
  unfold m_book_of
  refine p_need (a := .int 3455) rfl (p_nox (a := true) ?_ ?_)
  · exact is_within_ok h
  rw [if_neg (by decide)]
  dsimp only
  have rv : revF G_ENTRIES = some (.tuple (WS.reverse.map eE)) := rfl
  refine p_need rv (p_need (a := WS.reverse.map eE) rfl ?_)
  obtain ⟨m', e⟩ := loopB (f := fun d7 t4 => bnd (need ((unT (unC some (un1 some))) d7)) fun a6 => bnd (need (lenF [a6.2])) fun i9 => bnd (need (modF t4.2 (PyData.int i9))) fun d10 => bnd (need (ixF a6.2 d10)) fun d11 => bnd (need (addF (.tuple [d11]) t4.1)) fun d12 => (fun d8 => bnd (need (lenF [a6.2])) fun i14 => bnd (need (fdivF t4.2 (PyData.int i14))) fun d15 => (fun d13 => pur (d8, d13)) d15) d12)
    (fun e m acc he hm ha => by
      have l := len_ws he
      exact p_need (a := (.str e.1, wT e.2)) rfl (p_need (len_wT e.2) (p_need (mod_n l.1) (p_need (ix_wT (Nat.mod_lt _ (by omega))) (p_need (cons_acc _ _ ha) (p_need (len_wT e.2) (p_need (div_n l.1 l.2 hm) rfl))))))) WS.reverse n [] (fun e he => List.mem_reverse.mp he) (by omega) (by decide)
  refine p_bnd e ?_
  show P.ok (PyData.tuple ((goB WS.reverse n []).map PyData.str)) = _
  rw [go_bk h]
  rfl
theorem appS_ok (acc : List Str) (y : Str) (h : acc.length ≤ 20) : appF (acc.map PyData.str) (.str y) = some ((acc ++ [y]).map PyData.str) := by
  have big := sizeLine_eq
  unfold appF
  rw [List.length_map, if_pos (by omega), List.map_append]
  rfl
/-- the same, the last first -/
def goA : List (Str × List Str) → Nat → List Str → List Str
  | [], _, acc => acc
  | e :: r, m, acc => goA r (m / e.2.length) (acc ++ [wAt e.2 (m % e.2.length)])
theorem goA_rev : ∀ (l : List (Str × List Str)) (m : Nat) (acc : List Str), (goA l m acc).reverse = goB l m acc.reverse
  | [], _, _ => rfl
  | e :: r, m, acc => by
    show (goA r _ _).reverse = goB r _ _
    rw [goA_rev r, List.reverse_append]
    rfl
theorem loopA {f : D → D × List D → P (D × List D)} (hf : ∀ e m acc, e ∈ WS → m < 1000000 → acc.length ≤ 20 → f (eE e) (.int ((m : Nat) : Int), acc.map PyData.str) = .ok (.int ((m / e.2.length : Nat) : Int), (acc ++ [wAt e.2 (m % e.2.length)]).map PyData.str)) :
    ∀ (l : List (Str × List Str)) (m : Nat) (acc : List Str), (∀ e ∈ l, e ∈ WS) → m < 1000000 → acc.length + l.length ≤ 20 → ∃ m' : Nat, (forP (l.map eE) (.int ((m : Nat) : Int), acc.map PyData.str) f : P (D × List D)) = .ok (.int ((m' : Nat) : Int), (goA l m acc).map PyData.str)
  | [], m, acc, _, _, _ => ⟨m, rfl⟩
  | e :: r, m, acc, h, hm, hl => by
    rw [List.length_cons] at hl
    obtain ⟨m', e'⟩ := loopA hf r (m / e.2.length) (acc ++ [wAt e.2 (m % e.2.length)]) (fun x hx => h x (List.mem_cons_of_mem _ hx)) (Nat.lt_of_le_of_lt (Nat.div_le_self _ _) hm) (by rw [List.length_append, List.length_singleton]; omega)
    refine ⟨m', ?_⟩
    show P.bnd (f (eE e) _) (fun t => forP (r.map eE) t f) = _
    rw [hf e m acc (h e List.mem_cons_self) hm (by omega)]
    exact e'
theorem law_of_ok {n : Nat} (h : n < 3456) : m__law_of (.int ((n : Nat) : Int), ()) = .ok (bk n) := by
  unfold m__law_of
  dsimp only
  refine p_lift wordsL (p_need (a := (WS.map eE).reverse) rfl (p_need (a := WS.reverse.map eE) rfl ?_))
  obtain ⟨m', e⟩ := loopA (f := fun d6 t3 => bnd (need ((unT (unC some (un1 some))) d6)) fun a5 => bnd (need (lenF [a5.2])) fun i8 => bnd (need (modF t3.1 (PyData.int i8))) fun d9 => bnd (need (ixF a5.2 d9)) fun d10 => bnd (need (appF t3.2 d10)) fun l7 => bnd (need (lenF [a5.2])) fun i12 => bnd (need (fdivF t3.1 (PyData.int i12))) fun d13 => bnd (need (intF [d13])) fun i14 => (fun d11 => pur (d11, l7)) (PyData.int i14))
    (fun e m acc he hm ha => by
      have l := len_ws he
      exact p_need (a := (.str e.1, wT e.2)) rfl (p_need (len_wT e.2) (p_need (mod_n l.1) (p_need (ix_wT (Nat.mod_lt _ (by omega))) (p_need (appS_ok _ _ ha) (p_need (len_wT e.2) (p_need (div_n l.1 l.2 hm) (p_need rfl rfl)))))))) WS.reverse n [] (fun e he => List.mem_reverse.mp he) (by omega) (by decide)
  refine p_bnd e (p_need (a := ((goA WS.reverse n []).map PyData.str).reverse) rfl (p_need (a := ((goA WS.reverse n []).map PyData.str).reverse) rfl ?_))
  rw [← List.map_reverse, goA_rev]
  show P.ok (PyData.tuple ((goB WS.reverse n []).map PyData.str)) = _
  rw [go_bk h]
  rfl
end LawX

set_option Elab.async false
set_option linter.all false
set_option autoImplicit false
set_option maxRecDepth 100000
set_option maxHeartbeats 1000000
set_option pp.maxSteps 600
namespace LawX
open PySem PySem.Spec PyProof.Rows L2 Cl
open MO
def ODD : List D := [.none, .bool true, .bool false, .int 0, .int 1, .int (-1), .int 10000000000000000000000000000000000000000, .str "", .str "note", .str "ahead", .str "kept", .str "take", .tuple [], .list [], .dict [], .tuple [.int 1], .list [.int 1, .tuple []], .dict [(.str "a", .int 1)], .tuple [.tuple [], .int 1], .tuple [.str "take", .int 1], .tuple [.tuple [.str "take", .int 1]], .tuple [.str "like", .str "staying"]]
def repB (d : D) : Bool := d.showable && (d.canLay0 && (decide (d.depth ≤ 1) && decide (d.shown.length ≤ 40)))
theorem repB_ok {d : D} (h : repB d = true) : Rep 1 40 d := by
  unfold repB at h
  rw [Bool.and_eq_true, Bool.and_eq_true, Bool.and_eq_true] at h
  exact ⟨h.1, h.2.1, of_decide_eq_true h.2.2.1, of_decide_eq_true h.2.2.2⟩
def ALLW : List Str := ["ahead", "behind", "kept", "lost", "first", "last", "one", "each", "all", "tries", "takes", "given", "back", "front", "never", "left", "always", "passes", "drops", "free", "any"]
theorem allw_rep : ∀ w ∈ ALLW, repB (.str w) = true := by decide +kernel
/-- a row of what may stand in a spoilt book -/
def Its (ds : List D) : Prop := ∀ d ∈ ds, Rep 1 40 d
theorem bk_its {b : D} (h : Bk b) : ∃ ds, b = .tuple ds ∧ ds.length = 10 ∧ Its ds := by
  cases h with
  | @mk w0 w1 w2 w3 w4 w5 w6 w7 w8 w9 h0 h1 h2 h3 h4 h5 h6 h7 h8 h9 =>
    refine ⟨_, rfl, rfl, fun d hd => ?_⟩
    have all : ∀ w : Str, w ∈ ALLW → Rep 1 40 (.str w) := fun w hw => repB_ok (allw_rep w hw)
    simp only [List.mem_cons, List.not_mem_nil, or_false] at hd h0 h1 h2 h3 h4 h5 h6 h7 h8 h9
    have m : ∀ w : Str, (w = "ahead" ∨ w = "behind" ∨ w = "kept" ∨ w = "lost" ∨ w = "first" ∨ w = "last" ∨ w = "one" ∨ w = "each" ∨ w = "all" ∨ w = "tries" ∨ w = "takes" ∨ w = "given" ∨ w = "back" ∨ w = "front" ∨ w = "never" ∨ w = "left" ∨ w = "always" ∨ w = "passes" ∨ w = "drops" ∨ w = "free" ∨ w = "any") → w ∈ ALLW := fun w h => by
      unfold ALLW
      simp only [List.mem_cons, List.not_mem_nil, or_false]
      exact h
    rcases hd with rfl | rfl | rfl | rfl | rfl | rfl | rfl | rfl | rfl | rfl
    all_goals refine all _ (m _ ?_)
    · rcases h0 with h | h <;> simp only [h, true_or, or_true]
    · rcases h1 with h | h <;> simp only [h, true_or, or_true]
    · rcases h2 with h | h <;> simp only [h, true_or, or_true]
    · rcases h3 with h | h | h <;> simp only [h, true_or, or_true]
    · rcases h4 with h | h | h <;> simp only [h, true_or, or_true]
    · rcases h5 with h | h <;> simp only [h, true_or, or_true]
    · rcases h6 with h | h | h <;> simp only [h, true_or, or_true]
    · rcases h7 with h | h <;> simp only [h, true_or, or_true]
    · rcases h8 with h | h <;> simp only [h, true_or, or_true]
    · rcases h9 with h | h <;> simp only [h, true_or, or_true]
theorem reprD_of {k n : Nat} {d : D} (h : Rep k n d) (h1 : k ≤ 64) (h2 : n ≤ 16000000) : ∃ s, reprD [d] = some s := by
  have big := sizeLine_eq
  refine ⟨d.shown, if_pos ?_⟩
  unfold reprOkD
  rw [Bool.and_eq_true, Bool.and_eq_true]
  exact ⟨⟨h.sh, decide_eq_true (Nat.le_trans h.dp h1)⟩, decide_eq_true (by have := h.ln; omega)⟩
theorem its_tup {es : List D} (hl : es.length ≤ 20) (h : Its es) : Rep 2 900 (.tuple es) := (Rep.tup h).mono (by omega) (by omega)
theorem its_lst {es : List D} (hl : es.length ≤ 20) (h : Its es) : Rep 2 900 (.list es) := (Rep.lst h).mono (by omega) (by omega)
theorem pow40 : powF (.int 10) (.int 40) = some (.int 10000000000000000000000000000000000000000) := by kernel_rfl
theorem addL_ok {a b : List D} (h : a.length + b.length ≤ sizeLine) : addL (.list a) (.list b) = some (a ++ b) := if_pos h
theorem odd_ok {m : Nat} {g : GH} {p : Addr} {Q : D → GH → Prop} {E : Xc → GH → Prop} (h : Jar (m + 1) g p) (hq : ∀ x g', x ∈ ODD → Jar m g' p → Q x g') : (m__law_odd (p, ())).wp g Q E := by
  unfold m__law_odd
  refine w_need (a := .int (-1)) rfl (w_need (a := .int 10000000000000000000000000000000000000000) pow40 (w_need (a := ODD) (addL_ok (by have := sizeLine_eq; show 17 + 5 ≤ sizeLine; omega)) ?_))
  exact w_call (f := m__law_pick) (a := (p, .list ODD, ())) rfl (pick_ok h (by unfold ODD; intro z; cases z) (by decide) fun x g' hx hj => w_pur (hq x g' hx hj))

theorem bk_rep {n : Nat} (h : ∃ b, Bk b ∧ b = bk n) : Rep 2 900 (bk n) := by
  obtain ⟨b, hb, e⟩ := h
  obtain ⟨ds, e1, hl, hi⟩ := bk_its hb
  rw [← e, e1]
  exact its_tup (by omega) hi
theorem wAt_mem {ys : List Str} {k : Nat} (h : k < ys.length) : wAt ys k ∈ ys := by
  unfold wAt
  rw [List.getD_eq_getElem?_getD, List.getElem?_eq_getElem h]
  exact List.getElem_mem h
theorem bk_bk {n : Nat} : Bk (bk n) := .mk (wAt_mem (Nat.mod_lt _ (by decide))) (wAt_mem (Nat.mod_lt _ (by decide))) (wAt_mem (Nat.mod_lt _ (by decide))) (wAt_mem (Nat.mod_lt _ (by decide))) (wAt_mem (Nat.mod_lt _ (by decide))) (wAt_mem (Nat.mod_lt _ (by decide))) (wAt_mem (Nat.mod_lt _ (by decide))) (wAt_mem (Nat.mod_lt _ (by decide))) (wAt_mem (Nat.mod_lt _ (by decide))) (wAt_mem (Nat.mod_lt _ (by decide)))
theorem repBk (n : Nat) : Rep 2 900 (bk n) := bk_rep ⟨_, bk_bk, rfl⟩
theorem r1 (n : Nat) : ∃ s, reprD [bk n] = some s := reprD_of (repBk n) (by omega) (by omega)
theorem r2 {n : Nat} (h : n < 3456) : ∃ s, reprD [.list [.int ((n : Nat) : Int), .int ((n : Nat) : Int)]] = some s := reprD_of (Rep.lst (k := 0) (n := 20) fun d hd => by
  simp only [List.mem_cons, List.not_mem_nil, or_false, or_self] at hd
  rw [hd]
  exact (Rep.int (by omega)).mono (by omega) (by omega)) (by omega) (by show 2 * (20 + 2) + 3 ≤ 16000000; omega)
theorem r3 (n : Nat) : ∃ s, reprD [.list [.str "told", bk n]] = some s := reprD_of (Rep.lst (k := 2) (n := 900) fun d hd => by
  simp only [List.mem_cons, List.not_mem_nil, or_false] at hd
  rcases hd with rfl | rfl
  · exact (repB_ok (by decide +kernel)).mono (by omega) (by omega)
  · exact repBk n) (by omega) (by show 2 * (900 + 2) + 3 ≤ 16000000; omega)
theorem pick1 (d x : R) : pick d [0] [x] = [x] := rfl
theorem trx_ok {α : Type} (a : α) (k : Xc → P α) : trx (P.ok a) k = P.ok a := rfl
theorem heard_ok {n : Nat} (h : n < 3456) (x : Bool) : m__law_heard (.int ((n : Nat) : Int), .bool x, ()) = .ok [.str "told", bk n] := by
  unfold m__law_heard
  cases x <;> simp only [sP_need, sP_pur, sP_ok, sP_lift, sP_nox, sP_pu, sP_jn, sP_bp, sP_bo, sP_ite, sP_nd, sP_c1, sP_c2, sP_c3, sP_c4, sP_c5, sP_u2, sP_u3, sP_u23, sP_asB, sP_asI, sP_itT, sP_itL, sP_tsL, sP_tsT, sP_lnL, sP_lnT, sP_ge, sP_gt, sP_le, sP_lt, sP_addI, sP_subI, sP_eqI, ib0, ib1, ib2, ib3, ib4, ib5, ib6, ib7, ib8, ib9, is0, is1, is2, ia0, ia1, ia2, id0, id1, ur3, ua3, ud2, its_row, its_sts, len_row, row_ne, row_in, row_hd, ninF_eq, eH_eq, neF_eq, cv1, cv2, cv3, cv4, cv5, cv6, cv7, cv8, cv9, ixL, ixS, ph_free, ph_late, ph_noted, ph_lying, ph_asleep, ph_woken, ph_calling, ph_passing, ph_yielding, ph_storing, mk_no, mk_called, mk_given, dw_put, dw_take, dw_wish, bk_ahead, bk_behind, bk_kept, bk_lost, bk_first, bk_last, bk_back, bk_passes, bk_drops, bk_free, bk_behind2, bk_any, bk_ofirst, wk_tries, wk_takes, wk_given, mn_one, mn_each, mn_all, ps_never', ps_left, ps_always, Option.map_some, if_true, if_false, Bool.false_eq_true, decide_true, decide_false, reduceCtorEq, Bool.not_true, Bool.not_false, decide_eq_true_eq, List.head?_cons, Bool.not_eq_true, pick1, book_of_ok h, trx_ok] <;> rfl
/-! ### no error of a book -/
theorem inT_wT (ys : List Str) {k : Nat} (h : k < ys.length) : inF (.str (wAt ys k)) (wT ys) = some true := by
  rw [show wT ys = .tuple (ys.map PyData.str) from rfl, inT_strs ys (wAt ys k)]
  congr 1
  exact List.any_eq_true.mpr ⟨_, wAt_mem h, beq_self_eq_true _⟩
theorem is_word_ok {e : Str × List Str} {k : Nat} (h : k < e.2.length) : m_is_word (wT e.2, .str (wAt e.2 k), ()) = .ok true := by
  unfold m_is_word
  refine p_bnd (a := true) ?_ rfl
  show (if (true : Bool) = true then _ else _) = _
  rw [if_pos rfl]
  exact p_need (inT_wT e.2 h) rfl
theorem loopE {f : D → Unit → P (Lp D Unit)} (hf : ∀ e i, i < e.2.length → f (.tuple [eE e, .str (wAt e.2 i)]) () = .ok (.nx ())) :
    ∀ (l : List ((Str × List Str) × Nat)), (∀ x ∈ l, x.2 < x.1.2.length) → (forL (l.map fun x => .tuple [eE x.1, .str (wAt x.1.2 x.2)]) () f : P (Lp D Unit)) = .ok (.nx ())
  | [], _ => rfl
  | (e, i) :: r, h => by
    show P.bnd (f (.tuple [eE e, .str (wAt e.2 i)]) ()) _ = _
    rw [hf e i (h (e, i) List.mem_cons_self)]
    exact loopE hf r fun x hx => h x (List.mem_cons_of_mem _ hx)
theorem book_error_ok (n : Nat) : m_book_error (bk n, ()) = .ok .none := by
  unfold m_book_error
  have z : zipF [G_ENTRIES, bk n] = some ((ixs n).map fun x => .tuple [eE x.1, .str (wAt x.1.2 x.2)]) := rfl
  refine p_bnd (a := false) ?_ ?_
  · show (if (false : Bool) = true then _ else _) = _
    rw [if_neg (by decide)]
    rfl
  · rw [if_neg (by decide)]
    refine p_need z (p_bnd (loopE (fun e i hi => ?_) (ixs n) fun x hx => (ixs_ok n x hx).2) rfl)
    refine p_need (a := ((.str e.1, wT e.2), .str (wAt e.2 i))) rfl ?_
    exact p_lift (is_word_ok hi) rfl
/-! ### odd values -/
def VAL : List D := [.int (-1), .int 3456, .bool true, .bool false, .str "0", .int 1000000000000000000000000000000000000000000000000000000000000, .int (-1000000000000000000000000000000000000000000000000000000000000), .tuple [.int 0], .none]
def heardS (v : D) (x : Bool) : Option Str := match m__law_heard (v, .bool x, ()) with
  | .ok l => reprD [.list l]
  | _ => none
def dueS (v : D) : Option Str := match m__law_is_number (v, .int 0, .int 3455, ()) with
  | .ok false => reprD [.list [.str "unfit", .bool true]]
  | .ok true => match m__law_of (v, ()) with
    | .ok d => reprD [.list [.str "told", d]]
    | _ => none
  | _ => none
def chkV (v : D) : Bool := (dueS v).isSome && (heardS v true == dueS v) && (heardS v false == dueS v)
theorem val_all : (VAL ++ ODD).all chkV = true := by decide +kernel
theorem val_ok {v : D} (h : v ∈ VAL ++ ODD) (x : Bool) : ∃ (l : List D) (s : Str) (isn : Bool), m__law_heard (v, .bool x, ()) = .ok l ∧ reprD [.list l] = some s ∧ m__law_is_number (v, .int 0, .int 3455, ()) = .ok isn ∧
    (isn = false → reprD [.list [.str "unfit", .bool true]] = some s) ∧ (isn = true → ∃ d, m__law_of (v, ()) = .ok d ∧ reprD [.list [.str "told", d]] = some s) := by
  have c := List.all_eq_true.mp val_all v h
  unfold chkV at c
  rw [Bool.and_eq_true, Bool.and_eq_true] at c
  obtain ⟨s, hs⟩ := Option.isSome_iff_exists.mp c.1.1
  have c1 : heardS v x = some s := by
    cases x
    · rw [eq_of_beq c.2, hs]
    · rw [eq_of_beq c.1.2, hs]
  unfold heardS at c1
  cases e : m__law_heard (v, .bool x, ()) with
  | no => rw [e] at c1; cases c1
  | ex q => rw [e] at c1; cases c1
  | ok l =>
    rw [e] at c1
    unfold dueS at hs
    cases e2 : m__law_is_number (v, .int 0, .int 3455, ()) with
    | no => rw [e2] at hs; cases hs
    | ex q => rw [e2] at hs; cases hs
    | ok b =>
      rw [e2] at hs
      cases b with
      | false => exact ⟨l, s, false, rfl, c1, rfl, fun _ => hs, fun z => by cases z⟩
      | true =>
        refine ⟨l, s, true, rfl, c1, rfl, (fun z => by cases z), fun _ => ?_⟩
        dsimp only at hs
        cases e3 : m__law_of (v, ()) with
        | no => rw [e3] at hs; cases hs
        | ex q => rw [e3] at hs; cases hs
        | ok d => rw [e3] at hs; exact ⟨d, rfl, hs⟩
theorem pow60 : powF (.int 10) (.int 60) = some (.int 1000000000000000000000000000000000000000000000000000000000000) := by kernel_rfl
end LawX

set_option Elab.async false
set_option linter.all false
set_option autoImplicit false
set_option maxRecDepth 100000
set_option maxHeartbeats 4000000
set_option pp.maxSteps 600
namespace LawX
open PySem PySem.Spec PyProof.Rows L2 Cl
open MO
theorem neSt (s : Str) : neF (.str s) (.str s) = some false := by rw [sP_neS, decide_eq_true rfl]; rfl
theorem eqSt (s : Str) : eqF (.str s) (.str s) = some true := by rw [sP_eqS, decide_eq_true rfl]
theorem eqIt (a : Int) : eqF (.int a) (.int a) = some true := by rw [sP_eqI, decide_eq_true rfl]
theorem eqBk (n : Nat) : eqF (bk n) (bk n) = some true := by
  have l : Ly 1 (bk n) := Ly.tup fun d hd => by
    obtain ⟨w, _, rfl⟩ := List.mem_map.mp hd
    have := (repBk n).ly
    exact Ly.str (by
      have h2 : PyData.canLayAll0 ((BL n).map PyData.str) = true := by simpa [bk, PyData.canLay0] using this
      have : ∀ (l : List Str), PyData.canLayAll0 (l.map PyData.str) = true → ∀ x ∈ l, PyData.strOk x = true := fun l => by
        induction l with
        | nil => intro _ x hx; simp at hx
        | cons a r ih =>
          intro h x hx
          rw [List.map_cons] at h
          simp only [PyData.canLayAll0, PyData.canLay0, Bool.and_eq_true] at h
          rcases List.mem_cons.mp hx with rfl | hx
          · exact h.1
          · exact ih h.2 x hx
      exact this _ h2 w (by assumption))
  show (if SeqAt.shaped (bk n) = true ∧ SeqAt.shaped (bk n) = true then some (PyData.eqv (bk n) (bk n)) else none) = _
  rw [if_pos ⟨l.shaped (by omega), l.shaped (by omega)⟩, PySem.SeqAt.eqv_refl _ l.ly]
theorem ix1 (a b : D) : ixF (.list [a, b]) (.int 1) = some b := rfl
theorem gt3 (i : Nat) : gtF (.int ((i : Nat) : Int)) (.int 3) = some (decide (3 < i)) := by
  show some (decide (3 < ((i : Nat) : Int))) = _
  congr 1
  exact decide_eq_decide.mpr (by omega)
theorem lt35 (n : Nat) : ltF (.int ((n : Nat) : Int)) (.int 3455) = some (decide (n < 3455)) := by
  show some (decide (((n : Nat) : Int) < 3455)) = _
  congr 1
  exact decide_eq_decide.mpr (by omega)
set_option maxHeartbeats 8000000 in
theorem law_math (sc : Addr) (ns : List Int) (hl : ns.length ≤ 63) : (m_law sc ns (sc, ())).wp (fun _ => none) (fun b _ => b = true) (fun _ _ => False) := by
  have big := sizeLine_eq
  have m60 : negF (.int 1000000000000000000000000000000000000000000000000000000000000) = some (.int (-1000000000000000000000000000000000000000000000000000000000000)) := rfl
  have n1 : negF (.int 1) = some (.int (-1)) := rfl
  have hbk := @book_ok
  have hnm := @named_ok
  have hno := @number_ok
  have hln := @law_number_ok
  have hhe := @heard_ok
  have hof := @law_of_ok
  have hbe := @book_error_ok
  have hva := @val_ok
  have hod := @odd_ok
  unfold m_law
  generalize m__law_book = BKF at hbk ⊢
  generalize m__law_named = NM at hnm ⊢
  generalize m_number_of = NO at hno ⊢
  generalize m__law_number = LN at hln ⊢
  generalize m__law_heard = HE at hhe hva ⊢
  generalize m__law_of = OF at hof hva ⊢
  generalize m_book_error = BE at hbe ⊢
  generalize m__law_is_number = ISN at hva ⊢
  generalize m__law_odd = OD at hod ⊢
  refine w_call (f := m__law_jar sc ns) (a := (sc, ())) rfl (jar_ok hl fun p g hp => ?_)
  refine w_need (a := rangeD 0 12) rfl ?_
  refine w_bnd (w_mono (w_forLn (fun n _ g => Jar (200 * n) g p) (fun _ _ => False) (fun _ _ => False) (fun d hd k t g1 hj => ?_) (hp.mono (show 200 * 12 ≤ 1000000000000 by omega))) fun r g1 hr => ?_)
  · obtain ⟨i, hi, rfl⟩ := List.mem_map.mp hd
    rw [Int.zero_add]
    refine w_need (a := .int ((i : Nat) : Int)) rfl ?_
    refine w_bnd (w_mono (Q' := fun y g' => Jar (200 * k + 100) g' p ∧ ∃ n, n < 3456 ∧ y = bk n) ?_ fun y g2 hy => ?_)
    · refine w_need (gt3 i) (w_ite (fun z => ?_) (fun z => ?_))
      · refine w_bnd (w_nox (show (callM [false] BKF [.o p]).wp _ _ _ from hbk (m := 200 * k + 100) (hj.mono (by omega)) fun b g2 hb j2 => ?_))
        obtain ⟨n, h1, e⟩ := bk_of hb
        exact w_pur ⟨j2, n, h1, e⟩
      · have : ¬ 3 < i := fun q => z (decide_eq_true q)
        obtain ⟨b, eb, hb⟩ := hnm (k := ((i : Nat) : Int)) (by omega) (by omega)
        refine w_callP (a := (.int ((i : Nat) : Int), ())) rfl eb ?_
        obtain ⟨n, h1, e⟩ := bk_of hb
        exact w_pur ⟨hj.mono (by omega), n, h1, e⟩
    · obtain ⟨j2, n, hn, rfl⟩ := hy
      obtain ⟨s1, e1⟩ := r1 n
      obtain ⟨s2, e2⟩ := r2 hn
      obtain ⟨s3, e3⟩ := r3 n
      have a1 := hno hn
      have a2 := hln hn
      have a3 := fun x => hhe hn x
      have a4 := hof hn
      have md : ∀ q : Int, modF (.int ((i : Nat) : Int)) (.int 2) = some (.int (((i : Nat) : Int) % 2)) := fun q => modF_i (by decide)
      simp only [sP_need, sP_pur, sP_ok, sP_lift, sP_nox, sP_pu, sP_jn, sP_bp, sP_bo, sP_ite, sP_nd, sP_c1, sP_c2, sP_c3, sP_c4, sP_c5, sP_u2, sP_u3, sP_u23, sP_asB, sP_asI, sP_itT, sP_itL, sP_tsL, sP_tsT, sP_lnL, sP_lnT, sP_ge, sP_gt, sP_le, sP_lt, sP_addI, sP_subI, sP_eqI, ib0, ib1, ib2, ib3, ib4, ib5, ib6, ib7, ib8, ib9, is0, is1, is2, ia0, ia1, ia2, id0, id1, ur3, ua3, ud2, its_row, its_sts, len_row, row_ne, row_in, row_hd, ninF_eq, eH_eq, neF_eq, cv1, cv2, cv3, cv4, cv5, cv6, cv7, cv8, cv9, ixL, ixS, ph_free, ph_late, ph_noted, ph_lying, ph_asleep, ph_woken, ph_calling, ph_passing, ph_yielding, ph_storing, mk_no, mk_called, mk_given, dw_put, dw_take, dw_wish, bk_ahead, bk_behind, bk_kept, bk_lost, bk_first, bk_last, bk_back, bk_passes, bk_drops, bk_free, bk_behind2, bk_any, bk_ofirst, wk_tries, wk_takes, wk_given, mn_one, mn_each, mn_all, ps_never', ps_left, ps_always, Option.map_some, if_true, if_false, Bool.false_eq_true, decide_true, decide_false, reduceCtorEq, Bool.not_true, Bool.not_false, decide_eq_true_eq, List.head?_cons, Bool.not_eq_true, sM_need, sM_pur, sM_ok, sM_bp, a1, a2, a3, a4, e1, e2, e3, pick1, neSt, eqSt, eq_self, md 0, eqBk]
      refine w_bnd (w_nox (draw_ok (m := 200 * k + 90) (n := 3456) (j2.mono (by omega)) (by decide) (by decide) fun y g3 j3 y0 y1 => ?_))
      obtain ⟨q, rfl⟩ : ∃ q : Nat, y = ((q : Nat) : Int) := ⟨y.toNat, by omega⟩
      have hq : q < 3456 := by omega
      refine w_bnd (w_mono (Q' := fun y g' => Jar (200 * k + 80) g' p ∧ ∃ m : Nat, m < 3456 ∧ y = .int ((m : Nat) : Int)) ?_ fun y g4 hy => ?_)
      · refine w_ite (fun z => ?_) (fun z => ?_)
        · exact w_pur ⟨j3.mono (by omega), n + 1, by omega, rfl⟩
        · refine w_nox (pick_ok (m := 200 * k + 80) (xs := [.int 0, .int 3455, .int 3454, .int 1, .int ((q : Nat) : Int)]) (j3.mono (by omega)) (by intro z; cases z) (by show 5 ≤ 100000; omega) fun x g5 hx j5 => ?_)
          refine ⟨j5, ?_⟩
          simp only [List.mem_cons, List.not_mem_nil, or_false] at hx
          rcases hx with rfl | rfl | rfl | rfl | rfl
          · exact ⟨0, by omega, rfl⟩
          · exact ⟨3455, by omega, rfl⟩
          · exact ⟨3454, by omega, rfl⟩
          · exact ⟨1, by omega, rfl⟩
          · exact ⟨q, hq, rfl⟩
      · obtain ⟨j4, m, hm, rfl⟩ := hy
        obtain ⟨s5, e5⟩ := r3 m
        have b1 := hno hm
        have b3 := hhe hm false
        have b4 := hof hm
        have b5 := hbe m
        have nn : notNF .none .none = some false := rfl
        simp only [sP_need, sP_pur, sP_ok, sP_lift, sP_nox, sP_pu, sP_jn, sP_bp, sP_bo, sP_ite, sP_nd, sP_c1, sP_c2, sP_c3, sP_c4, sP_c5, sP_u2, sP_u3, sP_u23, sP_asB, sP_asI, sP_itT, sP_itL, sP_tsL, sP_tsT, sP_lnL, sP_lnT, sP_ge, sP_gt, sP_le, sP_lt, sP_addI, sP_subI, sP_eqI, ib0, ib1, ib2, ib3, ib4, ib5, ib6, ib7, ib8, ib9, is0, is1, is2, ia0, ia1, ia2, id0, id1, ur3, ua3, ud2, its_row, its_sts, len_row, row_ne, row_in, row_hd, ninF_eq, eH_eq, neF_eq, cv1, cv2, cv3, cv4, cv5, cv6, cv7, cv8, cv9, ixL, ixS, ph_free, ph_late, ph_noted, ph_lying, ph_asleep, ph_woken, ph_calling, ph_passing, ph_yielding, ph_storing, mk_no, mk_called, mk_given, dw_put, dw_take, dw_wish, bk_ahead, bk_behind, bk_kept, bk_lost, bk_first, bk_last, bk_back, bk_passes, bk_drops, bk_free, bk_behind2, bk_any, bk_ofirst, wk_tries, wk_takes, wk_given, mn_one, mn_each, mn_all, ps_never', ps_left, ps_always, Option.map_some, if_true, if_false, Bool.false_eq_true, decide_true, decide_false, reduceCtorEq, Bool.not_true, Bool.not_false, decide_eq_true_eq, List.head?_cons, Bool.not_eq_true, sM_need, sM_pur, sM_ok, sM_bp, b1, b3, b4, b5, e5, ix1, neSt, eqSt, eqIt, eq_self, nn, n1, pow60, m60]
        refine w_bnd (w_nox (hod (m := 200 * k + 70) (j4.mono (by omega)) fun o g5 ho j5 => ?_))
        refine w_bnd (w_nox (pick_ok (m := 200 * k + 60) (xs := VAL ++ [o]) (j5.mono (by omega)) (by intro z; simp at z) (by show 9 + 1 ≤ 100000; omega) fun v g6 hv j6 => ?_))
        have hv : v ∈ VAL ++ ODD := by
          rcases List.mem_append.mp hv with z | z
          · exact List.mem_append_left _ z
          · rw [List.mem_singleton.mp z]; exact List.mem_append_right _ ho
        generalize hx : decide (((i : Nat) : Int) % 2 = 1) = x
        obtain ⟨l, s, isn, c1, c2, c3, c4, c5⟩ := hva hv x
        have eqx : eqF (.int (((i : Nat) : Int) % 2)) (.int 1) = some x := by rw [sP_eqI, hx]
        cases isn with
        | false =>
          simp only [sP_need, sP_pur, sP_ok, sP_lift, sP_nox, sP_pu, sP_jn, sP_bp, sP_bo, sP_ite, sP_nd, sP_c1, sP_c2, sP_c3, sP_c4, sP_c5, sP_u2, sP_u3, sP_u23, sP_asB, sP_asI, sP_itT, sP_itL, sP_tsL, sP_tsT, sP_lnL, sP_lnT, sP_ge, sP_gt, sP_le, sP_lt, sP_addI, sP_subI, sP_eqI, ib0, ib1, ib2, ib3, ib4, ib5, ib6, ib7, ib8, ib9, is0, is1, is2, ia0, ia1, ia2, id0, id1, ur3, ua3, ud2, its_row, its_sts, len_row, row_ne, row_in, row_hd, ninF_eq, eH_eq, neF_eq, cv1, cv2, cv3, cv4, cv5, cv6, cv7, cv8, cv9, ixL, ixS, ph_free, ph_late, ph_noted, ph_lying, ph_asleep, ph_woken, ph_calling, ph_passing, ph_yielding, ph_storing, mk_no, mk_called, mk_given, dw_put, dw_take, dw_wish, bk_ahead, bk_behind, bk_kept, bk_lost, bk_first, bk_last, bk_back, bk_passes, bk_drops, bk_free, bk_behind2, bk_any, bk_ofirst, wk_tries, wk_takes, wk_given, mn_one, mn_each, mn_all, ps_never', ps_left, ps_always, Option.map_some, if_true, if_false, Bool.false_eq_true, decide_true, decide_false, reduceCtorEq, Bool.not_true, Bool.not_false, decide_eq_true_eq, List.head?_cons, Bool.not_eq_true, sM_need, sM_pur, sM_ok, sM_bp, c3, eqx, c1, c2, c4 rfl, neSt, eqSt, eq_self]
          refine w_jn ?_
          simp only [sP_need, sP_pur, sP_ok, sP_lift, sP_nox, sP_pu, sP_jn, sP_bp, sP_bo, sP_ite, sP_nd, sP_c1, sP_c2, sP_c3, sP_c4, sP_c5, sP_u2, sP_u3, sP_u23, sP_asB, sP_asI, sP_itT, sP_itL, sP_tsL, sP_tsT, sP_lnL, sP_lnT, sP_ge, sP_gt, sP_le, sP_lt, sP_addI, sP_subI, sP_eqI, ib0, ib1, ib2, ib3, ib4, ib5, ib6, ib7, ib8, ib9, is0, is1, is2, ia0, ia1, ia2, id0, id1, ur3, ua3, ud2, its_row, its_sts, len_row, row_ne, row_in, row_hd, ninF_eq, eH_eq, neF_eq, cv1, cv2, cv3, cv4, cv5, cv6, cv7, cv8, cv9, ixL, ixS, ph_free, ph_late, ph_noted, ph_lying, ph_asleep, ph_woken, ph_calling, ph_passing, ph_yielding, ph_storing, mk_no, mk_called, mk_given, dw_put, dw_take, dw_wish, bk_ahead, bk_behind, bk_kept, bk_lost, bk_first, bk_last, bk_back, bk_passes, bk_drops, bk_free, bk_behind2, bk_any, bk_ofirst, wk_tries, wk_takes, wk_given, mn_one, mn_each, mn_all, ps_never', ps_left, ps_always, Option.map_some, if_true, if_false, Bool.false_eq_true, decide_true, decide_false, reduceCtorEq, Bool.not_true, Bool.not_false, decide_eq_true_eq, List.head?_cons, Bool.not_eq_true, sM_need, sM_pur, sM_ok, sM_bp, c3, eqx, c1, c2, c4 rfl, neSt, eqSt, eq_self]
          exact w_pur (j6.mono (by omega))
        | true =>
          obtain ⟨d, c6, c7⟩ := c5 rfl
          simp only [sP_need, sP_pur, sP_ok, sP_lift, sP_nox, sP_pu, sP_jn, sP_bp, sP_bo, sP_ite, sP_nd, sP_c1, sP_c2, sP_c3, sP_c4, sP_c5, sP_u2, sP_u3, sP_u23, sP_asB, sP_asI, sP_itT, sP_itL, sP_tsL, sP_tsT, sP_lnL, sP_lnT, sP_ge, sP_gt, sP_le, sP_lt, sP_addI, sP_subI, sP_eqI, ib0, ib1, ib2, ib3, ib4, ib5, ib6, ib7, ib8, ib9, is0, is1, is2, ia0, ia1, ia2, id0, id1, ur3, ua3, ud2, its_row, its_sts, len_row, row_ne, row_in, row_hd, ninF_eq, eH_eq, neF_eq, cv1, cv2, cv3, cv4, cv5, cv6, cv7, cv8, cv9, ixL, ixS, ph_free, ph_late, ph_noted, ph_lying, ph_asleep, ph_woken, ph_calling, ph_passing, ph_yielding, ph_storing, mk_no, mk_called, mk_given, dw_put, dw_take, dw_wish, bk_ahead, bk_behind, bk_kept, bk_lost, bk_first, bk_last, bk_back, bk_passes, bk_drops, bk_free, bk_behind2, bk_any, bk_ofirst, wk_tries, wk_takes, wk_given, mn_one, mn_each, mn_all, ps_never', ps_left, ps_always, Option.map_some, if_true, if_false, Bool.false_eq_true, decide_true, decide_false, reduceCtorEq, Bool.not_true, Bool.not_false, decide_eq_true_eq, List.head?_cons, Bool.not_eq_true, sM_need, sM_pur, sM_ok, sM_bp, c3, eqx, c1, c2, c6, c7, neSt, eqSt, eq_self]
          refine w_jn ?_
          simp only [sP_need, sP_pur, sP_ok, sP_lift, sP_nox, sP_pu, sP_jn, sP_bp, sP_bo, sP_ite, sP_nd, sP_c1, sP_c2, sP_c3, sP_c4, sP_c5, sP_u2, sP_u3, sP_u23, sP_asB, sP_asI, sP_itT, sP_itL, sP_tsL, sP_tsT, sP_lnL, sP_lnT, sP_ge, sP_gt, sP_le, sP_lt, sP_addI, sP_subI, sP_eqI, ib0, ib1, ib2, ib3, ib4, ib5, ib6, ib7, ib8, ib9, is0, is1, is2, ia0, ia1, ia2, id0, id1, ur3, ua3, ud2, its_row, its_sts, len_row, row_ne, row_in, row_hd, ninF_eq, eH_eq, neF_eq, cv1, cv2, cv3, cv4, cv5, cv6, cv7, cv8, cv9, ixL, ixS, ph_free, ph_late, ph_noted, ph_lying, ph_asleep, ph_woken, ph_calling, ph_passing, ph_yielding, ph_storing, mk_no, mk_called, mk_given, dw_put, dw_take, dw_wish, bk_ahead, bk_behind, bk_kept, bk_lost, bk_first, bk_last, bk_back, bk_passes, bk_drops, bk_free, bk_behind2, bk_any, bk_ofirst, wk_tries, wk_takes, wk_given, mn_one, mn_each, mn_all, ps_never', ps_left, ps_always, Option.map_some, if_true, if_false, Bool.false_eq_true, decide_true, decide_false, reduceCtorEq, Bool.not_true, Bool.not_false, decide_eq_true_eq, List.head?_cons, Bool.not_eq_true, sM_need, sM_pur, sM_ok, sM_bp, c3, eqx, c1, c2, c6, c7, neSt, eqSt, eq_self]
          exact w_pur (j6.mono (by omega))
  · cases r with
    | nx t => exact w_pur rfl
    | bk t => exact hr.elim
    | rt q => exact hr.elim
end LawX
open PySem PySem.W PyProof.Rows
set_option maxHeartbeats 0 in
theorem PySem.Challenge.cw_leftasleep_k02_whole_numbers_of_books_holds : PySem.Challenge.rw_leftasleep_k02_whole_numbers_of_books.Holds := by
  w_on; o_law; k_head; (case hw => w_witness2)
  k_fill
  refine Cl.law_end (l := PySem.Challenge.rw_leftasleep_k02_whole_numbers_of_books) (n := 63) (lvl := 4) (px := "script") (f := fun sc ns => LawX.m_law sc ns) rfl (by decide) rfl ⟨rfl, by decide, by decide⟩ (fun w h Y => PySem.W.kIn_of Y) ?F LawX.law_math
  case F =>
    intro w mg h KX G sc ns base kb nb
    refine' LawX.cal_law (LawX.wd_mk KX G ?a0 ?l0 ?c0 ?k0 ?a1 ?l1 ?c1 ?k1 ?a2 ?l2 ?c2 ?k2 ?a3 ?l3 ?c3 ?k3 ?a4 ?l4 ?c4 ?k4 ?a5 ?l5 ?c5 ?k5 ?a6 ?l6 ?c6 ?k6 ?a7 ?l7 ?c7 ?k7 ?a8 ?l8 ?c8 ?k8 ?a9 ?l9 ?c9 ?k9 ?a10 ?l10 ?c10 ?k10 ?a11 ?l11 ?c11 ?k11 ?a12 ?l12 ?c12 ?k12 ?a13 ?l13 ?c13 ?k13 ?a14 ?l14 ?c14 ?k14 ?a15 ?l15 ?c15 ?k15 ?a16 ?l16 ?c16 ?k16 ?z_bool ?z_int ?z_isinstance ?z_len ?z_list ?z_range ?z_repr ?z_str ?z_tuple ?z_zip ?y_MAX_BOOKS ?v_MAX_BOOKS ?y_ENTRIES ?v_ENTRIES ?ea_SleepError ?eb_SleepError ?ec_SleepError ?ea_Unfit ?eb_Unfit ?ec_Unfit ?ed_Unfit ?ee_Unfit ?ef_Unfit ?eg_Unfit ?eh_Unfit ?ei_Unfit ?ej_Unfit ?ek_Unfit_R ?el_Unfit ?em_Unfit ?en_Unfit ?eo_Unfit ?ep_Unfit ?eq_Unfit ?er_Unfit ?es_Unfit_R ?et_Unfit_R ?eu_Unfit ?ev_Unfit_K ?ew_Unfit ?ex_Unfit ?ez_Unfit_SleepError ?fa ?fb_R ?fc ?fd ?fe) sc ns
    (case a0 => k_is); (case l0 => k_is); (case c0 => k_is); (case k0 => k_is); (case a1 => k_is); (case l1 => k_is); (case c1 => k_is); (case k1 => k_is); (case a2 => k_is); (case l2 => k_is); (case c2 => k_is); (case k2 => k_is); (case a3 => k_is); (case l3 => k_is); (case c3 => k_is); (case k3 => k_is); (case a4 => k_is); (case l4 => k_is); (case c4 => k_is); (case k4 => k_is); (case a5 => k_is); (case l5 => k_is); (case c5 => k_is); (case k5 => k_is); (case a6 => k_is); (case l6 => k_is); (case c6 => k_is); (case k6 => k_is); (case a7 => k_is); (case l7 => k_is); (case c7 => k_is); (case k7 => k_is); (case a8 => k_is); (case l8 => k_is); (case c8 => k_is); (case k8 => k_is); (case a9 => k_is); (case l9 => k_is); (case c9 => k_is); (case k9 => k_is); (case a10 => k_is); (case l10 => k_is); (case c10 => k_is); (case k10 => k_is); (case a11 => k_is); (case l11 => k_is); (case c11 => k_is); (case k11 => k_is); (case a12 => k_is); (case l12 => k_is); (case c12 => k_is); (case k12 => k_is); (case a13 => k_is); (case l13 => k_is); (case c13 => k_is); (case k13 => k_is); (case a14 => k_is); (case l14 => k_is); (case c14 => k_is); (case k14 => k_is); (case a15 => k_is); (case l15 => k_is); (case c15 => k_is); (case k15 => k_is); (case a16 => k_is); (case l16 => k_is); (case c16 => k_is); (case k16 => k_is); (case z_bool => k_is); (case z_int => k_is); (case z_isinstance => k_is); (case z_len => k_is); (case z_list => k_is); (case z_range => k_is); (case z_repr => k_is); (case z_str => k_is); (case z_tuple => k_is); (case z_zip => k_is); (case y_MAX_BOOKS => k_is); (case v_MAX_BOOKS => kernel_rfl); (case y_ENTRIES => k_is); (case v_ENTRIES => kernel_rfl); (case ea_SleepError => k_is); (case eb_SleepError => k_is); (case ec_SleepError => k_is); (case ea_Unfit => k_is); (case eb_Unfit => k_is); (case ec_Unfit => k_is); (case ed_Unfit => k_is); (case ee_Unfit => k_is); (case ef_Unfit => k_is); (case eg_Unfit => k_is); (case eh_Unfit => k_is); (case ei_Unfit => k_is); (case ej_Unfit => k_is); (case ek_Unfit_R => first | exact rfl | decide +kernel); (case el_Unfit => k_is); (case em_Unfit => k_is); (case en_Unfit => k_is); (case eo_Unfit => k_is); (case ep_Unfit => k_is); (case eq_Unfit => k_is); (case er_Unfit => k_is); (case es_Unfit_R => first | exact rfl | decide +kernel); (case et_Unfit_R => first | exact rfl | decide +kernel); (case eu_Unfit => k_is); (case ev_Unfit_K => kernel_rfl); (case ew_Unfit => k_is); (case ex_Unfit => k_is); (case ez_Unfit_SleepError => k_is); (case fa => k_is); (case fb_R => first | exact rfl | decide +kernel); (case fc => k_is); (case fd => k_is); (case fe => k_is)

